import PyProof.Rows.All
import Wide.All
import OpenK.AllK
import Wide.FinOn
import KE.KStateDown
import Lean
import HandS.ForMost
import HandS.ForExc
import HandS.ExcValue
import HandS.ExcIs
import HandS.IsInst
import HandS.Wide
import HandS.WideBits
import HandS.Flow
import HandS.Style
import HandS.Conv
import HandS.More
import HandS.Evl
import HandS.Defaults
import HandS.Head0
import HandS.Head1
import HandS.Head2
import HandS.HeadEnd
import HandS.HeadHook1
import HandS.HeadHook2
import HandS.HeadHook3
import HandS.HeadHook4
import HandS.Small
import PySem.Challenge.RW_setsums_k13_a_book
set_option Elab.async false
set_option linter.all false
set_option maxRecDepth 100000
set_option maxHeartbeats 1000000
/-! the layer of this program's laws over HandS -/
namespace SS
open PySem PySem.Spec PyProof.Rows L2 Evl

/-! ### heaps -/
theorem ex_upd {S H : Hp} {p : Addr} {o : HO} (e : Ex S H) (h : H p = none) : Ex S (upd H p o) := e.trans (Ex.new h)
theorem ex_mut {S H : Hp} {p : Addr} {o : HO} (e : Ex S H) (h : S p = none) : Ex S (upd H p o) := Ex.mut e h
theorem upd_at {H G : Hp} {p : Addr} {o : HO} (h : upd H p o = G) : G p = some o := by
  rw [← h]
  exact upd_same
theorem upd_ex {H G : Hp} {p : Addr} {o : HO} (h : upd H p o = G) (n : H p = none) : Ex H G := by
  rw [← h]
  exact Ex.new n
theorem ne_fresh {H : Hp} {p q : Addr} {o : HO} (h : H p = some o) (h' : H q = none) : p ≠ q := ne_of_none h h'

/-! ### the calls of defs -/
/-- the def x is there and keeps its promise -/
structure Has (P : Program) (w : World) (K : PySem.W.Frag) (mg : Str → Option Value) (base : Heap) (k : Nat) (x : Str) (ps : List Str) (sp : Sp) : Prop where
  ex : ∃ (f : Addr) (fd : FuncData), FnOk P w K mg base (L2.CX P w) k f fd ps sp ∧ mg x = some (.ref f) ∧ PySem.W.keepIn K (.ref f) = true ∧ Binds K fd ps [] ∧ ∀ (s : Shared) (us : List Value), us.length = ps.length → BindsTo s fd ⟨us, []⟩ (ps.zip us)
section
variable {X : Cx} {k : Nat} {x : Str} {ps : List Str} {sp : Sp} {E : XK} {p pos : Pos} {e : Expr} {es : List Expr} {t : TA}
theorem pe_has (h : Has X.prog X.w X.K X.mg X.base k x ps sp) (hr : Room k X.A) (hg : Gl X x) (hx : Passes (L2.CX X.prog X.w) X E)
    (ha : PA X (e :: es) t) (hdb : (x == ("__debug__" : Str)) = false := by decide) (he : starEach (e :: es) X.env = (false, eval e X.env) :: starEach es X.env := by rfl) (hpl : (backTo pos (starEach es X.env)).any (·.1) = false := by rfl) :
    PE X (.Call (.Name x p) (e :: es) [] pos) (tCall sp [] E t) := by
  obtain ⟨f, fd, F, hm, hk, hb, _⟩ := h.ex
  exact pe_call F hr hg hm hk hb .nil hx ha hdb he hpl
theorem pe_hasS {W : WX} (h : Has X.prog X.w X.K X.mg X.base k x ps sp) (hr : Room k X.A) (hg : Gl X x) (tk : Takes X W)
    (ha : PA X (e :: es) t) (hdb : (x == ("__debug__" : Str)) = false := by decide) (he : starEach (e :: es) X.env = (false, eval e X.env) :: starEach es X.env := by rfl) (hpl : (backTo pos (starEach es X.env)).any (·.1) = false := by rfl) :
    PE X (.Call (.Name x p) (e :: es) [] pos) (tCallS sp (WE W) t) := by
  obtain ⟨f, fd, F, hm, hk, hb, _⟩ := h.ex
  exact pe_callS F hr hg hm hk hb (fun σ => passAt tk σ) ha hdb he hpl
/-- a def as the head tells it -/
structure DefAt (K : PySem.W.Frag) (mg : Str → Option Value) (x : Str) (st : Stmt) (ps : List Str) : Prop where
  ex : ∃ (f : Addr) (fd : FuncData), FunD K x x (defArgs st) (defBody st) (defScope st) [] [] f fd ∧ mg x = some (.ref f) ∧ Binds K fd ps [] ∧ ∀ (s : Shared) (us : List Value), us.length = ps.length → BindsTo s fd ⟨us, []⟩ (ps.zip us)
theorem DefAt.has {P : Program} {w : World} {K : PySem.W.Frag} {mg : Str → Option Value} {base : Heap} {x : Str} {st : Stmt} {N ps : List Str} {k : Nat} {sp : Sp} (D : DefAt K mg x st ps) (S : FnScope N ps (defScope st)) (len : ∀ vs H Q E, sp vs H Q E → vs.length = ps.length)
    (hbody : ∀ (f : Addr) (cdv : Value) (A : Around) (outer : List Env) (s : Shared) (H : Hp) (vs : List V) (Q : VK) (E : XK), Room k (A.deeper (envOfC x (defScope st) s.heap.objs.size f cdv)) → sp vs H Q E →
      ∃ t, PSs (cxOf (L2.CX P w) P w K mg base N x (defScope st) f cdv A outer s H E) (defBody st) t ∧ t { nx := fun _ H' => Q .non H', rt := Q } (start N vs) H) : Has P w K mg base (k + 1) x ps sp := by
  obtain ⟨f, fd, F, hm, hb, ha⟩ := D.ex
  exact ⟨f, fd, FunD.ok F S len (hbody f), hm, F.kp, hb, ha⟩
theorem Has.mono {P : Program} {w : World} {K : PySem.W.Frag} {mg : Str → Option Value} {base : Heap} {x : Str} {j k : Nat} (h : Has P w K mg base j x ps sp) (l : j ≤ k) : Has P w K mg base k x ps sp := by
  obtain ⟨f, fd, F, r⟩ := h.ex
  exact ⟨f, fd, F.mono l, r⟩
/-- in a def's body: what a callee lets out goes on -/
theorem passB {P : Program} {w : World} {K : PySem.W.Frag} {mg : Str → Option Value} {base : Heap} {N : List Str} {qual : Str} {scope : Scope} {f : Addr} {cd : Value} {A : Around} {outer : List Env} {s : Shared} {H : Hp} {E : XK} :
    Passes (L2.CX P w) (cxOf (L2.CX P w) P w K mg base N qual scope f cd A outer s H E) E := passes_call (takes_of rfl rfl rfl rfl) (fun _ _ _ _ h => h)
theorem takesB {P : Program} {w : World} {K : PySem.W.Frag} {mg : Str → Option Value} {base : Heap} {N : List Str} {qual : Str} {scope : Scope} {f : Addr} {cd : Value} {A : Around} {outer : List Env} {s : Shared} {H : Hp} {E : XK} :
    Takes (cxOf (L2.CX P w) P w K mg base N qual scope f cd A outer s H E) (fun cls d _ H => E cls d H) := takes_of rfl rfl rfl rfl
end

/-! ### an int of the module -/
theorem pe_kint {X : Cx} {x : Str} {i : Int} {pos : Pos} (h : ∃ t, X.mg x = some (.int i t)) (hg : Gl X x) (hd : (x == ("__debug__" : Str)) = false := by decide) : PE X (.Name x pos) (tC (.int i)) := by
  obtain ⟨t, ht⟩ := h
  exact pe_glob hg ht ⟨_, rfl⟩ hd

/-- a built-in class as a value -/
theorem pe_ty {X : Cx} {x : Str} {pos : Pos} (n : String) (hg : Gl X x) (hm : X.mg x = none) (hv : bootBuiltins x = some (.type n)) (hn : x ≠ "__name__" := by decide) (hd : (x == ("__debug__" : Str)) = false := by decide) : PE X (.Name x pos) (tC (.ty n)) :=
  pe_bltn hg hm hv (v := .ty n) rfl hn hd
/-! ### types -/
inductive Ty where | non | bl | int | str | lst | tup | dct
  deriving DecidableEq
def Ty.nm : Ty → String
  | .non => "NoneType" | .bl => "bool" | .int => "int" | .str => "str" | .lst => "list" | .tup => "tuple" | .dct => "dict"
def Ty.isa : Ty → Ty → Bool
  | .bl, .int => true
  | a, b => decide (a = b)
def Ty.ask : Ty → Bool
  | .non => false
  | _ => true
theorem kit_isa {a b : Ty} (h : b.ask = true) : kitB a.nm b.nm = some (a.isa b) := by
  cases b <;> first | (exact absurd h (by decide)) | (cases a <;> decide +kernel)
/-- a value whose type is known -/
def Kd (K : PySem.W.Frag) (H : Hp) (x : V) (t : Ty) : Prop := TyX K H x (.type t.nm)
section
variable {K : PySem.W.Frag} {H H' : Hp} {a : Addr} {xs : List V}
theorem Kd.non : Kd K H .non .non := .base .non
theorem Kd.bl (b : Bool) : Kd K H (.bl b) .bl := .base (.bl b)
theorem Kd.int (i : Int) : Kd K H (.int i) .int := .base (.int i)
theorem Kd.str (s : Str) : Kd K H (.str s) .str := .base (.str s)
theorem Kd.lst (h : SqL K H a xs) : Kd K H (.ref a) .lst := by
  rcases h with (h | ⟨o, h⟩) | ⟨o, its, n, h, c, _⟩
  · exact .base (.lst h)
  · exact .base (.frz h)
  · exact .kList h c
theorem Kd.tup (h : SqT K H a xs) : Kd K H (.ref a) .tup := by
  rcases h with (h | ⟨o, h⟩) | ⟨o, its, n, h, c, _⟩
  · exact .base (.tup h)
  · exact .fTuple h
  · exact .kTuple h c
theorem Kd.dct {kvs : List (Key × V)} (h : H a = some (.dK kvs)) : Kd K H (.ref a) .dct := .base (.dK h)
end
/-- isinstance(x, T), T built-in -/
def rIsK (K : PySem.W.Frag) : List V → Hp → VK → Prop := fun xs H Q => ∃ (x : V) (t c : Ty), xs = [x, .ty c.nm] ∧ c.ask = true ∧ Kd K H x t ∧ Q (.bl (t.isa c)) H
theorem rIsK_ty {K : PySem.W.Frag} {x : V} {H : Hp} {Q : VK} {n : String} (c : Ty) (hn : n = c.nm) (ha : c.ask = true) : rIsK K [x, .ty n] H Q = (∃ t, Kd K H x t ∧ Q (.bl (t.isa c)) H) := by
  subst hn
  apply propext
  constructor
  · rintro ⟨x', t, c', e, _, k, q⟩
    injection e with e1 e2
    injection e2 with e3 _
    injection e3 with e4
    have ec : c = c' := by
      cases c <;> cases c' <;> first | rfl | (exact absurd e4 (by decide))
    subst e1 ec
    exact ⟨t, k, q⟩
  · rintro ⟨t, k, q⟩
    exact ⟨x, t, c, rfl, ha, k, q⟩
theorem is_int {K : PySem.W.Frag} {x : V} {H : Hp} {Q : VK} : rIsK K [x, .ty "int"] H Q = (∃ t, Kd K H x t ∧ Q (.bl (t.isa .int)) H) := rIsK_ty .int rfl rfl
theorem is_bool {K : PySem.W.Frag} {x : V} {H : Hp} {Q : VK} : rIsK K [x, .ty "bool"] H Q = (∃ t, Kd K H x t ∧ Q (.bl (t.isa .bl)) H) := rIsK_ty .bl rfl rfl
theorem is_list {K : PySem.W.Frag} {x : V} {H : Hp} {Q : VK} : rIsK K [x, .ty "list"] H Q = (∃ t, Kd K H x t ∧ Q (.bl (t.isa .lst)) H) := rIsK_ty .lst rfl rfl
theorem is_tuple {K : PySem.W.Frag} {x : V} {H : Hp} {Q : VK} : rIsK K [x, .ty "tuple"] H Q = (∃ t, Kd K H x t ∧ Q (.bl (t.isa .tup)) H) := rIsK_ty .tup rfl rfl
theorem call_isK {X : Cx} : CallR X (.builtin "isinstance") (rIsK X.K) := by
  intro pins s σ H xs us Q I r h
  obtain ⟨x, t, c, rfl, ha, k, q⟩ := h
  exact call_isi pins s σ H _ us Q I r ⟨x, .ty c.nm, _, _, _, rfl, .ty _, k, kit_ty (kit_isa ha), q⟩

/-! ### operators -/
/-- a product: one factor small, or both together below a million bits -/
def CMu (i j : Int) : Prop := CMul i j ∨ CMulW i j
theorem op_mu {X : Cx} : OpR X (binaryOp .Mult) (rI CMu fun i j => .int (i * j)) := opI fun _ _ _ _ _ _ _ hc q => mul_int q (hc.elim CMul.ok CMulW.ok)
/-- a power -/
def CPw (i j : Int) : Prop := 0 ≤ j ∧ (Builtin.Int.intBits i : Int) * j ≤ 2 ^ 27
theorem op_pw {X : Cx} : OpR X (binaryOp .Pow) (rI CPw fun i j => .int (i ^ j.toNat)) := opI fun _ _ _ _ _ _ _ hc q => pow_int hc.1 hc.2 q
theorem pow2c (i : Nat) : (2 : Int) ^ i = ((2 ^ i : Nat) : Int) := by norm_cast
theorem op_sh {X : Cx} : OpR X (binaryOp .LShift) (rI CPow fun i j => .int (i * ((2 ^ j.toNat : Nat) : Int))) := opI fun _ _ _ _ _ _ _ hc q => lshift_int_small hc.1 hc.2.1 hc.2.2 (by rw [pow2c]; exact q)
theorem op_sr {X : Cx} : OpR X (binaryOp .RShift) (rI (fun _ j => 0 ≤ j) fun i j => .int (i / ((2 ^ j.toNat : Nat) : Int))) := opI fun i j s t u Q h hc q =>
  rshift_int hc (by rw [show i.fdiv (2 ^ j.toNat) = i / ((2 ^ j.toNat : Nat) : Int) by rw [← pow2c]; exact Int.fdiv_eq_ediv_of_nonneg i (two_pow_nn _)]; exact q)
theorem band_nn (n m : Nat) : Builtin.bitAnd (n : Int) (m : Int) = ((n &&& m : Nat) : Int) := rfl
theorem bor_nn (n m : Nat) : Builtin.bitOr (n : Int) (m : Int) = ((n ||| m : Nat) : Int) := bitOr_nn (by omega) (by omega)
theorem bxor_nn (n m : Nat) : Builtin.bitXor (n : Int) (m : Int) = ((n ^^^ m : Nat) : Int) := Bits.bitXor_pp (by omega) (by omega)

/-! ### own exception classes -/
structure ExcT (K : PySem.W.Frag) (mg : Str → Option Value) (x : Str) : Prop where
  g : mg x = some (.ref (He.ga K x))
  xc : PySem.W.excIn K (He.ga K x) He.veBase "ValueError.__new__" = true
  k : PySem.W.keepIn K (.ref (He.ga K x)) = true
  b : PySem.W.subIn K (.ref (He.ga K x)) (.type "BaseException") = some true
  t : PySem.W.typeIn K (.ref (He.ga K x)) = some (.type "type")
theorem ps_rz {X : Cx} {W : WX} {x m : Str} {j : Nat} {p p2 pos pos' : Pos} (hc : X.calm = true) (tk : Takes X W) (E : ExcT X.K X.mg x) (hg : Gl X x) (hdb : (x == ("__debug__" : Str)) = false := by decide) :
    PS X (.Raise (some (.Call (.Name x p) [.Constant (.str m) j p2] [] pos)) none pos') (fun _ σ H => W (.ref (He.ga X.K x)) none σ H) :=
  ps_raise hc tk (pmk_own PySem.F.excBase_ValueError E.xc E.g E.k (raises_own E.b E.t) hg hdb)


theorem k_cls {X : Cx} (K : PySem.W.Frag) {x : Str} {pos : Pos} (E : ExcT K X.mg x) (hg : Gl X x) (hd : (x == ("__debug__" : Str)) = false := by decide) : PE X (.Name x pos) (tC (.ref (He.ga K x))) := pe_glob hg E.g (show L2.RelV (.ref (He.ga K x)) (.ref (He.ga K x)) from rfl) hd
/-! ### the rules with the written part named (within a comprehension) -/
section
variable {X : Cx} (K : PySem.W.Frag)
theorem k_isK (h : X.K = K := by rfl) : CallR X (.builtin "isinstance") (rIsK K) := h ▸ call_isK
theorem k_ixl (h : X.K = K := by rfl) : IxR X (rIxL K) := h ▸ ix_list
theorem k_ixt (h : X.K = K := by rfl) : IxR X (rIxT K) := h ▸ ix_tup
theorem k_in (h : X.K = K := by rfl) : OpR X (compareOp .In) (rIn K false) := h ▸ op_in_seq
theorem k_nin (h : X.K = K := by rfl) : OpR X (compareOp .NotIn) (rIn K true) := h ▸ op_notIn_seq
theorem k_eqD (hu : X.A.units + 64 < cLine) (h : X.K = K := by rfl) : OpR X (compareOp .Eq) (rEqD K) := h ▸ op_eqD hu
theorem k_neD (hu : X.A.units + 64 < cLine) (h : X.K = K := by rfl) : OpR X (compareOp .NotEq) (rNeD K) := h ▸ op_neD hu
theorem k_len (h : X.K = K := by rfl) : CallR X (.builtin "len") (rLenS K) := h ▸ call_len_seq
theorem k_list (h : X.K = K := by rfl) : CallR X (.type "list") (rListS K) := h ▸ call_list_of
theorem k_rz {W : WX} {x m : Str} {j : Nat} {p p2 pos pos' : Pos} (hc : X.calm = true) (tk : Takes X W) (E : ExcT K X.mg x) (hg : Gl X x) (hK : X.K = K := by rfl) (hdb : (x == ("__debug__" : Str)) = false := by decide) :
    PS X (.Raise (some (.Call (.Name x p) [.Constant (.str m) j p2] [] pos)) none pos') (fun _ σ H => W (.ref (He.ga K x)) none σ H) := by
  subst hK
  exact ps_rz hc tk E hg hdb
theorem k_tuple (h : X.K = K := by rfl) : CallR X (.type "tuple") (fun xs H Q => ∃ p ys, xs = [.ref p] ∧ ((SqL K H p ys ∧ ∀ l, H l = none → Q (.ref l) (upd H l (.tup ys))) ∨ (SqT K H p ys ∧ Q (.ref p) H))) := h ▸ call_tuple_of
theorem k_bm0 {o : Expr} {to : TE} {name : Str} {apos cpos : Pos} {T id : String} {r : V → List V → Hp → VK → Prop} (pa : PlainAttrs T) (slot : Slot T name id) (hty : typeOf (.builtin id) = pure (.type "method_descriptor")) (hm : MtR X id r) (ho : PE X o to)
    (hK : X.K = K := by rfl) (hbase : attributeBase o name X.env (eval o X.env) = eval o X.env := by rfl) (hline : (apos.endLine == cpos.line) = true := by rfl) : PE X (.Call (.Attribute o name apos) [] [] cpos) (tBM0 K T r to) := by
  subst hK
  exact pe_bm0 pa slot hty hm ho hbase hline
theorem k_bm {o e : Expr} {es : List Expr} {to : TE} {t : TA} {name : Str} {apos cpos : Pos} {T id : String} {r : V → List V → Hp → VK → Prop} (pa : PlainAttrs T) (slot : Slot T name id) (hty : typeOf (.builtin id) = pure (.type "method_descriptor")) (hm : MtR X id r) (ho : PE X o to) (ha : PA X (e :: es) t)
    (hK : X.K = K := by rfl) (hbase : attributeBase o name X.env (eval o X.env) = eval o X.env := by rfl)
    (hfew : ((backTo cpos (starEach (e :: es) X.env)).all (fun x => !x.1) && (backToKw cpos (keywordEach [] X.env)).all (fun x => x.1.isSome)
      && decide ((e :: es).length + ([] : List Keyword).length + (if ([] : List Keyword).isEmpty then 0 else 1) < 30)) = true := by rfl)
    (hline : (apos.endLine == cpos.line) = true := by rfl) (hs : starEach (e :: es) X.env = (false, eval e X.env) :: starEach es X.env := by rfl) (hplain : (backTo cpos (starEach es X.env)).any (·.1) = false := by rfl) :
    PE X (.Call (.Attribute o name apos) (e :: es) [] cpos) (tBM K T r to t) := by
  subst hK
  exact pe_bm pa slot hty hm ho ha hbase hfew hline hs hplain
theorem k_sum (hc : X.calm = true) (h : X.K = K := by rfl) : CallR X (.builtin "sum") (rSum K) := h ▸ cr_sum hc
theorem k_all (hc : X.calm = true) (h : X.K = K := by rfl) : CallR X (.builtin "all") (rAll K) := h ▸ cr_all hc
theorem k_sorted (h : X.K = K := by rfl) : CallR X (.builtin "sorted") (rSorted K) := h ▸ cr_sorted
theorem k_sll (h : X.K = K := by rfl) : SlR X (rSlL K) := h ▸ sl_list
theorem k_pil {tg l : Expr} {tl : TE} (hl : PE X l tl) (h : X.K = K := by rfl) : PI X tg l (iList K tl) := h ▸ pi_list hl
theorem k_pgt {es : List Expr} {k : Nat} {t : TGs} {n : Nat} {pos : Pos} (hc : X.calm = true) (hp : PGs X es t) (hn : (assignEach es X.env).length = n := by rfl) (hst : (assignEach es X.env).findIdx? (·.1) = none := by rfl) (h : X.K = K := by rfl) : PG X (.Tuple es k pos) (gTup K n t) := h ▸ pg_tup hc hp hn hst
theorem k_pgl {es : List Expr} {k : Nat} {t : TGs} (n : Nat) {pos : Pos} (hc : X.calm = true) (hp : PGs X es t) (hn : (assignEach es X.env).length = n := by rfl) (hst : (assignEach es X.env).findIdx? (·.1) = none := by rfl) (h : X.K = K := by rfl) : PG X (.Tuple es k pos) (gLst K n t) := h ▸ pg_lst hc hp hn hst
theorem k_enum {e : Expr} {ta : TA} {p pos tpos : Pos} {elts : List Expr} {kk : Nat} (hg : Gl X "enumerate") (hm : X.mg "enumerate" = none) (ha : PA X [e] ta) (h : X.K = K := by rfl) (hs : starEach [e] X.env = [(false, eval e X.env)] := by rfl) :
    PI X (.Tuple elts kk tpos) (.Call (.Name "enumerate" p) [e] [] pos) (iEnum K ta) := h ▸ pi_enum hg hm ha hs
theorem k_zip {e e2 : Expr} {ta : TA} {p pos tpos : Pos} {elts : List Expr} {kk : Nat} (hg : Gl X "zip") (hm : X.mg "zip" = none) (ha : PA X [e, e2] ta) (h : X.K = K := by rfl)
    (hs : starEach [e, e2] X.env = (false, eval e X.env) :: starEach [e2] X.env := by rfl) (hpl : (backTo pos (starEach [e2] X.env)).any (·.1) = false := by rfl) :
    PI X (.Tuple elts kk tpos) (.Call (.Name "zip" p) [e, e2] [] pos) (iZip K ta) := by
  subst h
  exact pi_zip hg hm ha hs hpl
theorem k_pit {tg l : Expr} {tl : TE} (hl : PE X l tl) (h : X.K = K := by rfl) : PI X tg l (iTup K tl) := h ▸ pi_tup hl
end
/-! ### loops, read from the left -/
section
variable {K : PySem.W.Frag} {D : Ends} {σ : L2.St} {H : Hp} {tb : TS} {g : TG}
/-- range(n): the args are told -/
theorem l_rng {n : Nat} {R : It → Hp → Prop} (hn : n ≤ 100000) (h : R (Itr 0 n) H) : ∃ j : Int, [V.int (n : Int)] = [.int j] ∧ -(2 ^ 62) ≤ j ∧ j < 2 ^ 62 ∧ R (Itr 0 j.toNat) H := ⟨n, rfl, by omega, by omega, h⟩
end
/-! ### the end of a law -/
theorem cx_end {P : Program} {w : World} {H : Hp} {s : Shared} {e : Value} {s' : Shared} (h : L2.CX P w [] H s (fun _ _ _ => False) e s') : False := by
  obtain ⟨_, _, _, _, _, _, _, _, _, _, _, _, z⟩ := h
  exact z.elim
theorem walk_ofE2 {l : PySem.W.OpenLaw} {n k : Nat} {q : Program} {loose : List Str} {XP : (Str → Option Value) → Heap → Prop} {YP : World → Heap → Prop} {d : DefRec} {CX : World → CXT} {x : Str}
    (hn : l.most = some n) (hn2 : n ≤ sizeLine) (hdf : d.params.defaults = []) (hr : Room k callerA)
    (F : ∀ (w : World) (mg : Str → Option Value) (fa : Addr) (h : Heap), YP w h → h.Ns mainGlobals mg → mg d.name = some (.ref fa) →
      ∃ (K : PySem.W.Frag) (fd : FuncData) (sp : Sp), K.In h ∧ (∀ (s : Shared) (u : Value), BindsTo s fd ⟨[u], []⟩ [(x, u)]) ∧
        (∀ (H : Hp) (a : Addr) (ns : List Int), ns.length ≤ n → Only H → SqL K H a (ns.map V.int) → sp [.ref a] H (fun v _ => v = .bl true) fun _ _ _ => False) ∧
        ∀ base : Heap, K.In base → base.Ns mainGlobals mg → FnOk l.prog w K mg base (CX w) k fa fd [x] sp)
    (hCX : ∀ (w : World) (H : Hp) (s : Shared) (e : Value) (s' : Shared), CX w [] H s (fun _ _ _ => False) e s' → False) :
    PySem.W.WalkO q loose XP YP l.row.toRowW d [] (fun f vs => PySem.call f vs) := by
  refine Att.attach_call hn hdf fun w s₀ s₁ mg mb fa o pm cd doc a vs ns G Y ho hd hcd hmg hobj hints hlen hg => ?_
  obtain ⟨K, fd, sp, KX, hb, hsp, hF⟩ := F w mg fa _ Y G.T.g hmg
  exact law_call KX G.T.g G.T.b G.T.builtins G.T.nolimit hg hobj hints (Nat.le_trans hlen hn2) hr hF hb (fun H hO hS => hsp H a ns hlen hO hS) fun H e s' => hCX w H s₁ e s'
end SS

/-! 'except C as n: y = n': the refusal stays behind as a value of y -/
namespace SS
open PySem PySem.Spec PyProof.Rows L2 Evl
/-- the object of a refusal of class cls, at a -/
def ExK (cls : Value) (a : Addr) : HO := .ext fun h => ∃ (oe : Obj) (vs : Array Value), h.get? a = some oe ∧ Zc cls none oe ∧ oe.data = .fields vs
section
variable {X : Cx} {pins : List (Addr × Obj)} {σ : L2.St} {H B : Hp} {s : Shared} {a : Addr}
/-- a is none of the frames', cells' and pinned objects, and none of the entry's -/
structure Aside (X : Cx) (pins : List (Addr × Obj)) (a : Addr) : Prop where
  own : a ≠ X.env.locals
  up : a ∉ X.fs
  entry : X.s_0.heap.get? a = none
  cell : ∀ x c, X.env.cells.lookup x = some c → c ≠ a
  pin : ∀ p ∈ X.pn ++ pins, p.1 ≠ a
theorem Aside.of (J : L2.Inv X pins σ H s) (hf : X.env.frame = some X.env.locals) (hex : X.ex = []) (new : s.heap.get? a = none) (off : a ∉ frs (X.env :: X.outer)) : Aside X pins a where
  own := fun z => off (z ▸ List.mem_filterMap.mpr ⟨X.env, .head _, hf⟩)
  up := fun z => by
    obtain ⟨e, h1, h2⟩ := List.mem_filterMap.mp z
    exact off (List.mem_filterMap.mpr ⟨e, .tail _ h1, h2⟩)
  entry := by
    rcases q : X.s_0.heap.get? a with _ | o
    · rfl
    · obtain ⟨o', q'⟩ := J.base.there a o q (by simp [hex])
      exact absurd (new.symm.trans q') (by simp)
  cell := fun x c h z => by
    obtain ⟨v, o, q, _⟩ := J.cell x c h
    exact absurd (new.symm.trans (z ▸ q)) (by simp)
  pin := fun p h z => absurd (new.symm.trans (z ▸ (J.pin p h).1)) (by simp)
/-- from here on the object at a is one of the walk's -/
theorem Aside.track {cls : Value} {oe : Obj} {vs : Array Value} (A : Aside X pins a) (I : L2.Inv X pins σ H s) (na : H a = none) (he : s.heap.get? a = some oe) (hz : Zc cls none oe) (hd : oe.data = .fields vs) : L2.Inv X pins σ (upd H a (ExK cls a)) s := by
  have other : ∀ {b}, b ≠ a → upd H a (ExK cls a) b = H b := fun h => upd_ne h
  have heldNe : ∀ {b o}, H b = some o → b ≠ a := fun e q => by rw [q, na] at e; exact nomatch e
  have oldNe : ∀ {b o}, X.s_0.heap.get? b = some o → b ≠ a := fun e q => by rw [q, A.entry] at e; exact nomatch e
  have same : ∀ {b o}, H b = some o → upd H a (ExK cls a) b = some o := fun e => by rw [other (heldNe e)]; exact e
  refine ⟨I.ok, I.os, I.bare, ⟨I.base.keep, I.base.slot, fun b o e n hx => by rw [other (oldNe e)]; exact I.base.free b o e n hx, I.base.there, fun b xs e => same (I.base.tups b xs e), fun b o u e => same (I.base.frzs b o u e), fun b ps e => ?_⟩, I.loc, I.cell,
    by rw [other A.own.symm]; exact I.free, fun x c e => by rw [other (A.cell x c e)]; exact I.freeC x c e, fun p hp => ?_, fun b u e => ?_, I.len⟩
  · obtain ⟨m, q⟩ := I.base.tbls b ps e
    exact ⟨m, same q⟩
  · obtain ⟨q1, q2, q3⟩ := I.pin p hp
    exact ⟨q1, by rw [other (A.pin p hp)]; exact q2, q3⟩
  · rcases Decidable.em (b = a) with rfl | hb
    · rw [upd_same] at e
      cases e
      exact ⟨⟨oe, vs, he, hz, hd⟩, ⟨oe, he⟩, fun _ _ ⟨o, v, q, r⟩ k => ⟨o, v, k o q, r⟩⟩
    · rw [other hb] at e
      exact (I.hok b u e).stay (fun _ _ _ q => q) (fun c q => same q) fun c xs q => same q
end
/-- what the clause wishes of a refusal: n's slot is i, y's is j -/
def wK (K : PySem.W.Frag) (c : Value) (i j : Nat) (Wout : WX) (D : Ends) : WX := fun cls d σ H =>
  ∃ b, PySem.W.exmOne K cls c = some b ∧ (b = true → d = none ∧ ∀ a, H a = none → D.nx (((σ.set i (some (.ref a))).set j (some (.ref a))).set i none) (upd H a (ExK cls a))) ∧ (b = false → Wout cls d σ H)
theorem Names.of {X : Cx} {x : Str} (E : ExcT X.K X.mg x) (hg : Gl X x) (hdb : (x == ("__debug__" : Str)) = false := by decide) : Names X x (.ref (He.ga X.K x)) := ⟨hg, hdb, .inl E.g⟩
section
variable {X : Cx} {x n y : Str} {c : Value} {i j : Nat} {body : List Stmt} {np pos pos' py pn' sp : Pos} {tb : WX → TS} {Wout : WX}
/-- the class behind 'except', read -/
theorem name_read {X : Cx} {a : Addr} {oe : Obj} {L : List (Addr × Obj)} {σ : L2.St} {H : Hp} {s : Shared} {Q E : Value → Shared → Prop} {np : Pos} {x : Str} {c : Value} (I : L2.Inv (X.suite a ((a, oe) :: L)) [] σ H s) (hc : Names X x c) (q : Q c s) :
    wpAny (model X.prog X.w) (X.A.mark (some (.ref a))) (eval (.Name x np) X.env) Q E s := by
  rcases hc with ⟨g, nd, m | ⟨m, v, nn⟩⟩
  · exact ld_glob (X := X.suite a ((a, oe) :: L)) I g m q nd
  · exact ld_blt (X := X.suite a ((a, oe) :: L)) I g m v q nn nd
variable {pins : List (Addr × Obj)} {σ : L2.St} {H B : Hp} {D : Ends} {a : Addr} {cls : Value} {d : Option Addr}
/-- the refusal on the ground, put to the clause -/
theorem clause_run {G : Heap} {s : Shared} {h : Heap} (hf : X.env.frame = some X.env.locals) (hN : X.N.Nodup) (hi : X.N[i]? = some n) (hj : X.N[j]? = some y) (hln : X.env.kindOf n = some .local) (hly : X.env.kindOf y = some .local) (hc : Names X x c)
    (hd : (n == ("__debug__" : Str)) = false) (hcd : (n == ("__classdict__" : Str)) = false) (A : Aside X pins a) (na : H a = none) (w : wK X.K c i j Wout D cls d σ H)
    (inv : ∀ h', HandSPX.FlyingZ G (X.env :: X.outer) a (Zc cls d) h' → s.heap.UpToSlots h' → L2.Inv X pins σ H { s with heap := h' }) (fl : HandSPX.FlyingZ G (X.env :: X.outer) a (Zc cls d) h) (up : s.heap.UpToSlots h)
    (on : ∀ h', HandSPX.HeldZ G (X.env :: X.outer) a (Zc cls d) X.env.locals h' → s.heap.UpToSlots h' → Wout cls d σ H → X.xe (.ref a) { s with heap := h' }) :
    wpAny (model X.prog X.w) X.A (handleBy (.ref a) X.env [.ExceptHandler (some (.Name x np)) (some n) [.Assign [.Name y py] (.Name n pn') sp] pos']) (SP X pins D) X.xe { s with heap := h } := by
  obtain ⟨b, hb, yes, no⟩ := w
  have J := inv h fl up
  have ⟨_, _, _, oe, vs, T, _, _, ge, ze, de, d1, _⟩ := fl
  refine wpAny_handleBy_cons (codeAny_handlers_test (name_read (J.suite ge de na A.own A.up) hc ?_)) (fun z => nomatch z)
  have isC := PySem.W.exm_one (M := model X.prog X.w) J.kIn (fun A Q E s k q => wpAny_typeOf_ref (k _ _ ge) (by rw [ze.1]; exact q)) hb
  refine isC.here ?_
  rcases b with _ | _
  · -- another one's
    refine wpAny_handleBy_nil ?_
    unfold PySem.passOn
    refine wpAny_bind (wpAny_field ge de d1 ?_)
    rw [if_neg (by simp)]
    refine wpAny_bind ?_
    rw [hf]
    exact HandSPX.setFlight_upZ fl fun h' held up' => wpAny_throw (on h' held (up.trans up') (no rfl))
  · obtain ⟨rfl, fin⟩ := yes rfl
    refine codeAny_handlers_suite_as (HandSPX.lands_againZ fl fun h5 fl5 up5 => ?_)
    have J5 := inv h5 fl5 (up.trans up5)
    have ⟨_, _, _, oe5, vs5, _, _, _, ge5, ze5, de5, _⟩ := fl5
    have len : i < σ.length := J5.len ▸ (List.getElem?_eq_some_iff.mp hi).1
    refine store_ok (X := X.suite a ((a, oe5) :: (X.pn ++ pins))) (v := .ref a) (J5.suite ge5 de5 na A.own A.up) hN hi (.inl hln) rfl (fun s6 J6 => ?_) (.inr hln)
    have put : PSs (X.suite a ((a, oe5) :: (X.pn ++ pins))) [.Assign [.Name y py] (.Name n pn') sp] (tAsg (tVar i) (gName j)) := pss_one (ps_set hN hj (.inl hly) (pe_var hi (.inl hln) hd hcd) (by rfl) (.inr hly))
    refine wpAny_mono (put.run [] s6 _ H { nx := fun σ' H' => σ' = (σ.set i (some (.ref a))).set j (some (.ref a)) ∧ H' = H, rt := fun _ _ => False, bk := fun _ _ => False, ct := fun _ _ => False } J6 ⟨.ref a, by rw [List.getElem?_set_self len], rfl, rfl⟩) (fun f s7 r => ?_) (fun _ _ z => z.elim)
    rcases f with _ | _ | _ | u
    · obtain ⟨_, _, J7, rfl, rfl⟩ := r
      have ⟨p1, p2, _⟩ := J7.pin (a, oe5) (by simp)
      exact gone_ok (A.track (J7.unsuite J.ok) p2 p1 ze5 de5) hN hi hln fun s8 J8 => ⟨_, _, J8, fin a na⟩
    · obtain ⟨_, _, _, z⟩ := r
      exact z.elim
    · obtain ⟨_, _, _, z⟩ := r
      exact z.elim
    · obtain ⟨_, _, _, _, _, z⟩ := r
      exact z.elim
theorem ps_tryk (hs : X.stack = X.env :: X.outer) (hf : X.env.frame = some X.env.locals) (hex : X.ex = []) (hN : X.N.Nodup) (hi : X.N[i]? = some n) (hj : X.N[j]? = some y) (hln : X.env.kindOf n = some .local) (hly : X.env.kindOf y = some .local) (hc : Names X x c) (tk : Takes X Wout)
    (hb : ∀ (W : WX) (pn : List (Addr × Obj)) (xe : Value → Shared → Prop), Takes (X.tr pn xe) W → PassesOwn (model X.prog X.w) X.A X.env xe → PSs (X.tr pn xe) body (tb W))
    (hd : (n == ("__debug__" : Str)) = false := by decide) (hcd : (n == ("__classdict__" : Str)) = false := by decide) :
    PS X (.Try body [.ExceptHandler (some (.Name x np)) (some n) [.Assign [.Name y py] (.Name n pn') sp] pos'] [] [] pos) (fun D σ H => tb (wK X.K c i j Wout D) D σ H) := by
  constructor
  intro pins s σ H D I h
  have ok := I.ok
  let M := model X.prog X.w
  let toClause : Value → Shared → Prop := fun e s2 => wpAny M X.A (handleBy e X.env [.ExceptHandler (some (.Name x np)) (some n) [.Assign [.Name y py] (.Name n pn') sp] pos']) (SP X pins D) X.xe s2
  let caughtBy : Value → Shared → Prop := fun e s0 => wpAny M X.A (noteFrame e X.env) (fun _ s1 => wpAny M X.A (setFlight e none) (fun _ s2 => toClause e s2) X.xe s1) X.xe s0
  refine wpAny_Try_except (wpAny_mono ((hb (wK X.K c i j Wout D) (X.pn ++ pins) caughtBy (fun u s' caught => ?kk) PassesOwn.looking).run [] s σ H D (I.toTry _) h) (fun f s1 r => ?through) (fun e s1 q => q))
  case kk =>
    obtain ⟨a, G, sI, _, σ', H', cls, d, rfl, J', keep, up, sky, na, os, ag, w⟩ := caught
    have J := J'.ofTry ok
    rw [hs] at keep
    refine Sky.land Zc.steady (by rw [ok.frames, hs]) hf (show Sky G (X.env :: X.outer) a (Zc cls d) X.env.locals s'.heap from hs ▸ sky) fun h3 fl3 up3 => ?_
    have ⟨_, fl0, ff, oe, vs, _, _, _, ge, _, de, _⟩ := fl3
    have off : a ∉ frs (X.env :: X.outer) := fun hm => by
      obtain ⟨_, o, e, z⟩ := ff.mem hm
      cases ge.symm.trans e
      exact z _ de
    have new : sI.heap.get? a = none := by
      rcases q : sI.heap.get? a with _ | o
      · rfl
      · exact absurd ((keep a o q off).symm.trans fl0) (by simp)
    exact clause_run hf hN hi hj hln hly hc hd hcd (Aside.of J hf hex new off) na w (fun h' fl' up' => J.landed (by rw [hs]; exact keep) fl'.1 (up.trans up') os ag) fl3 up3
      fun h' held up' q => tk _ _ ⟨a, G, sI, pins, σ', H', cls, d, rfl, J, by rw [hs]; exact keep, up.trans up', .inr (.inr (by rw [hs]; exact held)), na, os, ag, q⟩
  case through =>
    rcases f with _ | _ | _ | u
    · obtain ⟨σ', H', J, q⟩ := r
      exact wpAny_execs_nil ⟨σ', H', J.ofTry ok, q⟩
    · obtain ⟨σ', H', J, q⟩ := r
      exact ⟨σ', H', J.ofTry ok, q⟩
    · obtain ⟨σ', H', J, q⟩ := r
      exact ⟨σ', H', J.ofTry ok, q⟩
    · obtain ⟨v, σ', H', J, r, q⟩ := r
      exact ⟨v, σ', H', J.ofTry ok, r, q⟩
end
theorem k_tryk (K : PySem.W.Frag) {X : Cx} {x n y : Str} {i j : Nat} {body : List Stmt} {np pos pos' py pn' sp : Pos} {tb : WX → TS} {Wout : WX} (hs : X.stack = X.env :: X.outer) (hf : X.env.frame = some X.env.locals) (hex : X.ex = []) (hN : X.N.Nodup) (hi : X.N[i]? = some n) (hj : X.N[j]? = some y) (hln : X.env.kindOf n = some .local) (hly : X.env.kindOf y = some .local)
    (E : ExcT X.K X.mg x) (hg : Gl X x) (tk : Takes X Wout) (hb : ∀ (W : WX) (pn : List (Addr × Obj)) (xe : Value → Shared → Prop), Takes (X.tr pn xe) W → PassesOwn (model X.prog X.w) X.A X.env xe → PSs (X.tr pn xe) body (tb W))
    (hK : X.K = K := by rfl) (hxd : (x == ("__debug__" : Str)) = false := by decide) (hd : (n == ("__debug__" : Str)) = false := by decide) (hcd : (n == ("__classdict__" : Str)) = false := by decide) :
    PS X (.Try body [.ExceptHandler (some (.Name x np)) (some n) [.Assign [.Name y py] (.Name n pn') sp] pos'] [] [] pos) (fun D σ H => tb (wK K (.ref (He.ga K x)) i j Wout D) D σ H) := by
  subst hK
  exact ps_tryk hs hf hex hN hi hj hln hly (Names.of E hg hxd) tk hb hd hcd
/-- isinstance(e, c), e a refusal kept as a value -/
def rIsX (K : PySem.W.Frag) : List V → Hp → VK → Prop := fun xs H Q => ∃ (a D : Addr) (c : V) (cv : Value) (b : Bool), xs = [.ref a, c] ∧ H a = some (ExK (.ref D) a) ∧ ExcC K D ∧ ClsV c cv ∧ PySem.W.kitOne K (.ref D) cv = some b ∧ Q (.bl b) H
theorem call_isX {X : Cx} : CallR X (.builtin "isinstance") (rIsX X.K) := by
  intro pins s σ H xs us Q I r h
  obtain ⟨a, D, c, cv, b, rfl, ha, C, hcv, e, q⟩ := h
  obtain ⟨u1, u2, rfl, r1, r2⟩ := vals2 r
  cases (show u1 = Value.ref a from r1)
  have ec := hcv.eq r2
  subst ec
  obtain ⟨⟨oe, vs, hget, hz, hv⟩, _, _⟩ := I.hok a _ ha
  have J : PySem.W.InstAt s.heap a oe D none := by
    obtain ⟨oc, od, oda, osl⟩ := oe
    obtain ⟨h1, h2⟩ := hz
    dsimp only at h1 h2 hv
    subst h1 h2 hv
    exact ⟨hget, rfl, rfl, trivial⟩
  exact PySem.W.kia_one (PySem.W.handS_kitx_exc C.hg C.hk C.hs C.hd C.ha C.hn C.ht C.hm) I.kIn J e (fun z => nomatch z) fun tk => ⟨.bl b, H, I.kept (t' := tk) fun _ _ z => z, rfl, q⟩
theorem k_isX {X : Cx} (K : PySem.W.Frag) (h : X.K = K := by rfl) : CallR X (.builtin "isinstance") (rIsX K) := h ▸ call_isX
/-! ### what the head must tell of the classes of refusals -/
structure ExF (K : PySem.W.Frag) (cs ds : List Str) : Prop where
  c : ∀ C ∈ cs, ExcC K (He.ga K C)
  o : ∀ C ∈ cs, ∀ D ∈ ds, PySem.W.kitOne K (.ref (He.ga K C)) (.ref (He.ga K D)) = some (decide (C = D))
  v : ∀ C ∈ cs, PySem.W.kitOne K (.ref (He.ga K C)) (.type "ValueError") = some true
  m : ∀ C ∈ cs, PySem.W.exmOne K (.ref (He.ga K C)) (.ref (He.ga K "SetError")) = some true
def excB (K : PySem.W.Frag) (D : Addr) : Bool :=
  decide (PySem.W.findIn K (.ref D) "__getattribute__" = some (some (.builtin "BaseException.__getattribute__"))) && (decide (PySem.W.findIn K (.ref D) "__getattr__" = some none) && (decide (PySem.W.subIn K (.ref D) (.type "BaseException") = some true) && (PySem.W.hasDictIn K D &&
    (decide (PySem.W.findIn K (.ref D) "__class__" = some (some (.builtin "object.__class__"))) && (decide (PySem.W.specialIn K (.builtin "object.__class__") "__get__" = some (some (.builtin "getset_descriptor.__get__"))) &&
      (decide (PySem.W.takesIn K (.builtin "object.__class__") = some true) && decide (PySem.W.mroIn K D (.type "object") = some true)))))))
theorem excB_ok {K : PySem.W.Frag} {D : Addr} (h : excB K D = true) : ExcC K D := by
  unfold excB at h
  simp only [Bool.and_eq_true, decide_eq_true_eq] at h
  obtain ⟨h1, h2, h3, h4, h5, h6, h7, h8⟩ := h
  exact ⟨h1, h2, h3, h4, h5, h6, h7, h8⟩
def exB (cs ds : List Str) (K : PySem.W.Frag) : Bool := cs.all fun C => excB K (He.ga K C) && ((ds.all fun D => decide (PySem.W.kitOne K (.ref (He.ga K C)) (.ref (He.ga K D)) = some (decide (C = D)))) &&
  (decide (PySem.W.kitOne K (.ref (He.ga K C)) (.type "ValueError") = some true) && decide (PySem.W.exmOne K (.ref (He.ga K C)) (.ref (He.ga K "SetError")) = some true)))
theorem exB_ok {cs ds : List Str} {K : PySem.W.Frag} (h : exB cs ds K = true) : ExF K cs ds := by
  have key : ∀ C ∈ cs, ExcC K (He.ga K C) ∧ (∀ D ∈ ds, PySem.W.kitOne K (.ref (He.ga K C)) (.ref (He.ga K D)) = some (decide (C = D))) ∧ PySem.W.kitOne K (.ref (He.ga K C)) (.type "ValueError") = some true ∧ PySem.W.exmOne K (.ref (He.ga K C)) (.ref (He.ga K "SetError")) = some true := fun C hC => by
    have h1 := List.all_eq_true.mp h C hC
    rw [Bool.and_eq_true, Bool.and_eq_true, Bool.and_eq_true] at h1
    obtain ⟨a, b, c, d⟩ := h1
    exact ⟨excB_ok a, fun D hD => of_decide_eq_true (List.all_eq_true.mp b D hD), of_decide_eq_true c, of_decide_eq_true d⟩
  exact ⟨fun C h => (key C h).1, fun C h => (key C h).2.1, fun C h => (key C h).2.2.1, fun C h => (key C h).2.2.2⟩
def nineC : List Str := ["BadCount", "BadSet", "BadName", "BadNumber", "BadOrder", "BadTable", "Unlike", "NoCover", "NothingDone"]
def nineW : List Str := ["count", "set", "name", "number", "order", "table", "unlike", "cover", "nothing", "value"]
/-- the names of a refusal -/
def kindV (C : Str) : List V := given 10 (fun k => (nineC.map (fun D => decide (C = D)) ++ [true]).getD k false) (fun k => .str (nineW.getD k Str.empty))
theorem isx_go {K : PySem.W.Frag} {C D : Str} {a : Addr} {H : Hp} {Q : VK} (F : ExF K nineC nineC) (hC : C ∈ nineC) (ha : H a = some (ExK (.ref (He.ga K C)) a)) (hD : D ∈ nineC) (q : Q (.bl (decide (C = D))) H) : rIsX K [.ref a, .ref (He.ga K D)] H Q :=
  ⟨a, He.ga K C, .ref (He.ga K D), .ref (He.ga K D), decide (C = D), rfl, ha, F.c C hC, .own _, F.o C hC D hD, q⟩
theorem isx_ve {K : PySem.W.Frag} {C : Str} {a : Addr} {H : Hp} {Q : VK} (F : ExF K nineC nineC) (hC : C ∈ nineC) (ha : H a = some (ExK (.ref (He.ga K C)) a)) (q : Q (.bl true) H) : rIsX K [.ref a, .ty "ValueError"] H Q :=
  ⟨a, He.ga K C, .ty "ValueError", .type "ValueError", true, rfl, ha, F.c C hC, .ty _, F.v C hC, q⟩
/-- a refusal that is caught -/
theorem we_go {K : PySem.W.Frag} {C : Str} {i j : Nat} {Wout : WX} {D : Ends} {σ : L2.St} {H : Hp} (F : ExF K nineC nineC) (hC : C ∈ nineC) (q : ∀ a, H a = none → D.nx (((σ.set i (some (.ref a))).set j (some (.ref a))).set i none) (upd H a (ExK (.ref (He.ga K C)) a))) :
    WE (wK K (.ref (He.ga K "SetError")) i j Wout D) σ (.ref (He.ga K C)) none H := ⟨true, F.m C hC, fun _ => ⟨rfl, q⟩, fun z => nomatch z⟩
/-- the names of a refusal are these two -/
theorem kind_ok {K : PySem.W.Frag} {C s1 s2 : Str} {H : Hp} {w : Addr} {Q : VK} (hs : kindV C = [.str s1, .str s2]) (ok : [s1, s2].all PyData.strOk = true) (hw : H w = some (.lst (kindV C))) (q : ∀ H', Ex H H' → Q (.bl false) H') :
    [V.str s1, .str s2].length ≤ sizeLine ∧ ∀ p, H p = none → rNeD K (.ref w) (.ref p) (upd H p (.lst [V.str s1, .str s2])) Q := by
  refine ⟨sz_of (by simp), fun p np => ?_⟩
  have e := Ex.new (o := HO.lst [V.str s1, .str s2]) np
  have h := e _ _ hw
  rw [hs] at h
  refine ⟨.list ([s1, s2].map PyData.str), .list ([s1, s2].map PyData.str), .lst (.inl (.inl h)) (.cons (.str s1) (.cons (.str s2) .nil)), .lst (.inl (.inl upd_same)) (.cons (.str s1) (.cons (.str s2) .nil)), ?_, ?_, ?_⟩
  · simp only [List.all_cons, List.all_nil, Bool.and_true, Bool.and_eq_true] at ok
    simp [SeqAt.shaped, PyData.canLay0, PyData.canLayAll0, PyData.depth, PyData.depthAll, ok.1, ok.2]
  · simp only [List.all_cons, List.all_nil, Bool.and_true, Bool.and_eq_true] at ok
    simp [SeqAt.shaped, PyData.canLay0, PyData.canLayAll0, PyData.depth, PyData.depthAll, ok.1, ok.2]
  · have eq : PyData.eqv (.list ([s1, s2].map PyData.str)) (.list ([s1, s2].map PyData.str)) = true := by simp [PyData.eqv, PyData.eqvAll]
    rw [eq]
    exact q _ e
/-- .. asked by == -/
theorem kind_eq {K : PySem.W.Frag} {C s1 s2 : Str} {H : Hp} {w : Addr} {Q : VK} (hs : kindV C = [.str s1, .str s2]) (ok : [s1, s2].all PyData.strOk = true) (hw : H w = some (.lst (kindV C))) (q : ∀ H', Ex H H' → Q (.bl true) H') :
    [V.str s1, .str s2].length ≤ sizeLine ∧ ∀ p, H p = none → rEqD K (.ref w) (.ref p) (upd H p (.lst [V.str s1, .str s2])) Q := by
  refine ⟨sz_of (by simp), fun p np => ?_⟩
  have e := Ex.new (o := HO.lst [V.str s1, .str s2]) np
  have h := e _ _ hw
  rw [hs] at h
  refine ⟨.list ([s1, s2].map PyData.str), .list ([s1, s2].map PyData.str), .lst (.inl (.inl h)) (.cons (.str s1) (.cons (.str s2) .nil)), .lst (.inl (.inl upd_same)) (.cons (.str s1) (.cons (.str s2) .nil)), ?_, ?_, ?_⟩
  · simp only [List.all_cons, List.all_nil, Bool.and_true, Bool.and_eq_true] at ok
    simp [SeqAt.shaped, PyData.canLay0, PyData.canLayAll0, PyData.depth, PyData.depthAll, ok.1, ok.2]
  · simp only [List.all_cons, List.all_nil, Bool.and_true, Bool.and_eq_true] at ok
    simp [SeqAt.shaped, PyData.canLay0, PyData.canLayAll0, PyData.depth, PyData.depthAll, ok.1, ok.2]
  · have eq : PyData.eqv (.list ([s1, s2].map PyData.str)) (.list ([s1, s2].map PyData.str)) = true := by simp [PyData.eqv, PyData.eqvAll]
    rw [eq]
    exact q _ e
/-- the head's facts, and one more -/
def hookE (n : Nat) (fa : List He.Fa) (fn : List He.DefD) (ex : PySem.W.Frag → Bool) : PySem.W.Hook where
  α := He.AlD × Bool
  obs := fun s => (He.obsD fa fn (He.frG s.heap.get? (He.asD s.heap.get? n)), ex (He.frG s.heap.get? (He.asD s.heap.get? n)))
  val := fun _ => (He.valD fn, true)
  says := fun _ h => ∃ K : PySem.W.Frag, K.In h ∧ He.SaysD fa fn K ∧ ex K = true
  of := fun _ _ e => ⟨_, He.frG_in, congrArg (fun z : He.AlD × Bool => z.1) e, congrArg (fun z : He.AlD × Bool => z.2) e⟩
  keeps := fun _ _ _ ⟨K, hK, c⟩ k => ⟨K, PySem.W.Frag.In.keeps hK k, c⟩
def obsEG (n : Nat) (fa : List He.Fa) (fn : List He.DefD) (ex : PySem.W.Frag → Bool) (g : Addr → Option Obj) : He.AlD × Bool := (He.obsD fa fn (He.frG g (He.asD g n)), ex (He.frG g (He.asD g n)))
theorem obsEG_eq {n : Nat} {fa : List He.Fa} {fn : List He.DefD} {ex : PySem.W.Frag → Bool} {g : Addr → Option Obj} {s : Shared} (h : ∀ a, g a = s.heap.get? a) : obsEG n fa fn ex g = (hookE n fa fn ex).obs s := by
  rw [show g = s.heap.get? from funext h] <;> rfl
end SS

/-! a long body, some statements at a time: the rest under a name -/
namespace SS
open PySem PySem.Spec PyProof.Rows L2 Evl
section
variable {a b c d e f r : TS} {D : Ends} {σ : L2.St} {H : Hp}
theorem seq_cut1 (h : ∀ R, R = r → tSeq a R D σ H) : tSeq a r D σ H := h _ rfl
theorem seq_cut2 (h : ∀ R, R = r → tSeq a (tSeq b R) D σ H) : tSeq a (tSeq b r) D σ H := h _ rfl
theorem seq_cut3 (h : ∀ R, R = r → tSeq a (tSeq b (tSeq c R)) D σ H) : tSeq a (tSeq b (tSeq c r)) D σ H := h _ rfl
theorem seq_cut4 (h : ∀ R, R = r → tSeq a (tSeq b (tSeq c (tSeq d R))) D σ H) : tSeq a (tSeq b (tSeq c (tSeq d r))) D σ H := h _ rfl
theorem seq_cut5 (h : ∀ R, R = r → tSeq a (tSeq b (tSeq c (tSeq d (tSeq e R)))) D σ H) : tSeq a (tSeq b (tSeq c (tSeq d (tSeq e r)))) D σ H := h _ rfl
theorem seq_cut6 (h : ∀ R, R = r → tSeq a (tSeq b (tSeq c (tSeq d (tSeq e (tSeq f R))))) D σ H) : tSeq a (tSeq b (tSeq c (tSeq d (tSeq e (tSeq f r))))) D σ H := h _ rfl
end
end SS

/-! classes of one's own: methods, making, attributes, with K named; in a try too -/
namespace SS
open PySem PySem.Spec PyProof.Rows L2 Evl
/-- a class's statement -/
def clsAt (s : Stmt) (j : Nat) : Stmt := match s with
  | .ClassDef _ _ _ b _ _ _ _ _ _ _ => b.getD j (.Pass ⟨0, 0, 0, 0⟩)
  | _ => .Pass ⟨0, 0, 0, 0⟩
/-- the method m of the class C keeps its promise -/
structure HasM (P : Program) (w : World) (K : PySem.W.Frag) (mg : Str → Option Value) (base : Heap) (k : Nat) (C m : Str) (ps : List Str) (sp : Sp) : Prop where
  ex : ∃ (f : Addr) (fd : FuncData), FnOk P w K mg base (L2.CX P w) k f fd ps sp ∧ Meth K (He.ga K C) m f ∧ Binds K fd ps []
/-- .. its __init__ -/
structure HasI (P : Program) (w : World) (K : PySem.W.Frag) (mg : Str → Option Value) (base : Heap) (k : Nat) (C : Str) (ps : List Str) (sp : Sp) : Prop where
  ex : ∃ (f : Addr) (fd : FuncData), FnOk P w K mg base (L2.CX P w) k f fd ps sp ∧ Mk K (He.ga K C) f ∧ Binds K fd ps []
/-- a method as the head tells it -/
structure MethAt (K : PySem.W.Frag) (C m q : Str) (st : Stmt) (ps : List Str) : Prop where
  ex : ∃ (f : Addr) (fd : FuncData), FunD K m q (defArgs st) (defBody st) (defScope st) [] [] f fd ∧ Meth K (He.ga K C) m f ∧ Binds K fd ps []
structure InitAt (K : PySem.W.Frag) (C q : Str) (st : Stmt) (ps : List Str) : Prop where
  ex : ∃ (f : Addr) (fd : FuncData), FunD K "__init__" q (defArgs st) (defBody st) (defScope st) [] [] f fd ∧ Mk K (He.ga K C) f ∧ Binds K fd ps []
theorem MethAt.has {P : Program} {w : World} {K : PySem.W.Frag} {mg : Str → Option Value} {base : Heap} {C m q : Str} {st : Stmt} {N ps : List Str} {k : Nat} {sp : Sp} (D : MethAt K C m q st ps) (S : FnScope N ps (defScope st)) (len : ∀ vs H Q E, sp vs H Q E → vs.length = ps.length)
    (hbody : ∀ (f : Addr) (cdv : Value) (A : Around) (outer : List Env) (s : Shared) (H : Hp) (vs : List V) (Q : VK) (E : XK), Room k (A.deeper (envOfC q (defScope st) s.heap.objs.size f cdv)) → sp vs H Q E →
      ∃ t, PSs (cxOf (L2.CX P w) P w K mg base N q (defScope st) f cdv A outer s H E) (defBody st) t ∧ t { nx := fun _ H' => Q .non H', rt := Q } (start N vs) H) : HasM P w K mg base (k + 1) C m ps sp := by
  obtain ⟨f, fd, F, hm, hb⟩ := D.ex
  exact ⟨f, fd, FunD.ok F S len (hbody f), hm, hb⟩
theorem InitAt.has {P : Program} {w : World} {K : PySem.W.Frag} {mg : Str → Option Value} {base : Heap} {C q : Str} {st : Stmt} {N ps : List Str} {k : Nat} {sp : Sp} (D : InitAt K C q st ps) (S : FnScope N ps (defScope st)) (len : ∀ vs H Q E, sp vs H Q E → vs.length = ps.length)
    (hbody : ∀ (f : Addr) (cdv : Value) (A : Around) (outer : List Env) (s : Shared) (H : Hp) (vs : List V) (Q : VK) (E : XK), Room k (A.deeper (envOfC q (defScope st) s.heap.objs.size f cdv)) → sp vs H Q E →
      ∃ t, PSs (cxOf (L2.CX P w) P w K mg base N q (defScope st) f cdv A outer s H E) (defBody st) t ∧ t { nx := fun _ H' => Q .non H', rt := Q } (start N vs) H) : HasI P w K mg base (k + 1) C ps sp := by
  obtain ⟨f, fd, F, hm, hb⟩ := D.ex
  exact ⟨f, fd, FunD.ok F S len (hbody f), hm, hb⟩
section
variable {X : Cx} {k : Nat} {C m x : Str} {ps : List Str} {sp : Sp} {E : XK} {o e : Expr} {p apos pos : Pos} {es : List Expr} {ta : TE} {t : TA}
theorem k_meth (K : PySem.W.Frag) {pl : Sem Bool} (h : HasM X.prog X.w K X.mg X.base k C m ps sp) (he : PE X o ta) (c : Cls K (He.ga K C)) (hr : Room k X.A) (hx : Passes (L2.CX X.prog X.w) X E) (ha : PA X (e :: es) t) (hK : X.K = K := by rfl)
    (hst : starEach (e :: es) X.env = (false, eval e X.env) :: starEach es X.env := by rfl) (hpl : (backTo pos (starEach es X.env)).any (·.1) = false := by rfl)
    (ht : eval (.Call (.Attribute o m apos) (e :: es) [] pos) X.env = (do
      let ov ← eval o X.env
      standAt apos.atName
      let (f, first) ← holding [ov] (getMethod ov m pl)
      callWith pos f first (backTo pos (starEach (e :: es) X.env)) (backToKw pos (keywordEach [] X.env))) := by rfl) :
    PE X (.Call (.Attribute o m apos) (e :: es) [] pos) (tMeth (He.ga K C) m sp [] E ta t) := by
  subst hK
  obtain ⟨f, fd, F, hm, hb⟩ := h.ex
  exact pe_meth he c hm F hr hb .nil hx ha hst hpl ht
theorem k_meth0 (K : PySem.W.Frag) {pl : Sem Bool} (h : HasM X.prog X.w K X.mg X.base k C m ps sp) (he : PE X o ta) (c : Cls K (He.ga K C)) (hr : Room k X.A) (hx : Passes (L2.CX X.prog X.w) X E) (hK : X.K = K := by rfl)
    (ht : eval (.Call (.Attribute o m apos) [] [] pos) X.env = (do
      let ov ← eval o X.env
      standAt apos.atName
      let (f, first) ← holding [ov] (getMethod ov m pl)
      callWith pos f first (backTo pos (starEach [] X.env)) (backToKw pos (keywordEach [] X.env))) := by rfl) :
    PE X (.Call (.Attribute o m apos) [] [] pos) (tMeth (He.ga K C) m sp [] E ta tNil) := by
  subst hK
  obtain ⟨f, fd, F, hm, hb⟩ := h.ex
  exact pe_meth0 he c hm F hr hb .nil hx ht
/-- in a try -/
def tMethS (C : Addr) (m : Str) (sp : Sp) (E : L2.St → XK) (ta : TE) (t : TA) : TE := fun σ H Q => ta σ H fun x H1 => ∃ a dx fs, x = .ref a ∧ H1 a = some (.ins C dx fs) ∧ fs.lookup m = none ∧ t σ H1 fun vs H2 => sp (.ref a :: vs) H2 Q (E σ)
theorem k_methS (K : PySem.W.Frag) {W : WX} {pl : Sem Bool} (h : HasM X.prog X.w K X.mg X.base k C m ps sp) (he : PE X o ta) (c : Cls K (He.ga K C)) (hr : Room k X.A) (tk : Takes X W) (ha : PA X (e :: es) t) (hK : X.K = K := by rfl)
    (hst : starEach (e :: es) X.env = (false, eval e X.env) :: starEach es X.env := by rfl) (hpl : (backTo pos (starEach es X.env)).any (·.1) = false := by rfl)
    (ht : eval (.Call (.Attribute o m apos) (e :: es) [] pos) X.env = (do
      let ov ← eval o X.env
      standAt apos.atName
      let (f, first) ← holding [ov] (getMethod ov m pl)
      callWith pos f first (backTo pos (starEach (e :: es) X.env)) (backToKw pos (keywordEach [] X.env))) := by rfl) :
    PE X (.Call (.Attribute o m apos) (e :: es) [] pos) (tMethS (He.ga K C) m sp (WE W) ta t) := by
  subst hK
  obtain ⟨f, fd, F, hm, hb⟩ := h.ex
  refine ⟨fun pins s σ H Q I h => ?_⟩
  refine PySem.W.methodCall_KW (pl := pl) (thn (he.run pins s σ H _ I h) fun u s1 ⟨x, H1, I1, rx, a, dx, fs, ex, ea, l, q⟩ => ?_) ht
  subst ex
  obtain rfl : u = Value.ref a := rx
  refine getmeth_ok I1 ea c hm l ?_
  refine PySem.W.callWith_K (first := [.ref a]) (h₀ := X.base) I.ok.mod.kin hm.kp (thn (ha.run pos pins s1 σ H1 _ I1 q) fun us s2 ⟨vs, H2, I2, r, q2⟩ => ⟨I2.kIn, ?_⟩) hst hpl
  exact run_fnS (E := WE W) (us := .ref a :: us) (vs := .ref a :: vs) F hr hb (passAt tk σ) I2 (.cons rfl r) q2
theorem k_methS0 (K : PySem.W.Frag) {W : WX} {pl : Sem Bool} (h : HasM X.prog X.w K X.mg X.base k C m ps sp) (he : PE X o ta) (c : Cls K (He.ga K C)) (hr : Room k X.A) (tk : Takes X W) (hK : X.K = K := by rfl)
    (ht : eval (.Call (.Attribute o m apos) [] [] pos) X.env = (do
      let ov ← eval o X.env
      standAt apos.atName
      let (f, first) ← holding [ov] (getMethod ov m pl)
      callWith pos f first (backTo pos (starEach [] X.env)) (backToKw pos (keywordEach [] X.env))) := by rfl) :
    PE X (.Call (.Attribute o m apos) [] [] pos) (tMethS (He.ga K C) m sp (WE W) ta tNil) := by
  subst hK
  obtain ⟨f, fd, F, hm, hb⟩ := h.ex
  refine ⟨fun pins s σ H Q I h => ?_⟩
  refine PySem.W.methodCall_KW (pl := pl) (thn (he.run pins s σ H _ I h) fun u s1 ⟨x, H1, I1, rx, a, dx, fs, ex, ea, l, q⟩ => ?_) ht
  subst ex
  obtain rfl : u = Value.ref a := rx
  refine getmeth_ok I1 ea c hm l ?_
  exact PySem.W.callWith_K0 (first := [.ref a]) I1.kIn hm.kp (run_fnS (E := WE W) (us := [.ref a]) (vs := [.ref a]) F hr hb (passAt tk σ) I1 (.cons rfl .nil) q)
theorem k_make (K : PySem.W.Frag) (h : HasI X.prog X.w K X.mg X.base k C ps sp) (hr : Room (k + 1) X.A) (hg : Gl X C) (hm : X.mg C = some (.ref (He.ga K C))) (hx : Passes (L2.CX X.prog X.w) X E) (ha : PA X (e :: es) t) (hK : X.K = K := by rfl)
    (hdb : (C == ("__debug__" : Str)) = false := by decide) (he : starEach (e :: es) X.env = (false, eval e X.env) :: starEach es X.env := by rfl) (hpl : (backTo pos (starEach es X.env)).any (·.1) = false := by rfl) :
    PE X (.Call (.Name C p) (e :: es) [] pos) (tMake (He.ga K C) sp [] E t) := by
  subst hK
  obtain ⟨f, fd, F, M, hb⟩ := h.ex
  exact pe_make M F hr hg hm hb .nil hx ha hdb he hpl
def tMakeS (C : Addr) (sp : Sp) (E : L2.St → XK) (t : TA) : TE := fun σ H Q => t σ H fun vs H1 => ∀ x dx, H1 x = none → H1 dx = none → dx ≠ x →
  sp (.ref x :: vs) (upd (upd H1 dx (.own x)) x (.ins C dx [])) (fun v H2 => v = .non ∧ Q (.ref x) H2) (E σ)
theorem k_makeS (K : PySem.W.Frag) {W : WX} (h : HasI X.prog X.w K X.mg X.base k C ps sp) (hr : Room (k + 1) X.A) (hg : Gl X C) (hm : X.mg C = some (.ref (He.ga K C))) (tk : Takes X W) (ha : PA X (e :: es) t) (hK : X.K = K := by rfl)
    (hdb : (C == ("__debug__" : Str)) = false := by decide) (he : starEach (e :: es) X.env = (false, eval e X.env) :: starEach es X.env := by rfl) (hpl : (backTo pos (starEach es X.env)).any (·.1) = false := by rfl) :
    PE X (.Call (.Name C p) (e :: es) [] pos) (tMakeS (He.ga K C) sp (WE W) t) := by
  subst hK
  obtain ⟨f, fd, F, M, hb⟩ := h.ex
  refine ⟨fun pins s σ H Q I h => ?_⟩
  refine wpAny_Call_Name_kw (ld_glob I hg hm ?_ hdb)
  refine PySem.W.callWith_K (h₀ := X.base) I.ok.mod.kin M.kp (thn (ha.run pos pins s σ H _ I h) fun us s1 ⟨vs, H1, I1, r, q⟩ => ⟨I1.kIn, ?_⟩) he hpl
  have hq := q (s1.heap.objs.size + 1) s1.heap.objs.size (I1.hok.fresh (Nat.le_succ _)) (I1.hok.fresh (Nat.le_refl _)) (Nat.ne_of_lt (Nat.lt_succ_self _))
  have I2 := Inv.made (C := He.ga X.K C) I1
  have r2 : Vals (V.ref (s1.heap.objs.size + 1) :: vs) (Value.ref (s1.heap.objs.size + 1) :: us) := .cons rfl r
  have hl : (Value.ref (s1.heap.objs.size + 1) :: us).length = ps.length := by
    have e := r2.length
    rw [F.len _ _ _ _ hq] at e
    exact e.symm
  have b := hb _ (Value.ref (s1.heap.objs.size + 1) :: us) I2.kIn (by rw [List.append_nil]; exact hl)
  rw [List.append_nil] at b
  refine wpAny_call (make_map (f := f) I1.kIn M.makes M.init (beq_iff_eq.mp M.fn) (codeAny_mono (F.run _ X.stack _ _ ⟨Value.ref (s1.heap.objs.size + 1) :: us, []⟩ (Value.ref (s1.heap.objs.size + 1) :: us) _ _ (WE W σ) (hr.make (He.ga X.K C) us [])
    (I2.env0.make (He.ga X.K C) us []) b r2 hq) fun r s' hq' => ?_))
  cases r with
  | error e => exact passAt tk σ pins _ _ e s' I2 hq'
  | ok fl =>
    cases fl with
    | ret u =>
      obtain ⟨v, H', I3, rv, ev, q3⟩ := I2.after hq'
      subst ev
      exact ⟨rv, ⟨V.ref (s1.heap.objs.size + 1), H', I3, rfl, q3⟩⟩
    | next => exact False.elim hq'
    | brk => exact False.elim hq'
    | cont => exact False.elim hq'
variable {f : Str} {tv : TE} {value : Expr} {pos' : Pos}
theorem k_fld (K : PySem.W.Frag) (he : PE X e ta) (hK : X.K = K := by rfl) (hb : attributeBase e f X.env (eval e X.env) = eval e X.env := by rfl) : PE X (.Attribute e f pos) (tFld K ta f) := by
  subst hK
  exact pe_fld he hb
theorem k_sfld (K : PySem.W.Frag) (ha : PE X o ta) (hv : PE X value tv) (hK : X.K = K := by rfl) (hs : swapsWith value (some (.Attribute o f pos')) pos.line X.env = pure false := by rfl) : PS X (.Assign [.Attribute o f pos'] value pos) (sFld K ta tv f) := by
  subst hK
  exact ps_fld ha hv hs
end
end SS

/-! comprehensions and loops: what they evaluate to -/
namespace SS
open PySem PySem.Spec PyProof.Rows L2 Evl

theorem ty_lst {K : PySem.W.Frag} {H : Hp} {a : Addr} {xs : List V} (h : SqL K H a xs) : tyV K "list" (.ref a) H := .inl ⟨rfl, _, h⟩
theorem cmu_w {i j : Int} {n m : Nat} (hi : i.natAbs < 2 ^ n) (hj : j.natAbs < 2 ^ m) (h0 : 0 < n) (h1 : 0 < m) (h : n + m ≤ 1000000) : CMu i j := .inr (wide_mul hi hj h0 h1 h)
theorem cmu_l {i j : Int} (h : -(2 ^ 64) < i ∧ i < 2 ^ 64) : CMu i j := .inl (.inl h)
theorem cmu_r {i j : Int} (h : -(2 ^ 64) < j ∧ j < 2 ^ 64) : CMu i j := .inl (.inr h)
theorem cpow1 {i : Nat} (h : i ≤ 1000000) : CPow 1 (i : Int) := ⟨by omega, by omega, by decide⟩
/-! ### lists by places -/
theorem range_get {α : Type} (xs : List α) (d : α) : (List.range xs.length).map (fun i => xs.getD i d) = xs := by
  apply List.ext_getElem
  · simp
  · intro i h1 h2
    simp [List.getD_eq_getElem?_getD, h2]
theorem given_list {α : Type} (xs : List α) (d : α) (f : α → Bool) (g : α → V) : given xs.length (fun i => f (xs.getD i d)) (fun i => g (xs.getD i d)) = (xs.filter f).map g := by
  unfold given
  conv => rhs; rw [← range_get xs d]
  rw [List.filter_map, List.map_map]
  rfl
theorem getD_of {α : Type} {xs : List α} {i : Nat} {x : α} (d : α) (h : xs[i]? = some x) : xs.getD i d = x := by
  rw [List.getD_eq_getElem?_getD, h] <;> rfl

section
variable {K : PySem.W.Frag} {σ : L2.St} {H H' : Hp} {ta te tl : TE} {t : TT}
/-- [g x for x in xs if f x], values -/
theorem lc_vals {a : Addr} {xs : List V} {j : Nat} {vs : List Nat} (f : V → Bool) (g : V → V) (h : Ev tl σ H (.ref a)) (hx : SqL K H a xs) (hz : xs.length ≤ 40000) (hw : ∀ x, wipe ((wipe σ vs).set j (some x)) vs = wipe σ vs)
    (ht : ∀ x, x ∈ xs → ∀ H1, Ex H H1 → EvT t ((wipe σ vs).set j (some x)) H1 (f x)) (he : ∀ x, x ∈ xs → ∀ H1, Ex H H1 → f x = true → Ev te ((wipe σ vs).set j (some x)) H1 (g x)) :
    EvL (tLc (iList K tl) (gName j) t te vs) σ H ((xs.filter f).map g) := by
  rw [← given_list xs .non f g]
  refine el_lcL _ _ h hx hz hw (fun i x H1 e hi => ?_) (fun i x H1 e hi hf => ?_)
  · rw [getD_of .non hi]
    exact ht x (List.mem_of_getElem? hi) H1 e
  · rw [getD_of .non hi] at hf ⊢
    exact he x (List.mem_of_getElem? hi) H1 e hf
theorem get_ints {ns : List Int} {i : Nat} {x : V} (h : (ns.map V.int)[i]? = some x) : ∃ n, ns[i]? = some n ∧ x = .int n := by
  rw [List.getElem?_map] at h
  cases e : ns[i]? with
  | none => rw [e] at h; cases h
  | some n => rw [e] at h; exact ⟨n, rfl, (Option.some.inj h).symm⟩
/-- .. over a list of ints -/
theorem lc_ints {a : Addr} {ns : List Int} {j : Nat} {vs : List Nat} (f : Int → Bool) (g : Int → V) (h : Ev tl σ H (.ref a)) (hx : SqL K H a (ns.map V.int)) (hz : ns.length ≤ 40000) (hw : ∀ x, wipe ((wipe σ vs).set j (some x)) vs = wipe σ vs)
    (ht : ∀ n, n ∈ ns → ∀ H1, Ex H H1 → EvT t ((wipe σ vs).set j (some (.int n))) H1 (f n)) (he : ∀ n, n ∈ ns → ∀ H1, Ex H H1 → f n = true → Ev te ((wipe σ vs).set j (some (.int n))) H1 (g n)) :
    EvL (tLc (iList K tl) (gName j) t te vs) σ H ((ns.filter f).map g) := by
  rw [← given_list ns 0 f g]
  have hl : (ns.map V.int).length = ns.length := List.length_map _
  rw [← hl]
  refine el_lcL _ _ h hx (by rw [hl]; exact hz) hw (fun i x H1 e hi => ?_) (fun i x H1 e hi hf => ?_)
  · obtain ⟨n, hn, rfl⟩ := get_ints hi
    rw [getD_of 0 hn]
    exact ht n (List.mem_of_getElem? hn) H1 e
  · obtain ⟨n, hn, rfl⟩ := get_ints hi
    rw [getD_of 0 hn] at hf ⊢
    exact he n (List.mem_of_getElem? hn) H1 e hf
theorem yes_ev : EvT tYes σ H true := fun H1 _ Q q => q H1 (Ex.refl H1)
/-- any iterator, what is gathered by places -/
theorem cw_step {J : It} {g : TG} {n : Nat} {vs : List Nat} {f : Nat → Bool} {v : Nat → V} {Q : VK} (hgo : ∀ i H1, Ex H H1 → i < n → J.go i H1) (hst : ∀ H1, Ex H H1 → J.stop n H1) (hz : n ≤ 40000)
    (hy : ∀ i x H1 H2, i < n → Ex H H1 → J.yld i H1 x H2 → Ex H1 H2 ∧ ∀ Dl, H Dl = none → H1 Dl ≠ none → H2 Dl = H1 Dl ∧ ∀ R : L2.St → Hp → Prop, (∀ σ2, wipe σ2 vs = wipe σ vs → EvT t σ2 H (f i) → (f i = true → Ev te σ2 H (v i)) → R σ2 H2) → g x (wipe σ vs) H2 R)
    (q : ∀ p H2, H p = none → Ex H H2 → H2 p = some (.lst (given n f v)) → Q (.ref p) H2) (Dl : Addr) (hD : H Dl = none) :
    ∃ W : Nat → Nat → Hp → Prop, (∃ m, W 0 m (upd H Dl (.lst []))) ∧ ∀ i m H, W i m H →
      (J.stop i H ∧ Q (.ref Dl) H) ∨ (J.go i H ∧ ∃ Nx : Hp → Prop, (∀ H', Nx H' → ∃ m', m' < m ∧ W (i + 1) m' H') ∧ ∀ x H', J.yld i H x H' → g x (wipe σ vs) H' fun σ2 H2 => wipe σ2 vs = wipe σ vs ∧ t σ2 H2 fun b H3 =>
        if b = true then te σ2 H3 fun y H4 => ∃ acc, H4 Dl = some (.lst acc) ∧ acc.length < sizeLine ∧ Nx (upd H4 Dl (.lst (acc ++ [y]))) else Nx H3) := by
  refine ⟨fun i m H' => m = n - i ∧ i ≤ n ∧ Cw H f v Dl i H', ⟨n, by simp, Nat.zero_le _, hD, Ex.new hD, upd_same⟩, ?_⟩
  rintro i m H1 ⟨rfl, hi, c⟩
  by_cases hlt : i < n
  · refine .inr ⟨hgo i H1 c.2.1 hlt, fun H' => Cw H f v Dl (i + 1) H', fun H' c' => ⟨n - (i + 1), by omega, rfl, hlt, c'⟩, fun x H2 y => ?_⟩
    obtain ⟨e12, hh⟩ := hy i x H1 H2 hlt c.2.1 y
    obtain ⟨eD, hR⟩ := hh Dl hD (by rw [c.2.2]; exact fun z => nomatch z)
    refine hR _ fun σ2 hw ht he => ⟨hw, ?_⟩
    have c2 : Cw H f v Dl i H2 := ⟨hD, c.2.1.trans e12, by rw [eD]; exact c.2.2⟩
    exact cw_turn c2 (by omega) ht he
  · have e : i = n := by omega
    subst e
    exact .inl ⟨hst H1 c.2.1, q Dl H1 c.1 c.2.1 c.2.2⟩
/-- a pair's two names -/
theorem pair_tgt {K : PySem.W.Frag} {T : Addr} {x y : V} {i j : Nat} {σ : L2.St} {H1 : Hp} {R : L2.St → Hp → Prop} (h : R ((σ.set i (some x)).set j (some y)) (upd H1 T (.tup [x, y]))) :
    gTup K 2 (gCons (gName i) (gCons (gName j) gNil)) (.ref T) σ (upd H1 T (.tup [x, y])) R :=
  ⟨T, [x, y], rfl, .inl (.inl upd_same), rfl, x, [y], rfl, y, [], rfl, rfl, h⟩
/-- [.. for i, x in enumerate(xs) if ..] -/
theorem lc_enum {ta : TA} {a : Addr} {xs : List V} {i j : Nat} {vs : List Nat} (f : Nat → Bool) (v : Nat → V) (h : EvA ta σ H [.ref a]) (hx : SqL K H a xs) (hz : xs.length ≤ 40000) (hw : ∀ x y, wipe (((wipe σ vs).set i (some x)).set j (some y)) vs = wipe σ vs)
    (ht : ∀ (k : Nat) (x : V) H1, Ex H H1 → xs[k]? = some x → EvT t (((wipe σ vs).set i (some (.int (k : Nat)))).set j (some x)) H1 (f k)) (he : ∀ (k : Nat) (x : V) H1, Ex H H1 → xs[k]? = some x → f k = true → Ev te (((wipe σ vs).set i (some (.int (k : Nat)))).set j (some x)) H1 (v k)) :
    EvL (tLc (iEnum K ta) (gTup K 2 (gCons (gName i) (gCons (gName j) gNil))) t te vs) σ H (given xs.length f v) := fun H0 e0 Q q => h H0 e0 _ fun H1 e1 => ⟨a, xs, rfl, ex_l (e0.trans e1) hx, fun Dl hD =>
  cw_step (J := Ite K a) (n := xs.length) (f := f) (v := v) (t := t) (te := te) (fun k H2 e2 hk => ⟨xs, xs[k], ex_l ((e0.trans e1).trans e2) hx, by simp [hk]⟩) (fun H2 e2 => ⟨xs, ex_l ((e0.trans e1).trans e2) hx, Nat.le_refl _⟩) hz
    (fun k x H2 H3 hk e2 y => by
      obtain ⟨T, z, rfl, nT, rfl, hh⟩ := y
      have hz2 := hh xs (ex_l ((e0.trans e1).trans e2) hx)
      refine ⟨Ex.new nT, fun Dl hD hn => ⟨upd_ne (fun z => hn (by rw [z]; exact nT)), fun R hR => pair_tgt (hR _ (hw _ _) (ht k z H1 (e0.trans e1) hz2) (he k z H1 (e0.trans e1) hz2))⟩⟩)
    (fun p H2 hp e2 hl => q p H2 (fresh_back e1 hp) (e1.trans e2) hl) Dl hD⟩
/-- [.. for x, y in zip(xs, ys) if ..], lists of one length -/
theorem lc_zip {ta : TA} {a b : Addr} {xs ys : List V} {i j : Nat} {vs : List Nat} (f : Nat → Bool) (v : Nat → V) (h : EvA ta σ H [.ref a, .ref b]) (hx : SqL K H a xs) (hyy : SqL K H b ys) (hl : xs.length = ys.length) (hz : xs.length ≤ 40000) (hw : ∀ x y, wipe (((wipe σ vs).set i (some x)).set j (some y)) vs = wipe σ vs)
    (ht : ∀ (k : Nat) (x y : V) H1, Ex H H1 → xs[k]? = some x → ys[k]? = some y → EvT t (((wipe σ vs).set i (some x)).set j (some y)) H1 (f k)) (he : ∀ (k : Nat) (x y : V) H1, Ex H H1 → xs[k]? = some x → ys[k]? = some y → f k = true → Ev te (((wipe σ vs).set i (some x)).set j (some y)) H1 (v k)) :
    EvL (tLc (iZip K ta) (gTup K 2 (gCons (gName i) (gCons (gName j) gNil))) t te vs) σ H (given xs.length f v) := fun H0 e0 Q q => h H0 e0 _ fun H1 e1 => ⟨a, b, xs, ys, rfl, ex_l (e0.trans e1) hx, ex_l (e0.trans e1) hyy, fun Dl hD =>
  cw_step (J := Itz K a b) (n := xs.length) (f := f) (v := v) (t := t) (te := te) (fun k H2 e2 hk => ⟨xs, ys, xs[k], ys[k], ex_l ((e0.trans e1).trans e2) hx, ex_l ((e0.trans e1).trans e2) hyy, by simp [hk], by simp [hl ▸ hk]⟩) (fun H2 e2 => ⟨xs, ys, ex_l ((e0.trans e1).trans e2) hx, ex_l ((e0.trans e1).trans e2) hyy, .inl (Nat.le_refl _)⟩) hz
    (fun k x H2 H3 hk e2 y => by
      obtain ⟨T, z, u, rfl, nT, rfl, h1, h2⟩ := y
      have hz1 := h1 xs (ex_l ((e0.trans e1).trans e2) hx)
      have hz2 := h2 ys (ex_l ((e0.trans e1).trans e2) hyy)
      refine ⟨Ex.new nT, fun Dl hD hn => ⟨upd_ne (fun z => hn (by rw [z]; exact nT)), fun R hR => pair_tgt (hR _ (hw _ _) (ht k z u H1 (e0.trans e1) hz1 hz2) (he k z u H1 (e0.trans e1) hz1 hz2))⟩⟩)
    (fun p H2 hp e2 hl => q p H2 (fresh_back e1 hp) (e1.trans e2) hl) Dl hD⟩
end

/-! ### lists of lists of ints -/
/-- the items of xs are lists that hold rows -/
def Rows (K : PySem.W.Frag) (H : Hp) (xs : List V) (rows : List (List Int)) : Prop := Paired (fun (x : V) (ns : List Int) => ∃ a, x = .ref a ∧ SqL K H a (ns.map V.int)) xs rows
theorem Rows.mono {K : PySem.W.Frag} {H H' : Hp} (e : Ex H H') : ∀ {xs : List V} {rows : List (List Int)}, Rows K H xs rows → Rows K H' xs rows
  | _, _, .nil => .nil
  | _, _, .cons ⟨a, h, q⟩ t => .cons ⟨a, h, ex_l e q⟩ (Rows.mono e t)
theorem Rows.len {K : PySem.W.Frag} {H : Hp} {xs : List V} {rows : List (List Int)} (h : Rows K H xs rows) : xs.length = rows.length := Paired.length h
theorem Rows.get {K : PySem.W.Frag} {H : Hp} {xs : List V} {rows : List (List Int)} (h : Rows K H xs rows) {i : Nat} {r : List Int} (hr : rows[i]? = some r) : ∃ a, xs[i]? = some (.ref a) ∧ SqL K H a (r.map V.int) := by
  induction h generalizing i with
  | nil => simp at hr
  | cons p t ih =>
    cases i with
    | zero =>
      obtain ⟨a, rfl, q⟩ := p
      have e := Option.some.inj hr
      subst e
      exact ⟨a, rfl, q⟩
    | succ i => exact ih (i := i) (by simpa using hr)
theorem Rows.snoc {K : PySem.W.Frag} {H : Hp} {a : Addr} {r : List Int} : ∀ {xs : List V} {rows : List (List Int)}, Rows K H xs rows → SqL K H a (r.map V.int) → Rows K H (xs ++ [.ref a]) (rows ++ [r])
  | _, _, .nil, h => .cons ⟨a, rfl, h⟩ .nil
  | _, _, .cons p t, h => .cons p (Rows.snoc t h)
/-- .. and each of them is new over B -/
def RowsF (B H : Hp) (xs : List V) (rows : List (List Int)) : Prop := Paired (fun (x : V) (ns : List Int) => ∃ a, x = .ref a ∧ B a = none ∧ H a = some (.lst (ns.map V.int))) xs rows
theorem RowsF.mono {B H H' : Hp} (e : Ex H H') : ∀ {xs : List V} {rows : List (List Int)}, RowsF B H xs rows → RowsF B H' xs rows
  | _, _, .nil => .nil
  | _, _, .cons ⟨a, h, n, q⟩ t => .cons ⟨a, h, n, e _ _ q⟩ (RowsF.mono e t)
theorem RowsF.back {B B' H : Hp} (e : Ex B' B) : ∀ {xs : List V} {rows : List (List Int)}, RowsF B H xs rows → RowsF B' H xs rows
  | _, _, .nil => .nil
  | _, _, .cons ⟨a, h, n, q⟩ t => .cons ⟨a, h, fresh_back e n, q⟩ (RowsF.back e t)
theorem RowsF.rows {K : PySem.W.Frag} {B H : Hp} : ∀ {xs : List V} {rows : List (List Int)}, RowsF B H xs rows → Rows K H xs rows
  | _, _, .nil => .nil
  | _, _, .cons ⟨a, h, _, q⟩ t => .cons ⟨a, h, .inl (.inl q)⟩ (RowsF.rows t)
theorem RowsF.get {B H : Hp} {xs : List V} {rows : List (List Int)} (h : RowsF B H xs rows) {i : Nat} {r : List Int} (hr : rows[i]? = some r) : ∃ a, xs[i]? = some (.ref a) ∧ B a = none ∧ H a = some (.lst (r.map V.int)) := by
  induction h generalizing i with
  | nil => simp at hr
  | cons p t ih =>
    cases i with
    | zero =>
      obtain ⟨a, rfl, n, q⟩ := p
      have e := Option.some.inj hr
      subst e
      exact ⟨a, rfl, n, q⟩
    | succ i => exact ih (i := i) (by simpa using hr)
theorem RowsF.len {B H : Hp} {xs : List V} {rows : List (List Int)} (h : RowsF B H xs rows) : xs.length = rows.length := Paired.length h
theorem RowsF.snoc {B H : Hp} {a : Addr} {r : List Int} : ∀ {xs : List V} {rows : List (List Int)}, RowsF B H xs rows → B a = none → H a = some (.lst (r.map V.int)) → RowsF B H (xs ++ [.ref a]) (rows ++ [r])
  | _, _, .nil, n, h => .cons ⟨a, rfl, n, h⟩ .nil
  | _, _, .cons p t, n, h => .cons p (RowsF.snoc t n h)
section
variable {K : PySem.W.Frag} {σ : L2.St} {H H' : Hp} {ta te tl : TE} {t : TT}
/-- any iterator, each turn a new list of ints -/
theorem rows_step {J : It} {g : TG} {n : Nat} {vs : List Nat} {r : Nat → List Int} {Q : VK} (hgo : ∀ i H1, Ex H H1 → i < n → J.go i H1) (hst : ∀ H1, Ex H H1 → J.stop n H1) (hz : n ≤ 40000)
    (hy : ∀ i x H1 H2, i < n → Ex H H1 → J.yld i H1 x H2 → Ex H1 H2 ∧ ∀ Dl, H Dl = none → H1 Dl ≠ none → H2 Dl = H1 Dl ∧ ∀ R : L2.St → Hp → Prop, (∀ σ2, wipe σ2 vs = wipe σ vs → EvL te σ2 H ((r i).map V.int) → R σ2 H2) → g x (wipe σ vs) H2 R)
    (q : ∀ p xs H2, H p = none → Ex H H2 → H2 p = some (.lst xs) → RowsF H H2 xs ((List.range n).map r) → Q (.ref p) H2) (Dl : Addr) (hD : H Dl = none) :
    ∃ W : Nat → Nat → Hp → Prop, (∃ m, W 0 m (upd H Dl (.lst []))) ∧ ∀ i m H, W i m H →
      (J.stop i H ∧ Q (.ref Dl) H) ∨ (J.go i H ∧ ∃ Nx : Hp → Prop, (∀ H', Nx H' → ∃ m', m' < m ∧ W (i + 1) m' H') ∧ ∀ x H', J.yld i H x H' → g x (wipe σ vs) H' fun σ2 H2 => wipe σ2 vs = wipe σ vs ∧ tYes σ2 H2 fun b H3 =>
        if b = true then te σ2 H3 fun y H4 => ∃ acc, H4 Dl = some (.lst acc) ∧ acc.length < sizeLine ∧ Nx (upd H4 Dl (.lst (acc ++ [y]))) else Nx H3) := by
  refine ⟨fun i m H' => m = n - i ∧ i ≤ n ∧ ∃ (S : Hp) (xs : List V), Ex H S ∧ S Dl = none ∧ Ex S H' ∧ H' Dl = some (.lst xs) ∧ RowsF H S xs ((List.range i).map r), ⟨n, by simp, Nat.zero_le _, H, [], Ex.refl H, hD, Ex.new hD, upd_same, .nil⟩, ?_⟩
  rintro i m H1 ⟨rfl, hi, S, xs, e1, nS, e2, hl, hr⟩
  by_cases hlt : i < n
  · refine .inr ⟨hgo i H1 (e1.trans e2) hlt, fun H' => ∃ (S : Hp) (xs : List V), Ex H S ∧ S Dl = none ∧ Ex S H' ∧ H' Dl = some (.lst xs) ∧ RowsF H S xs ((List.range (i + 1)).map r), fun H' c' => ⟨n - (i + 1), by omega, rfl, hlt, c'⟩, fun x H2 y => ?_⟩
    obtain ⟨e12, hh⟩ := hy i x H1 H2 hlt (e1.trans e2) y
    obtain ⟨eD, hR⟩ := hh Dl hD (by rw [hl]; exact fun z => nomatch z)
    refine hR _ fun σ2 hw he => ⟨hw, ?_⟩
    show te σ2 H2 fun y H4 => ∃ acc, H4 Dl = some (.lst acc) ∧ acc.length < sizeLine ∧ _
    refine he H2 ((e1.trans e2).trans e12) _ fun p H4 np e4 h4 => ?_
    have hD2 : H2 Dl = some (.lst xs) := by rw [eD]; exact hl
    have hpD : p ≠ Dl := fun z => by rw [z, hD2] at np; cases np
    have nSp : S p = none := fresh_back (e2.trans e12) np
    refine ⟨xs, e4 Dl _ hD2, ?_, upd S p (.lst ((r i).map V.int)), xs ++ [.ref p], e1.trans (Ex.new nSp), ?_, ?_, upd_same, ?_⟩
    · have := hr.len
      rw [List.length_map, List.length_range] at this
      exact sz_lt (by omega)
    · rw [upd_ne (Ne.symm hpD)]
      exact nS
    · refine Ex.mut ?_ (by rw [upd_ne (Ne.symm hpD)]; exact nS)
      intro b o hb
      by_cases hbp : b = p
      · subst hbp
        rw [upd_same] at hb
        rw [← hb]
        exact h4
      · rw [upd_ne hbp] at hb
        exact e4 b o (e12 b o (e2 b o hb))
    · rw [List.range_succ, List.map_append]
      exact RowsF.snoc (hr.mono (Ex.new nSp)) (fresh_back e1 nSp) upd_same
  · have e : i = n := by omega
    subst e
    exact .inl ⟨hst H1 (e1.trans e2), q Dl xs H1 hD (e1.trans e2) hl (hr.mono e2)⟩
/-- [a list for i in range(n)] -/
theorem lc_rowsR {ta : TA} {j : Nat} {vs : List Nat} {n : Nat} {r : Nat → List Int} {Q : VK} (h : EvA ta σ H [.int (n : Int)]) (hz : n ≤ 40000) (hw : ∀ x, wipe ((wipe σ vs).set j (some x)) vs = wipe σ vs)
    (he : ∀ k H1, k < n → Ex H H1 → EvL te ((wipe σ vs).set j (some (.int (k : Nat)))) H1 ((r k).map V.int))
    (q : ∀ p xs H2, H p = none → Ex H H2 → H2 p = some (.lst xs) → Rows K H2 xs ((List.range n).map r) → Q (.ref p) H2) : tLc (iRng1 ta) (gName j) tYes te vs σ H Q :=
  h H (Ex.refl H) _ fun H1 e1 => ⟨n, rfl, by omega, by omega, fun Dl hD =>
  rows_step (J := Itr 0 n) (r := r) (te := te) (fun k H2 e2 hk => hk) (fun H2 e2 => Nat.le_refl _) hz
    (fun k x H2 H3 hk e2 y => by
      obtain ⟨e3, rfl⟩ := y
      subst e3
      refine ⟨Ex.refl _, fun Dl hD hn => ⟨rfl, fun R hR => ?_⟩⟩
      show R _ _
      have := he k H1 hk e1
      rw [show (0 : Int) + (k : Int) = (k : Int) from Int.zero_add _]
      exact hR _ (hw _) this)
    (fun p xs H2 hp e2 hl hr => q p xs H2 (fresh_back e1 hp) (e1.trans e2) hl hr.rows) Dl hD⟩
end
/-! ### what is a table, what is none -/
def isI : V → Bool
  | .int _ => true
  | _ => false
/-- an item whose type is known -/
def El (K : PySem.W.Frag) (H : Hp) (x : V) : Prop := ∃ t, Kd K H x t ∧ decide (t = .int) = isI x
theorem kd_mono {K : PySem.W.Frag} {H H' : Hp} {x : V} {t : Ty} (e : Ex H H') (h : Kd K H x t) : Kd K H' x t := by
  unfold Kd at h ⊢
  generalize (Value.type t.nm) = T at h ⊢
  cases h with
  | base b =>
    cases b with
    | non => exact .base .non
    | bl y => exact .base (.bl y)
    | int i => exact .base (.int i)
    | str y => exact .base (.str y)
    | flt y => exact .base (.flt y)
    | lst q => exact .base (.lst (e _ _ q))
    | frz q => exact .base (.frz (e _ _ q))
    | tup q => exact .base (.tup (e _ _ q))
    | dK q => exact .base (.dK (e _ _ q))
    | dT q => exact .base (.dT (e _ _ q))
    | ins q a b c d f => exact .base (.ins (e _ _ q) a b c d f)
  | byt b => exact .byt b
  | set q => exact .set (e _ _ q)
  | kList q c => exact .kList q c
  | kTuple q c => exact .kTuple q c
  | kDict q c => exact .kDict q c
  | fTuple q => exact .fTuple (e _ _ q)
  | fDict q => exact .fDict (e _ _ q)
theorem El.mono {K : PySem.W.Frag} {H H' : Hp} {x : V} (e : Ex H H') (h : El K H x) : El K H' x := by
  obtain ⟨t, k, q⟩ := h
  exact ⟨t, kd_mono e k, q⟩
theorem El.int {K : PySem.W.Frag} {H : Hp} (i : Int) : El K H (.int i) := ⟨.int, .int i, rfl⟩
/-- what is no table -/
def NoTab (K : PySem.W.Frag) (H : Hp) (x : V) : Prop := (∃ t, Kd K H x t ∧ t ≠ .lst) ∨
  ∃ a xs, x = .ref a ∧ SqL K H a xs ∧ xs.length ≤ 40000 ∧ (∀ y ∈ xs, El K H y) ∧ (xs.all isI = false ∨ (xs.all isI = true ∧ ∀ n, n ≤ 10 → xs.length ≠ 2 ^ n))
theorem NoTab.mono {K : PySem.W.Frag} {H H' : Hp} {x : V} (e : Ex H H') (h : NoTab K H x) : NoTab K H' x := by
  rcases h with ⟨t, k, q⟩ | ⟨a, xs, rfl, h1, h2, h3, h4⟩
  · exact .inl ⟨t, kd_mono e k, q⟩
  · exact .inr ⟨a, xs, rfl, ex_l e h1, h2, fun y hy => (h3 y hy).mono e, h4⟩
/-- a table of n names -/
def IsTab (K : PySem.W.Frag) (H : Hp) (x : V) (n : Nat) (ns : List Int) : Prop := ∃ a, x = .ref a ∧ SqL K H a (ns.map V.int) ∧ n ≤ 10 ∧ ns.length = 2 ^ n
theorem IsTab.mono {K : PySem.W.Frag} {H H' : Hp} {x : V} {n : Nat} {ns : List Int} (e : Ex H H') (h : IsTab K H x n ns) : IsTab K H' x n ns := by
  obtain ⟨a, rfl, h1, h2⟩ := h
  exact ⟨a, rfl, ex_l e h1, h2⟩
theorem pow_le {n : Nat} (h : n ≤ 10) : 2 ^ n ≤ 1024 := Nat.pow_le_pow_right (by decide) h
theorem pow_inj {n m : Nat} (h : 2 ^ n = 2 ^ m) : n = m := (Nat.pow_right_inj (by decide)).mp h
/-! ### loops and comprehensions behind the reading of what is walked -/
def WFor (J : It) (g : TG) (tb : TS) (D : Ends) (σ : L2.St) (H1 : Hp) : Prop := ∃ W : Nat → Nat → L2.St → Hp → Prop, (∃ m, W 0 m σ H1) ∧ ∀ i m σ H, W i m σ H →
  (J.stop i H ∧ D.nx σ H) ∨ (J.go i H ∧ ∃ N : L2.St → Hp → Prop, (∀ σ' H', N σ' H' → ∃ m', m' < m ∧ W (i + 1) m' σ' H') ∧ ∀ x H', J.yld i H x H' → g x σ H' fun σ2 H2 => tb { D with nx := N, ct := N, bk := D.nx } σ2 H2)
def WLc (J : It) (g : TG) (tt : TT) (te : TE) (vs : List Nat) (σ : L2.St) (H1 : Hp) (Q : VK) : Prop := ∀ D, H1 D = none → ∃ W : Nat → Nat → Hp → Prop, (∃ m, W 0 m (upd H1 D (.lst []))) ∧ ∀ i m H, W i m H →
  (J.stop i H ∧ Q (.ref D) H) ∨ (J.go i H ∧ ∃ Nx : Hp → Prop, (∀ H', Nx H' → ∃ m', m' < m ∧ W (i + 1) m' H') ∧ ∀ x H', J.yld i H x H' → g x (wipe σ vs) H' fun σ2 H2 => wipe σ2 vs = wipe σ vs ∧ tt σ2 H2 fun b H3 =>
    if b = true then te σ2 H3 fun y H4 => ∃ acc, H4 D = some (.lst acc) ∧ acc.length < sizeLine ∧ Nx (upd H4 D (.lst (acc ++ [y]))) else Nx H3)
theorem tFor_W {wi : TI} {g : TG} {tb : TS} {D : Ends} {σ : L2.St} {H : Hp} : tFor wi g tb D σ H = wi σ H (fun J H1 => WFor J g tb D σ H1) := rfl
theorem tLc_W {wi : TI} {g : TG} {tt : TT} {te : TE} {vs : List Nat} {σ : L2.St} {H : Hp} {Q : VK} : tLc wi g tt te vs σ H Q = wi σ H (fun J H1 => WLc J g tt te vs σ H1 Q) := rfl
section
variable {K : PySem.W.Frag} {g : TG} {tb : TS} {D : Ends} {σ : L2.St} {H : Hp} {te : TE} {t : TT} {Q : VK}
theorem w_list {a : Addr} (xs : List V) (Pv : Nat → L2.St → Hp → Prop) (h0 : Pv 0 σ H) (hl : ∀ i σ H, i ≤ xs.length → Pv i σ H → SqL K H a xs)
    (hs : ∀ i x σ H, xs[i]? = some x → Pv i σ H → g x σ H fun σ2 H2 => tb { D with nx := Pv (i + 1), ct := Pv (i + 1), bk := D.nx } σ2 H2) (hd : ∀ σ H, Pv xs.length σ H → D.nx σ H) : WFor (Itl K a) g tb D σ H := for_list Pv h0 hl hs hd
theorem w_tup {a : Addr} (xs : List V) (Pv : Nat → L2.St → Hp → Prop) (h0 : Pv 0 σ H) (hl : ∀ i σ H, i ≤ xs.length → Pv i σ H → SqT K H a xs)
    (hs : ∀ i x σ H, xs[i]? = some x → Pv i σ H → g x σ H fun σ2 H2 => tb { D with nx := Pv (i + 1), ct := Pv (i + 1), bk := D.nx } σ2 H2) (hd : ∀ σ H, Pv xs.length σ H → D.nx σ H) : WFor (Itt K a) g tb D σ H := for_tup Pv h0 hl hs hd
theorem w_rng {lo : Int} {n : Nat} (Pv : Nat → L2.St → Hp → Prop) (h0 : Pv 0 σ H)
    (hs : ∀ i σ H, i < n → Pv i σ H → g (.int (lo + i)) σ H fun σ2 H2 => tb { D with nx := Pv (i + 1), ct := Pv (i + 1), bk := D.nx } σ2 H2) (hd : ∀ σ H, Pv n σ H → D.nx σ H) : WFor (Itr lo n) g tb D σ H := for_range Pv h0 hs hd
theorem w_rng0 {n : Nat} {j : Nat} (Pv : Nat → L2.St → Hp → Prop) (h0 : Pv 0 σ H)
    (hs : ∀ (i : Nat) σ H, i < n → Pv i σ H → tb { D with nx := Pv (i + 1), ct := Pv (i + 1), bk := D.nx } (σ.set j (some (.int (i : Nat)))) H) (hd : ∀ σ H, Pv n σ H → D.nx σ H) : WFor (Itr 0 n) (gName j) tb D σ H :=
  w_rng Pv h0 (fun i σ H hi p => by
    show tb _ (σ.set j (some (.int (0 + (i : Int))))) H
    rw [Int.zero_add]
    exact hs i σ H hi p) hd
theorem w_by {J : It} (n : Nat) (Pv : Nat → L2.St → Hp → Prop) (h0 : Pv 0 σ H) (hgo : ∀ i σ H, i < n → Pv i σ H → J.go i H) (hst : ∀ σ H, Pv n σ H → J.stop n H)
    (hs : ∀ i σ H x H', i < n → Pv i σ H → J.yld i H x H' → g x σ H' fun σ2 H2 => tb { D with nx := Pv (i + 1), ct := Pv (i + 1), bk := D.nx } σ2 H2) (hd : ∀ σ H, Pv n σ H → D.nx σ H) : WFor J g tb D σ H := by
  refine ⟨fun i m σ H => m = n - i ∧ i ≤ n ∧ Pv i σ H, ⟨n, by simp, Nat.zero_le _, h0⟩, ?_⟩
  rintro i m σ H ⟨rfl, hi, p⟩
  by_cases hlt : i < n
  · exact .inr ⟨hgo i σ H hlt p, Pv (i + 1), fun σ' H' p' => ⟨n - (i + 1), by omega, rfl, hlt, p'⟩, fun x H' y => hs i σ H x H' hlt p y⟩
  · have e : i = n := by omega
    subst e
    exact .inl ⟨hst σ H p, hd σ H p⟩
theorem w_enum {a : Addr} {i j : Nat} (xs : List V) (Pv : Nat → L2.St → Hp → Prop) (h0 : Pv 0 σ H) (hl : ∀ i σ H, Pv i σ H → SqL K H a xs)
    (hs : ∀ (k : Nat) x T σ H, xs[k]? = some x → H T = none → Pv k σ H → tb { D with nx := Pv (k + 1), ct := Pv (k + 1), bk := D.nx } ((σ.set i (some (.int (k : Nat)))).set j (some x)) (upd H T (.tup [.int (k : Nat), x]))) (hd : ∀ σ H, Pv xs.length σ H → D.nx σ H) :
    WFor (Ite K a) (gTup K 2 (gCons (gName i) (gCons (gName j) gNil))) tb D σ H :=
  w_by xs.length Pv h0 (fun k σ H hk p => ⟨xs, xs[k], hl k σ H p, by simp [hk]⟩) (fun σ H p => ⟨xs, hl _ σ H p, Nat.le_refl _⟩) (fun k σ H x H' hk p y => by
    obtain ⟨T, z, rfl, nT, rfl, hh⟩ := y
    exact pair_tgt (hs k z T σ H (hh xs (hl k σ H p)) nT p)) hd
theorem wl_vals {a : Addr} {j : Nat} {vs : List Nat} (xs : List V) (f : V → Bool) (v : V → V) (hx : SqL K H a xs) (hz : xs.length ≤ 40000) (hw : ∀ x, wipe ((wipe σ vs).set j (some x)) vs = wipe σ vs)
    (ht : ∀ x, x ∈ xs → ∀ H1, Ex H H1 → EvT t ((wipe σ vs).set j (some x)) H1 (f x)) (he : ∀ x, x ∈ xs → ∀ H1, Ex H H1 → f x = true → Ev te ((wipe σ vs).set j (some x)) H1 (v x))
    (q : ∀ p H2, H p = none → Ex H H2 → H2 p = some (.lst ((xs.filter f).map v)) → Q (.ref p) H2) : WLc (Itl K a) (gName j) t te vs σ H Q := by
  have h := lc_vals (K := K) (tl := tC (.ref a)) (te := te) (t := t) (σ := σ) f v (ev_c) hx hz hw ht he H (Ex.refl H) Q q
  obtain ⟨_, e, _, h⟩ := h
  cases e
  exact h
theorem wl_ints {a : Addr} {j : Nat} {vs : List Nat} (ns : List Int) (f : Int → Bool) (v : Int → V) (hx : SqL K H a (ns.map V.int)) (hz : ns.length ≤ 40000) (hw : ∀ x, wipe ((wipe σ vs).set j (some x)) vs = wipe σ vs)
    (ht : ∀ x, x ∈ ns → ∀ H1, Ex H H1 → EvT t ((wipe σ vs).set j (some (.int x))) H1 (f x)) (he : ∀ x, x ∈ ns → ∀ H1, Ex H H1 → f x = true → Ev te ((wipe σ vs).set j (some (.int x))) H1 (v x))
    (q : ∀ p H2, H p = none → Ex H H2 → H2 p = some (.lst ((ns.filter f).map v)) → Q (.ref p) H2) : WLc (Itl K a) (gName j) t te vs σ H Q := by
  have h := lc_ints (K := K) (tl := tC (.ref a)) (te := te) (t := t) (σ := σ) f v (ev_c) hx hz hw ht he H (Ex.refl H) Q q
  obtain ⟨_, e, _, h⟩ := h
  cases e
  exact h
theorem wl_rng {j : Nat} {vs : List Nat} {n : Nat} (f : Nat → Bool) (v : Nat → V) (hz : n ≤ 40000) (hw : ∀ x, wipe ((wipe σ vs).set j (some x)) vs = wipe σ vs)
    (ht : ∀ (i : Nat) H1, i < n → Ex H H1 → EvT t ((wipe σ vs).set j (some (.int (i : Nat)))) H1 (f i)) (he : ∀ (i : Nat) H1, i < n → Ex H H1 → f i = true → Ev te ((wipe σ vs).set j (some (.int (i : Nat)))) H1 (v i))
    (q : ∀ p H2, H p = none → Ex H H2 → H2 p = some (.lst (((List.range n).filter f).map v)) → Q (.ref p) H2) : WLc (Itr 0 n) (gName j) t te vs σ H Q :=
  fun Dl hD => cw_step (J := Itr 0 n) (n := n) (f := f) (v := v) (t := t) (te := te) (fun k H2 e2 hk => hk) (fun H2 e2 => Nat.le_refl _) hz
    (fun k x H2 H3 hk e2 y => by
      obtain ⟨e3, rfl⟩ := y
      subst e3
      refine ⟨Ex.refl _, fun Dl hD hn => ⟨rfl, fun R hR => ?_⟩⟩
      show R _ _
      rw [show (0 : Int) + (k : Int) = (k : Int) from Int.zero_add _]
      exact hR _ (hw _) (ht k H hk (Ex.refl _)) (he k H hk (Ex.refl _))) q Dl hD
theorem wl_enum {a : Addr} {i j : Nat} {vs : List Nat} (xs : List V) (f : Nat → Bool) (v : Nat → V) (hx : SqL K H a xs) (hz : xs.length ≤ 40000) (hw : ∀ x y, wipe (((wipe σ vs).set i (some x)).set j (some y)) vs = wipe σ vs)
    (ht : ∀ (k : Nat) (x : V) H1, Ex H H1 → xs[k]? = some x → EvT t (((wipe σ vs).set i (some (.int (k : Nat)))).set j (some x)) H1 (f k)) (he : ∀ (k : Nat) (x : V) H1, Ex H H1 → xs[k]? = some x → f k = true → Ev te (((wipe σ vs).set i (some (.int (k : Nat)))).set j (some x)) H1 (v k))
    (q : ∀ p H2, H p = none → Ex H H2 → H2 p = some (.lst (given xs.length f v)) → Q (.ref p) H2) : WLc (Ite K a) (gTup K 2 (gCons (gName i) (gCons (gName j) gNil))) t te vs σ H Q :=
  fun Dl hD => cw_step (J := Ite K a) (n := xs.length) (f := f) (v := v) (t := t) (te := te) (fun k H2 e2 hk => ⟨xs, xs[k], ex_l e2 hx, by simp [hk]⟩) (fun H2 e2 => ⟨xs, ex_l e2 hx, Nat.le_refl _⟩) hz
    (fun k x H2 H3 hk e2 y => by
      obtain ⟨T, z, rfl, nT, rfl, hh⟩ := y
      have hz2 := hh xs (ex_l e2 hx)
      refine ⟨Ex.new nT, fun Dl hD hn => ⟨upd_ne (fun z => hn (by rw [z]; exact nT)), fun R hR => pair_tgt (hR _ (hw _ _) (ht k z H (Ex.refl _) hz2) (he k z H (Ex.refl _) hz2))⟩⟩) q Dl hD
theorem wl_zip {a b : Addr} {i j : Nat} {vs : List Nat} (xs ys : List V) (f : Nat → Bool) (v : Nat → V) (hx : SqL K H a xs) (hyy : SqL K H b ys) (hl : xs.length = ys.length) (hz : xs.length ≤ 40000) (hw : ∀ x y, wipe (((wipe σ vs).set i (some x)).set j (some y)) vs = wipe σ vs)
    (ht : ∀ (k : Nat) (x y : V) H1, Ex H H1 → xs[k]? = some x → ys[k]? = some y → EvT t (((wipe σ vs).set i (some x)).set j (some y)) H1 (f k)) (he : ∀ (k : Nat) (x y : V) H1, Ex H H1 → xs[k]? = some x → ys[k]? = some y → f k = true → Ev te (((wipe σ vs).set i (some x)).set j (some y)) H1 (v k))
    (q : ∀ p H2, H p = none → Ex H H2 → H2 p = some (.lst (given xs.length f v)) → Q (.ref p) H2) : WLc (Itz K a b) (gTup K 2 (gCons (gName i) (gCons (gName j) gNil))) t te vs σ H Q :=
  fun Dl hD => cw_step (J := Itz K a b) (n := xs.length) (f := f) (v := v) (t := t) (te := te) (fun k H2 e2 hk => ⟨xs, ys, xs[k], ys[k], ex_l e2 hx, ex_l e2 hyy, by simp [hk], by simp [hl ▸ hk]⟩) (fun H2 e2 => ⟨xs, ys, ex_l e2 hx, ex_l e2 hyy, .inl (Nat.le_refl _)⟩) hz
    (fun k x H2 H3 hk e2 y => by
      obtain ⟨T, z, u, rfl, nT, rfl, h1, h2⟩ := y
      have hz1 := h1 xs (ex_l e2 hx)
      have hz2 := h2 ys (ex_l e2 hyy)
      refine ⟨Ex.new nT, fun Dl hD hn => ⟨upd_ne (fun z => hn (by rw [z]; exact nT)), fun R hR => pair_tgt (hR _ (hw _ _) (ht k z u H (Ex.refl _) hz1 hz2) (he k z u H (Ex.refl _) hz1 hz2))⟩⟩) q Dl hD
/-- [a new list of ints for i in range(n)] -/
theorem wl_rowsF {j : Nat} {vs : List Nat} {n : Nat} (r : Nat → List Int) (hz : n ≤ 40000) (hw : ∀ x, wipe ((wipe σ vs).set j (some x)) vs = wipe σ vs)
    (he : ∀ k H1, k < n → Ex H H1 → EvL te ((wipe σ vs).set j (some (.int (k : Nat)))) H1 ((r k).map V.int))
    (q : ∀ p xs H2, H p = none → Ex H H2 → H2 p = some (.lst xs) → RowsF H H2 xs ((List.range n).map r) → Q (.ref p) H2) : WLc (Itr 0 n) (gName j) tYes te vs σ H Q :=
  fun Dl hD => rows_step (J := Itr 0 n) (r := r) (te := te) (fun k H2 e2 hk => hk) (fun H2 e2 => Nat.le_refl _) hz
    (fun k x H2 H3 hk e2 y => by
      obtain ⟨e3, rfl⟩ := y
      subst e3
      refine ⟨Ex.refl _, fun Dl hD hn => ⟨rfl, fun R hR => ?_⟩⟩
      show R _ _
      rw [show (0 : Int) + (k : Int) = (k : Int) from Int.zero_add _]
      exact hR _ (hw _) (he k H hk (Ex.refl _))) q Dl hD
theorem wl_rowsR {j : Nat} {vs : List Nat} {n : Nat} (r : Nat → List Int) (hz : n ≤ 40000) (hw : ∀ x, wipe ((wipe σ vs).set j (some x)) vs = wipe σ vs)
    (he : ∀ k H1, k < n → Ex H H1 → EvL te ((wipe σ vs).set j (some (.int (k : Nat)))) H1 ((r k).map V.int))
    (q : ∀ p xs H2, H p = none → Ex H H2 → H2 p = some (.lst xs) → Rows K H2 xs ((List.range n).map r) → Q (.ref p) H2) : WLc (Itr 0 n) (gName j) tYes te vs σ H Q :=
  wl_rowsF r hz hw he fun p xs H2 a b c d => q p xs H2 a b c d.rows
/-- [a new list of ints for x in xs] -/
theorem wl_rowsL {a : Addr} {j : Nat} {vs : List Nat} (xs : List V) (r : Nat → List Int) (hx : SqL K H a xs) (hz : xs.length ≤ 40000) (hw : ∀ x, wipe ((wipe σ vs).set j (some x)) vs = wipe σ vs)
    (he : ∀ k x H1, xs[k]? = some x → Ex H H1 → EvL te ((wipe σ vs).set j (some x)) H1 ((r k).map V.int))
    (q : ∀ p ys H2, H p = none → Ex H H2 → H2 p = some (.lst ys) → RowsF H H2 ys ((List.range xs.length).map r) → Q (.ref p) H2) : WLc (Itl K a) (gName j) tYes te vs σ H Q :=
  fun Dl hD => rows_step (J := Itl K a) (n := xs.length) (r := r) (te := te) (fun k H2 e2 hk => ⟨xs, xs[k], ex_l e2 hx, by simp [hk]⟩) (fun H2 e2 => ⟨xs, ex_l e2 hx, Nat.le_refl _⟩) hz
    (fun k x H2 H3 hk e2 y => by
      obtain ⟨e3, hy⟩ := y
      subst e3
      refine ⟨Ex.refl _, fun Dl hD hn => ⟨rfl, fun R hR => ?_⟩⟩
      exact hR _ (hw _) (he k x H (hy xs (ex_l e2 hx)) (Ex.refl _))) q Dl hD
/-- [.. for i, j in pairs if ..] -/
theorem wl_pairs {a : Addr} {i j : Nat} {vs : List Nat} (xs : List V) (u w : Nat → V) (f : Nat → Bool) (v : Nat → V) (hx : SqL K H a xs) (hz : xs.length ≤ 40000) (hw : ∀ x y, wipe (((wipe σ vs).set i (some x)).set j (some y)) vs = wipe σ vs)
    (hp : ∀ (k : Nat) x, xs[k]? = some x → ∃ T, x = .ref T ∧ SqT K H T [u k, w k])
    (ht : ∀ (k : Nat) H1, k < xs.length → Ex H H1 → EvT t (((wipe σ vs).set i (some (u k))).set j (some (w k))) H1 (f k)) (he : ∀ (k : Nat) H1, k < xs.length → Ex H H1 → f k = true → Ev te (((wipe σ vs).set i (some (u k))).set j (some (w k))) H1 (v k))
    (q : ∀ p H2, H p = none → Ex H H2 → H2 p = some (.lst (given xs.length f v)) → Q (.ref p) H2) : WLc (Itl K a) (gTup K 2 (gCons (gName i) (gCons (gName j) gNil))) t te vs σ H Q :=
  fun Dl hD => cw_step (J := Itl K a) (n := xs.length) (f := f) (v := v) (t := t) (te := te) (fun k H2 e2 hk => ⟨xs, xs[k], ex_l e2 hx, by simp [hk]⟩) (fun H2 e2 => ⟨xs, ex_l e2 hx, Nat.le_refl _⟩) hz
    (fun k x H2 H3 hk e2 y => by
      obtain ⟨e3, hy⟩ := y
      subst e3
      obtain ⟨T, rfl, hT⟩ := hp k x (hy xs (ex_l e2 hx))
      refine ⟨Ex.refl _, fun Dl hD hn => ⟨rfl, fun R hR => ?_⟩⟩
      exact ⟨T, _, rfl, Evl.ex_t e2 hT, rfl, u k, _, rfl, w k, [], rfl, rfl, hR _ (hw _ _) (ht k H hk (Ex.refl _)) (he k H hk (Ex.refl _))⟩) q Dl hD
/-- [a new list of ints for x in a tuple] -/
theorem wl_rowsT {a : Addr} {j : Nat} {vs : List Nat} (xs : List V) (r : Nat → List Int) (hx : SqT K H a xs) (hz : xs.length ≤ 40000) (hw : ∀ x, wipe ((wipe σ vs).set j (some x)) vs = wipe σ vs)
    (he : ∀ k x H1, xs[k]? = some x → Ex H H1 → EvL te ((wipe σ vs).set j (some x)) H1 ((r k).map V.int))
    (q : ∀ p ys H2, H p = none → Ex H H2 → H2 p = some (.lst ys) → RowsF H H2 ys ((List.range xs.length).map r) → Q (.ref p) H2) : WLc (Itt K a) (gName j) tYes te vs σ H Q :=
  fun Dl hD => rows_step (J := Itt K a) (n := xs.length) (r := r) (te := te) (fun k H2 e2 hk => ⟨xs, xs[k], Evl.ex_t e2 hx, by simp [hk]⟩) (fun H2 e2 => ⟨xs, Evl.ex_t e2 hx, Nat.le_refl _⟩) hz
    (fun k x H2 H3 hk e2 y => by
      obtain ⟨e3, hy⟩ := y
      subst e3
      refine ⟨Ex.refl _, fun Dl hD hn => ⟨rfl, fun R hR => ?_⟩⟩
      exact hR _ (hw _) (he k x H (hy xs (Evl.ex_t e2 hx)) (Ex.refl _))) q Dl hD
end
/-! ### == of data -/
def dI (ns : List Int) : PyData := .list (ns.map PyData.int)
def dS (ss : List Str) : PyData := .list (ss.map PyData.str)
def dR (rows : List (List Int)) : PyData := .list (rows.map dI)
theorem dpAll_ints {K : PySem.W.Frag} {H : Hp} : ∀ ns : List Int, DpAll K H (ns.map V.int) (ns.map PyData.int)
  | [] => .nil
  | n :: r => .cons (.int n) (dpAll_ints r)
theorem dpAll_strs {K : PySem.W.Frag} {H : Hp} : ∀ ns : List Str, DpAll K H (ns.map V.str) (ns.map PyData.str)
  | [] => .nil
  | n :: r => .cons (.str n) (dpAll_strs r)
theorem dp_ints {K : PySem.W.Frag} {H : Hp} {a : Addr} {ns : List Int} (h : SqL K H a (ns.map V.int)) : Dp K H (.ref a) (dI ns) := .lst h (dpAll_ints ns)
theorem dp_strs {K : PySem.W.Frag} {H : Hp} {a : Addr} {ns : List Str} (h : SqL K H a (ns.map V.str)) : Dp K H (.ref a) (dS ns) := .lst h (dpAll_strs ns)
theorem dpAll_rows {K : PySem.W.Frag} {H : Hp} : ∀ {xs : List V} {rows : List (List Int)}, Rows K H xs rows → DpAll K H xs (rows.map dI)
  | _, _, .nil => .nil
  | _, _, .cons ⟨_, e, q⟩ t => by
    subst e
    exact .cons (dp_ints q) (dpAll_rows t)
theorem dp_rows {K : PySem.W.Frag} {H : Hp} {a : Addr} {xs : List V} {rows : List (List Int)} (h : SqL K H a xs) (r : Rows K H xs rows) : Dp K H (.ref a) (dR rows) := .lst h (dpAll_rows r)
theorem eqvAll_ints : ∀ ns ms : List Int, PyData.eqvAll (ns.map PyData.int) (ms.map PyData.int) = decide (ns = ms)
  | [], [] => by simp [PyData.eqvAll]
  | [], _ :: _ => by simp [PyData.eqvAll]
  | _ :: _, [] => by simp [PyData.eqvAll]
  | a :: r, b :: t => by
    simp only [List.map_cons, PyData.eqvAll, PyData.eqv, eqvAll_ints r t]
    by_cases h : a = b <;> by_cases h' : r = t <;> simp [h, h']
theorem eqvAll_strs : ∀ ns ms : List Str, PyData.eqvAll (ns.map PyData.str) (ms.map PyData.str) = decide (ns = ms)
  | [], [] => by simp [PyData.eqvAll]
  | [], _ :: _ => by simp [PyData.eqvAll]
  | _ :: _, [] => by simp [PyData.eqvAll]
  | a :: r, b :: t => by
    simp only [List.map_cons, PyData.eqvAll, PyData.eqv, eqvAll_strs r t]
    by_cases h : a = b <;> by_cases h' : r = t <;> simp [h, h']
theorem eqv_ints (ns ms : List Int) : PyData.eqv (dI ns) (dI ms) = decide (ns = ms) := by
  unfold dI
  rw [PyData.eqv]
  exact eqvAll_ints ns ms
theorem eqv_strs (ns ms : List Str) : PyData.eqv (dS ns) (dS ms) = decide (ns = ms) := by
  unfold dS
  rw [PyData.eqv]
  exact eqvAll_strs ns ms
theorem eqvAll_rows : ∀ ns ms : List (List Int), PyData.eqvAll (ns.map dI) (ms.map dI) = decide (ns = ms)
  | [], [] => by simp [PyData.eqvAll]
  | [], _ :: _ => by simp [PyData.eqvAll]
  | _ :: _, [] => by simp [PyData.eqvAll]
  | a :: r, b :: t => by
    simp only [List.map_cons, PyData.eqvAll, eqv_ints, eqvAll_rows r t]
    by_cases h : a = b <;> by_cases h' : r = t <;> simp [h, h']
theorem eqv_rows (ns ms : List (List Int)) : PyData.eqv (dR ns) (dR ms) = decide (ns = ms) := by
  unfold dR
  rw [PyData.eqv]
  exact eqvAll_rows ns ms
theorem canLay_ints : ∀ ns : List Int, PyData.canLayAll0 (ns.map PyData.int) = true
  | [] => by simp [PyData.canLayAll0]
  | n :: r => by simp [PyData.canLayAll0, PyData.canLay0, canLay_ints r]
theorem canLay_strs : ∀ ns : List Str, ns.all PyData.strOk = true → PyData.canLayAll0 (ns.map PyData.str) = true
  | [], _ => by simp [PyData.canLayAll0]
  | n :: r, h => by
    rw [List.all_cons, Bool.and_eq_true] at h
    simp [PyData.canLayAll0, PyData.canLay0, h.1, canLay_strs r h.2]
theorem canLay_rows : ∀ ns : List (List Int), PyData.canLayAll0 (ns.map dI) = true
  | [] => by simp [PyData.canLayAll0]
  | n :: r => by simp [PyData.canLayAll0, dI, PyData.canLay0, canLay_ints, canLay_rows r]
theorem depth_ints : ∀ ns : List Int, PyData.depthAll (ns.map PyData.int) ≤ 1
  | [] => by simp [PyData.depthAll]
  | n :: r => by
    have := depth_ints r
    simp [PyData.depthAll, PyData.depth]
    omega
theorem depth_strs : ∀ ns : List Str, PyData.depthAll (ns.map PyData.str) ≤ 1
  | [] => by simp [PyData.depthAll]
  | n :: r => by
    have := depth_strs r
    simp [PyData.depthAll, PyData.depth]
    omega
theorem depth_dI (ns : List Int) : (dI ns).depth ≤ 2 := by
  have := depth_ints ns
  unfold dI
  simp [PyData.depth]
  omega
theorem depth_rows : ∀ ns : List (List Int), PyData.depthAll (ns.map dI) ≤ 2
  | [] => by simp [PyData.depthAll]
  | n :: r => by
    have h1 := depth_rows r
    have h2 := depth_dI n
    simp [PyData.depthAll]
    omega
theorem sh_ints (ns : List Int) : SeqAt.shaped (dI ns) = true := by
  have := depth_dI ns
  unfold SeqAt.shaped
  rw [Bool.and_eq_true, decide_eq_true_eq]
  exact ⟨by unfold dI; simp [PyData.canLay0, canLay_ints], by omega⟩
theorem sh_strs {ns : List Str} (h : ns.all PyData.strOk = true) : SeqAt.shaped (dS ns) = true := by
  have := depth_strs ns
  unfold SeqAt.shaped dS
  rw [Bool.and_eq_true, decide_eq_true_eq]
  exact ⟨by simp [PyData.canLay0, canLay_strs ns h], by simp [PyData.depth]; omega⟩
theorem sh_rows (ns : List (List Int)) : SeqAt.shaped (dR ns) = true := by
  have := depth_rows ns
  unfold SeqAt.shaped dR
  rw [Bool.and_eq_true, decide_eq_true_eq]
  exact ⟨by simp [PyData.canLay0, canLay_rows], by simp [PyData.depth]; omega⟩
/-- two lists of ints -/
theorem ne_ints {K : PySem.W.Frag} {H : Hp} {a b : Addr} {ns ms : List Int} {Q : VK} (ha : SqL K H a (ns.map V.int)) (hb : SqL K H b (ms.map V.int)) (q : Q (.bl (!decide (ns = ms))) H) : rNeD K (.ref a) (.ref b) H Q :=
  ⟨dI ns, dI ms, dp_ints ha, dp_ints hb, sh_ints ns, sh_ints ms, by rw [eqv_ints]; exact q⟩
theorem eq_ints {K : PySem.W.Frag} {H : Hp} {a b : Addr} {ns ms : List Int} {Q : VK} (ha : SqL K H a (ns.map V.int)) (hb : SqL K H b (ms.map V.int)) (q : Q (.bl (decide (ns = ms))) H) : rEqD K (.ref a) (.ref b) H Q :=
  ⟨dI ns, dI ms, dp_ints ha, dp_ints hb, sh_ints ns, sh_ints ms, by rw [eqv_ints]; exact q⟩
theorem ne_strs {K : PySem.W.Frag} {H : Hp} {a b : Addr} {ns ms : List Str} {Q : VK} (ok1 : ns.all PyData.strOk = true) (ok2 : ms.all PyData.strOk = true) (ha : SqL K H a (ns.map V.str)) (hb : SqL K H b (ms.map V.str)) (q : Q (.bl (!decide (ns = ms))) H) : rNeD K (.ref a) (.ref b) H Q :=
  ⟨dS ns, dS ms, dp_strs ha, dp_strs hb, sh_strs ok1, sh_strs ok2, by rw [eqv_strs]; exact q⟩
theorem eq_strs {K : PySem.W.Frag} {H : Hp} {a b : Addr} {ns ms : List Str} {Q : VK} (ok1 : ns.all PyData.strOk = true) (ok2 : ms.all PyData.strOk = true) (ha : SqL K H a (ns.map V.str)) (hb : SqL K H b (ms.map V.str)) (q : Q (.bl (decide (ns = ms))) H) : rEqD K (.ref a) (.ref b) H Q :=
  ⟨dS ns, dS ms, dp_strs ha, dp_strs hb, sh_strs ok1, sh_strs ok2, by rw [eqv_strs]; exact q⟩
theorem ne_rows {K : PySem.W.Frag} {H : Hp} {a b : Addr} {xs ys : List V} {ns ms : List (List Int)} {Q : VK} (ha : SqL K H a xs) (ra : Rows K H xs ns) (hb : SqL K H b ys) (rb : Rows K H ys ms) (q : Q (.bl (!decide (ns = ms))) H) : rNeD K (.ref a) (.ref b) H Q :=
  ⟨dR ns, dR ms, dp_rows ha ra, dp_rows hb rb, sh_rows ns, sh_rows ms, by rw [eqv_rows]; exact q⟩
/-- two tuples of lists of ints -/
def dTR (rows : List (List Int)) : PyData := .tuple (rows.map dI)
theorem dp_trows {K : PySem.W.Frag} {H : Hp} {a : Addr} {xs : List V} {rows : List (List Int)} (h : SqT K H a xs) (r : Rows K H xs rows) : Dp K H (.ref a) (dTR rows) := .tup h (dpAll_rows r)
theorem eqv_trows (ns ms : List (List Int)) : PyData.eqv (dTR ns) (dTR ms) = decide (ns = ms) := by
  unfold dTR
  rw [PyData.eqv]
  exact eqvAll_rows ns ms
theorem sh_trows (ns : List (List Int)) : SeqAt.shaped (dTR ns) = true := by
  have := depth_rows ns
  unfold SeqAt.shaped dTR
  rw [Bool.and_eq_true, decide_eq_true_eq]
  exact ⟨by simp [PyData.canLay0, canLay_rows], by simp [PyData.depth]; omega⟩
theorem ne_trows {K : PySem.W.Frag} {H : Hp} {a b : Addr} {xs ys : List V} {ns ms : List (List Int)} {Q : VK} (ha : SqT K H a xs) (ra : Rows K H xs ns) (hb : SqT K H b ys) (rb : Rows K H ys ms) (q : Q (.bl (!decide (ns = ms))) H) : rNeD K (.ref a) (.ref b) H Q :=
  ⟨dTR ns, dTR ms, dp_trows ha ra, dp_trows hb rb, sh_trows ns, sh_trows ms, by rw [eqv_trows]; exact q⟩
theorem rows2 {K : PySem.W.Frag} {H : Hp} {a b : Addr} {ns ms : List Int} (ha : SqL K H a (ns.map V.int)) (hb : SqL K H b (ms.map V.int)) : Rows K H [.ref a, .ref b] [ns, ms] := .cons ⟨a, rfl, ha⟩ (.cons ⟨b, rfl, hb⟩ .nil)
/-! ### n in a list of ints -/
theorem inV_int (n : Int) (ns : List Int) : inV (.int n) (ns.map V.int) = decide (n ∈ ns) := by
  unfold inV
  rw [List.any_map]
  by_cases h : n ∈ ns
  · rw [decide_eq_true h, List.any_eq_true]
    exact ⟨n, h, by simp [eqV]⟩
  · rw [decide_eq_false h, List.any_eq_false]
    intro m hm
    have : m ≠ n := fun z => h (z ▸ hm)
    simp [eqV, this]
theorem flat_ints (ns : List Int) : (ns.map V.int).all flatV = true := by
  rw [List.all_map, List.all_eq_true]
  intro x _
  rfl
theorem in_ints {K : PySem.W.Frag} {H : Hp} {a : Addr} {n : Int} {ns : List Int} {Q : VK} (h : SqL K H a (ns.map V.int)) (q : Q (.bl (decide (n ∈ ns))) H) : rIn K false (.int n) (.ref a) H Q :=
  ⟨a, _, rfl, .inl h, rfl, flat_ints ns, by rw [inV_int]; exact q⟩
theorem nin_ints {K : PySem.W.Frag} {H : Hp} {a : Addr} {n : Int} {ns : List Int} {Q : VK} (h : SqL K H a (ns.map V.int)) (q : Q (.bl (!decide (n ∈ ns))) H) : rIn K true (.int n) (.ref a) H Q :=
  ⟨a, _, rfl, .inl h, rfl, flat_ints ns, by rw [inV_int]; exact q⟩
/-- a whole number within bounds -/
def amg (x : V) (lo hi : Int) : Bool := match x with
  | .int i => decide (lo ≤ i) && decide (i ≤ hi)
  | _ => false
theorem amg_nat {s : Nat} {lo hi : Int} (h : lo ≤ s) (h' : (s : Int) ≤ hi) : amg (.int s) lo hi = true := by
  show (decide (lo ≤ (s : Int)) && decide ((s : Int) ≤ hi)) = true
  rw [decide_eq_true h, decide_eq_true h'] <;> rfl
/-- a bit of a set, as the program asks for it -/
theorem bit_ask (s i : Nat) : Builtin.bitAnd ((s : Int) / ((2 ^ i : Nat) : Int)) 1 = ((s / 2 ^ i % 2 : Nat) : Int) := by
  rw [← Int.natCast_ediv, show (1 : Int) = ((1 : Nat) : Int) from rfl, band_nn, Nat.and_one_is_mod]
theorem bit_dec (s i : Nat) : decide (((s / 2 ^ i % 2 : Nat) : Int) = 1) = s.testBit i := by
  rw [Nat.testBit_eq_decide_div_mod_eq]
  by_cases h : s / 2 ^ i % 2 = 1
  · rw [decide_eq_true h, decide_eq_true (by omega)]
  · rw [decide_eq_false h, decide_eq_false (by omega)]
end SS

/-! the mirror: what the program's defs compute, as plain functions -/
namespace SS
open PySem PySem.Spec PyProof.Rows L2 Evl
/-! ### places of a list of ints -/
theorem at_int {ns : List Int} {i : Nat} (h : i < ns.length) : atI (ns.map V.int) (i : Int) = some (.int (ns.getD i 0)) := atI_nat (by
  rw [List.getElem?_map, List.getElem?_eq_getElem h, List.getD_eq_getElem?_getD, List.getElem?_eq_getElem h] <;> rfl)
theorem ix_int {ns : List Int} {i : Nat} (h : i < ns.length) : ixN (ns.map V.int).length (i : Int) = some i := Evl.ixN_nat (by rw [List.length_map]; exact h)
theorem set_int {ns : List Int} {i : Nat} {z : Int} : (ns.map V.int).set i (.int z) = (ns.set i z).map V.int := List.map_set.symm
def at0 (l : List Int) (i : Nat) : Int := l.getD i 0
/-- all below 2 ^ k -/
def Bd (k : Nat) (l : List Int) : Prop := ∀ x ∈ l, x.natAbs < 2 ^ k
/-- place by place -/
def addM (a b : List Int) : List Int := (List.range a.length).map fun i => at0 a i + at0 b i
def mulM (a b : List Int) : List Int := (List.range a.length).map fun i => at0 a i * at0 b i
theorem given_all {n : Nat} {v : Nat → V} : given n (fun _ => true) v = (List.range n).map v := by
  unfold given
  rw [List.filter_eq_self.mpr fun _ _ => rfl]
theorem Bd.at {k : Nat} {l : List Int} (h : Bd k l) (i : Nat) : (at0 l i).natAbs < 2 ^ k := by
  unfold at0
  rw [List.getD_eq_getElem?_getD]
  cases e : l[i]? with
  | none => exact Nat.two_pow_pos k
  | some z => exact h z (List.mem_of_getElem? e)
/-- two tables -/
def Two (K : PySem.W.Frag) (H : Hp) (x y : V) (good : Nat → List Int → List Int → Prop) (unlike bad : Prop) : Prop :=
  (∃ n ns ms, IsTab K H x n ns ∧ IsTab K H y n ms ∧ good n ns ms) ∨ (∃ n m ns ms, IsTab K H x n ns ∧ IsTab K H y m ms ∧ n ≠ m ∧ unlike) ∨ ((NoTab K H x ∨ (∃ n ns, IsTab K H x n ns) ∧ NoTab K H y) ∧ bad)
theorem Two.go {K : PySem.W.Frag} {H H' : Hp} {x y : V} {g g' : Nat → List Int → List Int → Prop} {u u' b b' : Prop} (h : Two K H x y g u b) (e : Ex H H') (hg : ∀ n ns ms, IsTab K H' x n ns → IsTab K H' y n ms → g n ns ms → g' n ns ms) (hu : u → u') (hb : b → b') : Two K H' x y g' u' b' := by
  rcases h with ⟨n, ns, ms, h1, h2, h3⟩ | ⟨n, m, ns, ms, h1, h2, h3, h4⟩ | ⟨h | ⟨⟨n, ns, h1⟩, h2⟩, h3⟩
  · exact .inl ⟨n, ns, ms, h1.mono e, h2.mono e, hg n ns ms (h1.mono e) (h2.mono e) h3⟩
  · exact .inr (.inl ⟨n, m, ns, ms, h1.mono e, h2.mono e, h3, hu h4⟩)
  · exact .inr (.inr ⟨.inl (h.mono e), hb h3⟩)
  · exact .inr (.inr ⟨.inr ⟨⟨n, ns, h1.mono e⟩, h2.mono e⟩, hb h3⟩)
/-! ### spread -/
def spStep (bit : Nat) (b : Int) (up : Bool) (l : List Int) (one : Nat) : List Int :=
  if one &&& bit = 0 then (if up = true then l.set (one ||| bit) (l.getD (one ||| bit) 0 + b * l.getD one 0) else l.set one (l.getD one 0 + b * l.getD (one ||| bit) 0)) else l
def spName (len : Nat) (b : Int) (up : Bool) (l : List Int) (name : Nat) : List Int := (List.range len).foldl (spStep (2 ^ name) b up) l
def spreadM (n : Nat) (b : Int) (up : Bool) (l : List Int) : List Int := (List.range n).foldl (spName l.length b up) l
theorem foldl_range_succ {α : Type} (f : α → Nat → α) (a : α) (n : Nat) : (List.range (n + 1)).foldl f a = f ((List.range n).foldl f a) n := by
  rw [List.range_succ, List.foldl_append] <;> rfl
theorem foldl_length {f : List Int → Nat → List Int} (hf : ∀ l i, (f l i).length = l.length) : ∀ (is : List Nat) (l : List Int), (is.foldl f l).length = l.length
  | [], l => rfl
  | i :: r, l => by rw [List.foldl_cons, foldl_length hf r, hf]
theorem spStep_length (bit : Nat) (b : Int) (up : Bool) (l : List Int) (one : Nat) : (spStep bit b up l one).length = l.length := by
  unfold spStep
  split
  · split <;> rw [List.length_set]
  · rfl
theorem spName_length (len : Nat) (b : Int) (up : Bool) (l : List Int) (name : Nat) : (spName len b up l name).length = l.length := foldl_length (spStep_length _ _ _) _ _
theorem spreadM_length (n : Nat) (b : Int) (up : Bool) (l : List Int) : (spreadM n b up l).length = l.length := foldl_length (spName_length _ _ _) _ _
/-! ### signed -/
def sgStep (bit : Nat) (l : List Int) (one : Nat) : List Int :=
  if one &&& bit = 0 then (l.set one (l.getD one 0 + l.getD (one ||| bit) 0)).set (one ||| bit) (l.getD one 0 - l.getD (one ||| bit) 0) else l
def sgName (len : Nat) (l : List Int) (name : Nat) : List Int := (List.range len).foldl (sgStep (2 ^ name)) l
def signedM (n : Nat) (l : List Int) : List Int := (List.range n).foldl (sgName l.length) l
theorem sgStep_length (bit : Nat) (l : List Int) (one : Nat) : (sgStep bit l one).length = l.length := by
  unfold sgStep
  split
  · rw [List.length_set, List.length_set]
  · rfl
theorem sgName_length (len : Nat) (l : List Int) (name : Nat) : (sgName len l name).length = l.length := foldl_length (sgStep_length _) _ _
theorem signedM_length (n : Nat) (l : List Int) : (signedM n l).length = l.length := foldl_length (sgName_length _) _ _
/-! ### the laws' own helpers -/
def cellM (ns : List Int) (k : Nat) : Int := ns.getD k 0 % 10 ^ 60
theorem cut1 (xs : List V) (k : Nat) : cutV xs (some (k : Int)) (some ((k : Int) + 1)) = (xs.drop k).take 1 := by
  unfold cutV
  rw [HT.sIx_nat, show ((k : Int) + 1) = ((k + 1 : Nat) : Int) by omega, HT.sIx_nat]
  by_cases h : k < xs.length
  · rw [show min k xs.length = k by omega, show min (k + 1) xs.length - k = 1 by omega]
  · rw [show min (k + 1) xs.length - min k xs.length = 0 by omega, List.take_zero, List.drop_eq_nil_of_le (by omega), List.take_nil]
theorem cell_at (ns : List Int) (k : Nat) : atI (((ns.map V.int).drop k).take 1 ++ [V.int 0]) 0 = some (.int (ns.getD k 0)) := by
  refine atI_nat (j := 0) ?_
  by_cases h : k < ns.length
  · rw [List.getD_eq_getElem?_getD, List.getElem?_eq_getElem h, List.drop_eq_getElem_cons (by rw [List.length_map]; exact h)]
    simp
  · rw [List.getD_eq_getElem?_getD, List.getElem?_eq_none (Nat.le_of_not_lt h), List.drop_eq_nil_of_le (by rw [List.length_map]; exact Nat.le_of_not_lt h)]
    rfl
def mixedM (ns : List Int) (k : Nat) : Int :=
  ((cellM ns (k % max 1 ns.length) + 7919 * k * k + 104729) * (cellM ns (k % max 1 ns.length) + 7919 * k * k + 104729) % 2147483647 * (48271 + 2 * k) % 998244353) / 11
theorem cellM_nn (ns : List Int) (k : Nat) : 0 ≤ cellM ns k := Int.emod_nonneg _ (by decide)
theorem cellM_lt (ns : List Int) (k : Nat) : cellM ns k < 10 ^ 60 := Int.emod_lt_of_pos _ (by decide)
theorem mixedM_nn (ns : List Int) (k : Nat) : 0 ≤ mixedM ns k := Int.ediv_nonneg (Int.emod_nonneg _ (by decide)) (by decide)
theorem mixedM_lt (ns : List Int) (k : Nat) : mixedM ns k < 90749487 := by
  unfold mixedM
  have h := Int.emod_lt_of_pos ((cellM ns (k % max 1 ns.length) + 7919 * k * k + 104729) * (cellM ns (k % max 1 ns.length) + 7919 * k * k + 104729) % 2147483647 * (48271 + 2 * k)) (show (0 : Int) < 998244353 by decide)
  omega
/-- the names of a set -/
def bitsN (m : Nat) : List Nat := (List.range 10).filter fun i => m.testBit i
def bitsM (m : Nat) : List Int := (bitsN m).map (fun i : Nat => (i : Int))
theorem bits_below {m : Nat} {n : Nat} (hn : n ≤ 10) (h : m / 2 ^ n = 0) : ((List.range n).filter fun i => m.testBit i) = bitsN m := by
  unfold bitsN
  have hlt : m < 2 ^ n := by
    rcases Nat.div_eq_zero_iff.mp h with h | h
    · exact absurd h (Nat.ne_of_gt (Nat.two_pow_pos n))
    · exact h
  obtain ⟨k, hk⟩ : ∃ k, 10 = n + k := ⟨10 - n, by omega⟩
  rw [hk, List.range_add, List.filter_append]
  have e : ((List.range k).map (n + ·)).filter (fun i => m.testBit i) = [] := by
    rw [List.filter_eq_nil_iff]
    intro i hi
    obtain ⟨j, _, rfl⟩ := List.mem_map.mp hi
    rw [Nat.testBit_lt_two_pow (Nat.lt_of_lt_of_le hlt (Nat.pow_le_pow_right (by decide) (Nat.le_add_right n j)))]
    decide
  rw [e, List.append_nil]
theorem bits_step (m n : Nat) : ((List.range (n + 1)).filter fun i => m.testBit i) = ((List.range n).filter fun i => m.testBit i) ++ (if m / 2 ^ n % 2 = 1 then [n] else []) := by
  rw [List.range_succ, List.filter_append]
  congr 1
  rw [List.filter_cons, List.filter_nil]
  have e : m.testBit n = decide (m / 2 ^ n % 2 = 1) := by
    rw [Nat.testBit_eq_decide_div_mod_eq]
  rw [e]
  by_cases h : m / 2 ^ n % 2 = 1
  · simp [h]
  · simp [h]
theorem rep0 (n : Nat) : (List.replicate n [V.int 0]).flatten = (List.replicate n (0 : Int)).map V.int := by
  induction n with
  | zero => rfl
  | succ n ih => rw [List.replicate_succ, List.flatten_cons, ih, List.replicate_succ] <;> rfl
theorem cut_to (xs : List V) (k : Nat) : cutV xs none (some (k : Int)) = xs.take k := by
  unfold cutV
  rw [HT.sIx_none, HT.sIx_nat, List.drop_zero, Nat.sub_zero]
  rcases Nat.le_total k xs.length with h | h
  · rw [Nat.min_eq_left h]
  · rw [Nat.min_eq_right h, List.take_of_length_le (Nat.le_refl _), List.take_of_length_le h]
theorem cut_len (xs : List V) (i j : Option Int) : (cutV xs i j).length ≤ xs.length := by
  unfold cutV
  rw [List.length_take, List.length_drop]
  omega
theorem cut_mem {xs : List V} {i j : Option Int} {y : V} (h : y ∈ cutV xs i j) : y ∈ xs := by
  unfold cutV at h
  exact List.mem_of_mem_drop (List.mem_of_mem_take h)
theorem len_rep (k : Nat) (xs : List V) : (List.replicate k xs).flatten.length = k * xs.length := by
  rw [List.length_flatten, List.map_replicate, List.sum_replicate_nat]
theorem all_rep (k : Nat) {xs : List V} (h : xs.all isI = true) : (List.replicate k xs).flatten.all isI = true := by
  rw [List.all_eq_true]
  intro y hy
  obtain ⟨l, hl, hy⟩ := List.mem_flatten.mp hy
  rw [(List.mem_replicate.mp hl).2] at hy
  exact List.all_eq_true.mp h y hy
theorem el_ints {K : PySem.W.Frag} {H : Hp} {xs : List V} (h : xs.all isI = true) : ∀ y ∈ xs, El K H y := fun y hy => by
  have h1 := List.all_eq_true.mp h y hy
  cases y with
  | int i => exact .int i
  | _ => cases h1
theorem noT_len {K : PySem.W.Frag} {H : Hp} {a : Addr} {xs : List V} (hx : SqL K H a xs) (h : xs.all isI = true) (hz : xs.length ≤ 40000) (hl : ∀ n, n ≤ 10 → xs.length ≠ 2 ^ n) : NoTab K H (.ref a) := .inr ⟨a, xs, rfl, hx, hz, el_ints h, .inr ⟨h, hl⟩⟩
theorem noT_item {K : PySem.W.Frag} {H : Hp} {a : Addr} {xs : List V} (hx : SqL K H a xs) (hz : xs.length ≤ 40000) (he : ∀ y ∈ xs, El K H y) (h : xs.all isI = false) : NoTab K H (.ref a) := .inr ⟨a, xs, rfl, hx, hz, he, .inl h⟩
theorem five_pow : ∀ n, n ≤ 10 → ∀ k, k ≤ 10 → 5 * 2 ^ n ≠ 2 ^ k := by decide
theorem three_pow : ∀ n, n ≤ 10 → ∀ k, k ≤ 10 → 3 * 2 ^ n ≠ 2 ^ k := by decide
/-- the drawn number that goes into a table -/
theorem more_at {m : Int} {z : Nat} (h0 : 0 ≤ m) (h1 : m < 10 ^ 60) (hz : z < 5) : ∃ y : Int, atI [V.int m, .int (0 - m), .int (m % 9), .int 1, .int (0 - m % 7)] (z : Int) = some (.int y) ∧ y.natAbs ≤ 10 ^ 60 := by
  have h9 := Int.emod_nonneg m (show (9 : Int) ≠ 0 by decide)
  have h9' := Int.emod_lt_of_pos m (show (0 : Int) < 9 by decide)
  have h7 := Int.emod_nonneg m (show (7 : Int) ≠ 0 by decide)
  have h7' := Int.emod_lt_of_pos m (show (0 : Int) < 7 by decide)
  match z, hz with
  | 0, _ => exact ⟨_, atI_nat rfl, by omega⟩
  | 1, _ => exact ⟨_, atI_nat (j := 1) rfl, by omega⟩
  | 2, _ => exact ⟨_, atI_nat (j := 2) rfl, by omega⟩
  | 3, _ => exact ⟨_, atI_nat (j := 3) rfl, by omega⟩
  | 4, _ => exact ⟨_, atI_nat (j := 4) rfl, by omega⟩
def moreM (m : Int) : Nat → Int
  | 0 => m
  | 1 => 0 - m
  | 2 => m % 9
  | 3 => 1
  | _ => 0 - m % 7
theorem more_atM {m : Int} {z : Nat} (h0 : 0 ≤ m) (h1 : m < 10 ^ 60) (hz : z < 5) : atI [V.int m, .int (0 - m), .int (m % 9), .int 1, .int (0 - m % 7)] (z : Int) = some (.int (moreM m z)) ∧ (moreM m z).natAbs ≤ 10 ^ 60 := by
  have h9 := Int.emod_nonneg m (show (9 : Int) ≠ 0 by decide)
  have h9' := Int.emod_lt_of_pos m (show (0 : Int) < 9 by decide)
  have h7 := Int.emod_nonneg m (show (7 : Int) ≠ 0 by decide)
  have h7' := Int.emod_lt_of_pos m (show (0 : Int) < 7 by decide)
  match z, hz with
  | 0, _ => exact ⟨atI_nat rfl, by simp only [moreM]; omega⟩
  | 1, _ => exact ⟨atI_nat (j := 1) rfl, by simp only [moreM]; omega⟩
  | 2, _ => exact ⟨atI_nat (j := 2) rfl, by simp only [moreM]; omega⟩
  | 3, _ => exact ⟨atI_nat (j := 3) rfl, by simp only [moreM]; omega⟩
  | 4, _ => exact ⟨atI_nat (j := 4) rfl, by simp only [moreM]; omega⟩
/-- the tables of the laws -/
def numM (ns : List Int) (turn k : Nat) : Int := ns.getD k 0 % 10 ^ 60 * (48271 + 2 * (turn : Int) + (k : Int)) % 10 ^ 60
def spotM (N : Nat) (ns : List Int) (turn k : Nat) : Nat := ((numM ns turn k / 485 + (k : Int) * (2 * (turn : Int) + 1)) % (N : Int)).toNat
def tabStep (N : Nat) (ns : List Int) (turn : Nat) (L : List Int) (k : Nat) : List Int :=
  L.set (spotM N ns turn k) (L.getD (spotM N ns turn k) 0 + moreM (numM ns turn k) ((numM ns turn k / 97 + (k : Int) + (turn : Int)) % 5).toNat)
def tableM (ns : List Int) (n turn : Nat) : List Int := (List.range ns.length).foldl (tabStep (2 ^ n) ns turn) (List.replicate (2 ^ n) 0)
theorem tabStep_length (N : Nat) (ns : List Int) (turn : Nat) (L : List Int) (k : Nat) : (tabStep N ns turn L k).length = L.length := by
  unfold tabStep
  rw [List.length_set]
theorem tableM_length (ns : List Int) (n turn : Nat) : (tableM ns n turn).length = 2 ^ n := by
  unfold tableM
  rw [foldl_length (tabStep_length _ _ _), List.length_replicate]
theorem numM_nn (ns : List Int) (turn k : Nat) : 0 ≤ numM ns turn k := Int.emod_nonneg _ (by decide)
theorem numM_lt (ns : List Int) (turn k : Nat) : numM ns turn k < 10 ^ 60 := Int.emod_lt_of_pos _ (by decide)
theorem five_lt (z : Int) : (z % 5).toNat < 5 ∧ (((z % 5).toNat : Nat) : Int) = z % 5 := by omega
theorem tab_step_bd {N : Nat} {ns L : List Int} {turn k : Nat} (h : ∀ x ∈ L, x.natAbs ≤ k * 10 ^ 60) : ∀ x ∈ tabStep N ns turn L k, x.natAbs ≤ (k + 1) * 10 ^ 60 := fun x hx => by
  have key : ∀ (u B : Nat), u ≤ k * B → u ≤ (k + 1) * B := fun u B h => Nat.le_trans h (Nat.mul_le_mul_right _ (Nat.le_succ k))
  have hyb := (more_atM (numM_nn ns turn k) (numM_lt ns turn k) (five_lt (numM ns turn k / 97 + (k : Int) + (turn : Int))).1).2
  unfold tabStep at hx
  rcases List.mem_or_eq_of_mem_set hx with hx | hx
  · exact key _ _ (h x hx)
  · have h4 : (L.getD (spotM N ns turn k) 0).natAbs ≤ k * 10 ^ 60 := by
      rw [List.getD_eq_getElem?_getD]
      cases e : L[spotM N ns turn k]? with
      | none => exact Nat.zero_le _
      | some z => exact h z (List.mem_of_getElem? e)
    rw [hx, Nat.succ_mul]
    exact Nat.le_trans (Int.natAbs_add_le _ _) (Nat.add_le_add h4 hyb)
theorem tableM_bd {ns : List Int} (h : ns.length ≤ 63) (n turn : Nat) : Bd 212 (tableM ns n turn) := fun x hx => by
  have key : ∀ i, ∀ x ∈ (List.range i).foldl (tabStep (2 ^ n) ns turn) (List.replicate (2 ^ n) 0), x.natAbs ≤ i * 10 ^ 60 := by
    intro i
    induction i with
    | zero =>
      intro x hx
      rw [(List.mem_replicate.mp hx).2]
      exact Nat.zero_le _
    | succ i ih =>
      rw [foldl_range_succ]
      exact tab_step_bd ih
  have h1 := key _ x hx
  have h2 : ns.length * 10 ^ 60 ≤ 63 * 10 ^ 60 := Nat.mul_le_mul_right _ h
  have h3 : 63 * 10 ^ 60 < 2 ^ 212 := by decide
  omega
/-! ### law k03: the sums set by set -/
def bothM (s o : Nat) : Nat := ((bitsM s).filter fun b => decide (b ∈ bitsM o)).length
def weiM (way : Nat) (s o : Nat) : Int :=
  if way = 0 then (if bothM s o = (bitsM o).length then 1 else 0) else if way = 1 then (if bothM s o = (bitsM s).length then 1 else 0) else 1 - 2 * ((bothM s o % 2 : Nat) : Int)
def totM (way : Nat) (t : List Int) (s n : Nat) : Int := (List.range n).foldl (fun tot o => tot + t.getD o 0 * weiM way s o) 0
def dueM (way : Nat) (t : List Int) : List Int := (List.range t.length).map fun s => totM way t s t.length
theorem bitsM_len (m : Nat) : (bitsM m).length ≤ 10 := by
  unfold bitsM bitsN
  rw [List.length_map]
  have := List.length_filter_le (fun i => m.testBit i) (List.range 10)
  rw [List.length_range] at this
  exact this
end SS

/-! the mirror of products and ranks -/
namespace SS
open PySem PySem.Spec PyProof.Rows L2 Evl
def joinedM (n : Nat) (a b : List Int) : List Int := spreadM n (-1) true (mulM (spreadM n 1 true a) (spreadM n 1 true b))
def metM (n : Nat) (a b : List Int) : List Int := spreadM n (-1) false (mulM (spreadM n 1 false a) (spreadM n 1 false b))
def fromSgM (n : Nat) (l : List Int) : List Int := (signedM n l).map fun z => z / ((2 ^ n : Nat) : Int)
def crossedM (n : Nat) (a b : List Int) : List Int := fromSgM n (mulM (signedM n a) (signedM n b))
def ofSizeM (k : Nat) (l : List Int) : List Int := (List.range l.length).map fun i => at0 l i * (if (bitsN i).length = k then 1 else 0)
def rankM (n k : Nat) (l : List Int) : List Int := spreadM n 1 true (ofSizeM k l)
def totalM (n k : Nat) (a b : List Int) (m : Nat) : List Int := (List.range m).foldl (fun tot j => addM tot (mulM (rankM n j a) (rankM n (k - j) b))) (List.replicate a.length 0)
def backM (n : Nat) (rows : Nat → List Int) : List Int := (List.range (2 ^ n)).map fun s => at0 (spreadM n (-1) true (rows (bitsN s).length)) s
def apartM (n : Nat) (a b : List Int) : List Int := backM n fun k => totalM n k a b (k + 1)
def putM : Nat → Nat → List Int → List Int → List Int
  | 0 => joinedM
  | 1 => metM
  | 2 => crossedM
  | _ => apartM
def sumM : Nat → Nat → List Int → List Int
  | 0 => fun n => spreadM n 1 true
  | 1 => fun n => spreadM n 1 false
  | _ => signedM
theorem mulM_length (a b : List Int) : (mulM a b).length = a.length := by unfold mulM; rw [List.length_map, List.length_range]
theorem addM_length (a b : List Int) : (addM a b).length = a.length := by unfold addM; rw [List.length_map, List.length_range]
theorem joinedM_length (n : Nat) (a b : List Int) : (joinedM n a b).length = a.length := by unfold joinedM; rw [spreadM_length, mulM_length, spreadM_length]
theorem metM_length (n : Nat) (a b : List Int) : (metM n a b).length = a.length := by unfold metM; rw [spreadM_length, mulM_length, spreadM_length]
theorem fromSgM_length (n : Nat) (a : List Int) : (fromSgM n a).length = a.length := by unfold fromSgM; rw [List.length_map, signedM_length]
theorem crossedM_length (n : Nat) (a b : List Int) : (crossedM n a b).length = a.length := by unfold crossedM; rw [fromSgM_length, mulM_length, signedM_length]
theorem ofSizeM_length (k : Nat) (a : List Int) : (ofSizeM k a).length = a.length := by unfold ofSizeM; rw [List.length_map, List.length_range]
theorem rankM_length (n k : Nat) (a : List Int) : (rankM n k a).length = a.length := by unfold rankM; rw [spreadM_length, ofSizeM_length]
theorem totalM_length (n k : Nat) (a b : List Int) (m : Nat) : (totalM n k a b m).length = a.length := by
  unfold totalM
  rw [foldl_length (fun l i => addM_length l _), List.length_replicate]
theorem apartM_length (n : Nat) (a b : List Int) : (apartM n a b).length = 2 ^ n := by unfold apartM backM; rw [List.length_map, List.length_range]
theorem putM_length (way n : Nat) (a b : List Int) (h : a.length = 2 ^ n) : (putM way n a b).length = 2 ^ n := by
  match way with
  | 0 => exact (joinedM_length n a b).trans h
  | 1 => exact (metM_length n a b).trans h
  | 2 => exact (crossedM_length n a b).trans h
  | _ + 3 => exact apartM_length n a b
theorem sumM_length (way n : Nat) (a : List Int) : (sumM way n a).length = a.length := by
  match way with
  | 0 => exact spreadM_length _ _ _ _
  | 1 => exact spreadM_length _ _ _ _
  | _ + 2 => exact signedM_length _ _
/-- a set of n names has no more of them -/
theorem bits_few {n i : Nat} (h : i < 2 ^ n) : (bitsN i).length < n + 1 := by
  unfold bitsN
  by_cases hn : n ≤ 10
  · rw [← bitsN, ← bits_below hn (Nat.div_eq_of_lt h)]
    have := List.length_filter_le (fun k => i.testBit k) (List.range n)
    rw [List.length_range] at this
    omega
  · have := List.length_filter_le (fun k => i.testBit k) (List.range 10)
    rw [List.length_range] at this
    omega
/-- lists of one's own: unlike, new over S, each with what lies in it -/
structure Own (S H : Hp) (us : List (Addr × List V)) : Prop where
  nd : (us.map (·.1)).Nodup
  new : ∀ p ∈ us, S p.1 = none
  at_ : ∀ p ∈ us, H p.1 = some (.lst p.2)
theorem Own.nil {S H : Hp} : Own S H [] := ⟨List.nodup_nil, by simp, by simp⟩
theorem Own.mono {S H H' : Hp} {us : List (Addr × List V)} (o : Own S H us) (e : Ex H H') : Own S H' us := ⟨o.nd, o.new, fun p hp => e _ _ (o.at_ p hp)⟩
theorem Own.snoc {S H H' : Hp} {us : List (Addr × List V)} {u : Addr} {T : List V} (o : Own S H us) (e0 : Ex S H) (n : H u = none) (e : Ex H H') (h : H' u = some (.lst T)) : Own S H' (us ++ [(u, T)]) := by
  refine ⟨?_, fun p hp => ?_, fun p hp => ?_⟩
  · rw [List.map_append, List.nodup_append]
    refine ⟨o.nd, by simp, fun a ha b hb => ?_⟩
    obtain ⟨p, hp, rfl⟩ := List.mem_map.mp ha
    have hb2 : b = u := by simpa using hb
    intro z
    have h1 := o.at_ p hp
    rw [z, hb2, n] at h1
    cases h1
  · rcases List.mem_append.mp hp with hp | hp
    · exact o.new p hp
    · rw [List.mem_singleton.mp hp]
      exact fresh_back e0 n
  · rcases List.mem_append.mp hp with hp | hp
    · exact e _ _ (o.at_ p hp)
    · rw [List.mem_singleton.mp hp]
      exact h
theorem Own.mut {S H : Hp} {u : Addr} {T : List V} {us : List (Addr × List V)} {x : HO} (o : Own S H ((u, T) :: us)) : Own S (upd H u x) us := by
  have nd := o.nd
  rw [List.map_cons, List.nodup_cons] at nd
  refine ⟨nd.2, fun p hp => o.new p (List.mem_cons_of_mem _ hp), fun p hp => ?_⟩
  rw [upd_ne (fun z => nd.1 (by rw [← z]; exact List.mem_map.mpr ⟨p, hp, rfl⟩))]
  exact o.at_ p (List.mem_cons_of_mem _ hp)
theorem Own.ne {S H : Hp} {us : List (Addr × List V)} {f : Addr} (o : Own S H us) (n : H f = none) : ∀ p ∈ us, p.1 ≠ f := fun p hp z => by
  have := o.at_ p hp
  rw [z, n] at this
  cases this
theorem Own.head {S H : Hp} {u : Addr} {T : List V} {us : List (Addr × List V)} (o : Own S H ((u, T) :: us)) : S u = none ∧ H u = some (.lst T) := ⟨o.new (u, T) (List.mem_cons_self ..), o.at_ (u, T) (List.mem_cons_self ..)⟩
theorem Own.at_turn {us : List (Addr × List V)} {i : Nat} {x : V} (h : (us.map fun p => V.ref p.1)[i]? = some x) : ∃ u T, x = .ref u ∧ (u, T) ∈ us ∧ us.drop i = (u, T) :: us.drop (i + 1) := by
  rw [List.getElem?_map] at h
  cases e : us[i]? with
  | none => rw [e] at h; cases h
  | some p =>
    rw [e] at h
    obtain ⟨u, T⟩ := p
    obtain ⟨hi, he⟩ := List.getElem?_eq_some_iff.mp e
    refine ⟨u, T, (Option.some.inj h).symm, List.mem_of_getElem? e, ?_⟩
    rw [List.drop_eq_getElem_cons hi, he]
/-- all but one object -/
def hid (H : Hp) (f : Addr) : Hp := fun b => if b = f then none else H b
theorem hid_at {H : Hp} {f : Addr} : hid H f f = none := if_pos rfl
theorem hid_ne {H : Hp} {f b : Addr} (h : b ≠ f) : hid H f b = H b := if_neg h
theorem hid_ex {H : Hp} {f : Addr} : Ex (hid H f) H := fun b o h => by
  by_cases e : b = f
  · subst e
    rw [hid_at] at h
    cases h
  · rw [hid_ne e] at h
    exact h
theorem ex_hid {S H : Hp} {f : Addr} (e : Ex S H) (h : S f = none) : Ex S (hid H f) := fun b o hb => by
  have hbf : b ≠ f := fun z => by rw [z, h] at hb; cases hb
  rw [hid_ne hbf]
  exact e b o hb
theorem hid_upd {H : Hp} {f : Addr} {o : HO} : Ex (hid H f) (upd H f o) := Ex.mut hid_ex hid_at
/-! ### sums over pairs, as the laws go through them -/
def dueStep (ok : Nat → Nat → Bool) (spot : Nat → Nat → Nat) (A B : List Int) (x : Nat) (L : List Int) (y : Nat) : List Int := if ok x y = true then L.set (spot x y) (at0 L (spot x y) + at0 A x * at0 B y) else L
def dueRow (N : Nat) (ok : Nat → Nat → Bool) (spot : Nat → Nat → Nat) (A B : List Int) (L : List Int) (x : Nat) : List Int := (List.range N).foldl (dueStep ok spot A B x) L
def dueP (N : Nat) (ok : Nat → Nat → Bool) (spot : Nat → Nat → Nat) (A B : List Int) : List Int := (List.range N).foldl (dueRow N ok spot A B) (List.replicate N 0)
theorem dueStep_length (ok : Nat → Nat → Bool) (spot : Nat → Nat → Nat) (A B : List Int) (x : Nat) (L : List Int) (y : Nat) : (dueStep ok spot A B x L y).length = L.length := by
  unfold dueStep
  split
  · rw [List.length_set]
  · rfl
theorem dueRow_length (N : Nat) (ok : Nat → Nat → Bool) (spot : Nat → Nat → Nat) (A B L : List Int) (x : Nat) : (dueRow N ok spot A B L x).length = L.length := foldl_length (dueStep_length _ _ _ _ _) _ _
theorem dueP_length (N : Nat) (ok : Nat → Nat → Bool) (spot : Nat → Nat → Nat) (A B : List Int) : (dueP N ok spot A B).length = N := by
  unfold dueP
  rw [foldl_length (dueRow_length _ _ _ _ _), List.length_replicate]
def namesI (f : Nat → Bool) : List Int := ((List.range 5).filter f).map fun i : Nat => (i : Int)
def spotI (l : List Int) : Int := (l.map fun z => 1 * ((2 ^ z.toNat : Nat) : Int)).sum
def spotChk : Bool := (List.range 16).all fun x => (List.range 16).all fun y => decide (spotI (namesI fun i => decide ((i : Int) ∈ bitsM x) && decide ((i : Int) ∈ bitsM y)) = ((x &&& y : Nat) : Int)) && decide (spotI (namesI fun i => decide ((i : Int) ∈ bitsM x) || decide ((i : Int) ∈ bitsM y)) = ((x ||| y : Nat) : Int))
theorem spotChk_ok : spotChk = true := by decide +kernel
theorem spots {x y : Nat} (hx : x < 16) (hy : y < 16) : spotI (namesI fun i => decide ((i : Int) ∈ bitsM x) && decide ((i : Int) ∈ bitsM y)) = ((x &&& y : Nat) : Int) ∧ spotI (namesI fun i => decide ((i : Int) ∈ bitsM x) || decide ((i : Int) ∈ bitsM y)) = ((x ||| y : Nat) : Int) := by
  have h1 := List.all_eq_true.mp spotChk_ok x (List.mem_range.mpr hx)
  have h2 := List.all_eq_true.mp h1 y (List.mem_range.mpr hy)
  rw [Bool.and_eq_true, decide_eq_true_eq, decide_eq_true_eq] at h2
  exact h2
theorem namesI_mem {f : Nat → Bool} {z : Int} (h : z ∈ namesI f) : ∃ i : Nat, z = i ∧ i < 5 := by
  obtain ⟨i, hi, rfl⟩ := List.mem_map.mp h
  exact ⟨i, rfl, List.mem_range.mp (List.mem_filter.mp hi).1⟩
theorem namesI_len (f : Nat → Bool) : (namesI f).length ≤ 5 := by
  unfold namesI
  rw [List.length_map]
  have := List.length_filter_le f (List.range 5)
  rw [List.length_range] at this
  exact this
def bothL (x y : Nat) : List Int := (bitsM x).filter fun z => decide (z ∈ bitsM y)
def aloneL (x y : Nat) : List Int := (bitsM x ++ bitsM y).filter fun z => !decide (z ∈ bothL x y)
def aloneChk : Bool := (List.range 16).all fun x => (List.range 16).all fun y => (decide (bothL x y = []) == decide (x &&& y = 0)) && decide (spotI (aloneL x y) = ((x ^^^ y : Nat) : Int))
theorem aloneChk_ok : aloneChk = true := by decide +kernel
theorem alone {x y : Nat} (hx : x < 16) (hy : y < 16) : decide (bothL x y = []) = decide (x &&& y = 0) ∧ spotI (aloneL x y) = ((x ^^^ y : Nat) : Int) := by
  have h1 := List.all_eq_true.mp aloneChk_ok x (List.mem_range.mpr hx)
  have h2 := List.all_eq_true.mp h1 y (List.mem_range.mpr hy)
  rw [Bool.and_eq_true, beq_iff_eq, decide_eq_true_eq] at h2
  exact h2
theorem bitsM_mem {x : Nat} {z : Int} (h : z ∈ bitsM x) : ∃ i : Nat, z = i ∧ i < 10 := by
  obtain ⟨i, hi, rfl⟩ := List.mem_map.mp h
  exact ⟨i, rfl, List.mem_range.mp (List.mem_filter.mp hi).1⟩
theorem aloneL_mem {x y : Nat} {z : Int} (h : z ∈ aloneL x y) : ∃ i : Nat, z = i ∧ i < 10 := by
  rcases List.mem_append.mp (List.mem_filter.mp h).1 with h | h
  · exact bitsM_mem h
  · exact bitsM_mem h
theorem aloneL_len (x y : Nat) : (aloneL x y).length ≤ 20 := by
  have h1 := List.length_filter_le (fun z => !decide (z ∈ bothL x y)) (bitsM x ++ bitsM y)
  have h2 := bitsM_len x
  have h3 := bitsM_len y
  rw [List.length_append] at h1
  unfold aloneL
  omega
theorem bits_all : ∀ n, n ≤ 10 → (bitsM (2 ^ n - 1)).length = n := by decide +kernel
end SS

/-! the mirror of names told otherwise -/
namespace SS
open PySem PySem.Spec PyProof.Rows L2 Evl
/-- a set without the name m -/
def wbM (m s : Nat) : Nat := (s &&& (2 ^ m - 1)) ||| (s / 2 ^ (m + 1) * 2 ^ m)
def withM (m : Nat) (a b : List Int) : List Int := (List.range (2 * a.length)).map fun s => if s.testBit m = true then at0 b (wbM m s) else at0 a (wbM m s)
def partM (m : Nat) (w : Bool) (l : List Int) : List Int := ((List.range l.length).filter fun s => s.testBit m == w).map fun s => at0 l s
/-- a set, its names told by an order -/
def reN (ord : List Nat) (s : Nat) : Nat := ((bitsN s).map fun k => 2 ^ ord.getD k 0).sum
def reM (ord : List Nat) (l : List Int) : List Int := (List.range l.length).map fun s => at0 l (reN ord s)
/-! ### orders -/
def ordI (ord : List Nat) : List Int := ord.map fun i : Nat => (i : Int)
def IsOrd (K : PySem.W.Frag) (H : Hp) (x : V) (n : Nat) (ord : List Nat) : Prop := ∃ a, x = .ref a ∧ SqL K H a ((ordI ord).map V.int) ∧ List.Perm ord (List.range n)
def NoOrd (K : PySem.W.Frag) (H : Hp) (x : V) (n : Nat) : Prop := (∃ t, Kd K H x t ∧ t ≠ .lst) ∨
  ∃ a xs, x = .ref a ∧ SqL K H a xs ∧ xs.length ≤ 40000 ∧ (∀ y ∈ xs, El K H y) ∧ ((xs.all fun y => amg y 0 ((n : Int) - 1)) = false ∨ ∃ ord : List Nat, xs = (ordI ord).map V.int ∧ ord.length < 64 ∧ ¬ List.Perm ord (List.range n))
theorem IsOrd.mono {K : PySem.W.Frag} {H H' : Hp} {x : V} {n : Nat} {ord : List Nat} (e : Ex H H') (h : IsOrd K H x n ord) : IsOrd K H' x n ord := by
  obtain ⟨a, rfl, h1, h2⟩ := h
  exact ⟨a, rfl, ex_l e h1, h2⟩
theorem NoOrd.mono {K : PySem.W.Frag} {H H' : Hp} {x : V} {n : Nat} (e : Ex H H') (h : NoOrd K H x n) : NoOrd K H' x n := by
  rcases h with ⟨t, k, q⟩ | ⟨a, xs, rfl, h1, h2, h3, h4⟩
  · exact .inl ⟨t, kd_mono e k, q⟩
  · exact .inr ⟨a, xs, rfl, ex_l e h1, h2, fun y hy => (h3 y hy).mono e, h4⟩
theorem sorted_is {ord : List Nat} {n : Nat} {ns : List Int} (hp : ns.Perm (ordI ord)) (hs : ns.Pairwise (· ≤ ·)) : ns = ordI (List.range n) ↔ List.Perm ord (List.range n) := by
  have inj : ∀ {l m : List Nat}, (ordI l).Perm (ordI m) → l.Perm m := fun {l m} h => by
    have h2 := h.map Int.toNat
    unfold ordI at h2
    rw [List.map_map, List.map_map] at h2
    have e : ∀ l : List Nat, l.map (Int.toNat ∘ fun i : Nat => (i : Int)) = l := fun l => by
      conv => rhs; rw [← List.map_id l]
      exact List.map_congr_left fun a _ => Int.toNat_natCast a
    rwa [e, e] at h2
  constructor
  · intro h
    rw [h] at hp
    exact (inj hp).symm
  · intro h
    refine List.Perm.eq_of_pairwise (le := (· ≤ ·)) (fun a b _ _ h1 h2 => Int.le_antisymm h1 h2) hs ?_ (hp.trans (h.map _))
    unfold ordI
    rw [List.pairwise_map]
    exact List.pairwise_lt_range.imp fun h => by omega
/-- the halves of two tables put together, out of the four parts -/
def halfM (way n : Nat) (A B C D : List Int) : Bool → List Int
  | false => match way with
    | 0 => putM way n A C
    | 1 => addM (putM way n A C) (addM (putM way n A D) (putM way n B C))
    | 2 => addM (putM way n A C) (putM way n B D)
    | _ => putM way n A C
  | true => match way with
    | 0 => addM (addM (putM way n A D) (putM way n B C)) (putM way n B D)
    | 1 => putM way n B D
    | 2 => addM (putM way n A D) (putM way n B C)
    | _ => addM (putM way n A D) (putM way n B C)
def sumsM (way n : Nat) (A B : List Int) : Bool → List Int
  | false => match way with
    | 0 => sumM way n A
    | _ => addM (sumM way n A) (sumM way n B)
  | true => match way with
    | 0 => addM (sumM way n A) (sumM way n B)
    | 1 => sumM way n B
    | _ => addM (sumM way n A) ((sumM way n B).map fun z => 0 - z)
end SS

/-! lists of sets, and what is none -/
namespace SS
open PySem PySem.Spec PyProof.Rows L2 Evl
/-- a list of at most forty sets of n names -/
def IsSets (K : PySem.W.Frag) (H : Hp) (x : V) (n : Nat) (l : List Nat) : Prop := ∃ a, x = .ref a ∧ SqL K H a ((ordI l).map V.int) ∧ l.length ≤ 40 ∧ ∀ k ∈ l, k < 2 ^ n
def NoSets (K : PySem.W.Frag) (H : Hp) (x : V) (n : Nat) : Prop := (∃ t, Kd K H x t ∧ t ≠ .lst) ∨
  ∃ a xs, x = .ref a ∧ SqL K H a xs ∧ xs.length ≤ 1000 ∧ (40 < xs.length ∨ ((∀ y ∈ xs, El K H y) ∧ ∃ y ∈ xs, amg y 0 (2 ^ n - 1) = false))
theorem IsSets.mono {K : PySem.W.Frag} {H H' : Hp} {x : V} {n : Nat} {l : List Nat} (e : Ex H H') (h : IsSets K H x n l) : IsSets K H' x n l := by
  obtain ⟨a, rfl, h1, h2⟩ := h
  exact ⟨a, rfl, ex_l e h1, h2⟩
theorem NoSets.mono {K : PySem.W.Frag} {H H' : Hp} {x : V} {n : Nat} (e : Ex H H') (h : NoSets K H x n) : NoSets K H' x n := by
  rcases h with ⟨t, k, q⟩ | ⟨a, xs, rfl, h1, h2, h3⟩
  · exact .inl ⟨t, kd_mono e k, q⟩
  · exact .inr ⟨a, xs, rfl, ex_l e h1, h2, h3.imp id fun ⟨h4, h5⟩ => ⟨fun y hy => (h4 y hy).mono e, h5⟩⟩
theorem get_ordI {l : List Nat} {i : Nat} {x : V} (h : ((ordI l).map V.int)[i]? = some x) : ∃ k : Nat, l[i]? = some k ∧ x = .int (k : Nat) := by
  unfold ordI at h
  rw [List.getElem?_map, List.getElem?_map] at h
  cases e : l[i]? with
  | none => rw [e] at h; cases h
  | some k => rw [e] at h; exact ⟨k, rfl, (Option.some.inj h).symm⟩
theorem len_ordI (l : List Nat) : ((ordI l).map V.int).length = l.length := by unfold ordI; rw [List.length_map, List.length_map]
end SS

/-! lists of rows that grow -/
namespace SS
open PySem PySem.Spec PyProof.Rows L2 Evl
theorem RowsF.upd {B H : Hp} {p : Addr} {o : HO} (hp : B p ≠ none) : ∀ {xs : List V} {rows : List (List Int)}, RowsF B H xs rows → RowsF B (upd H p o) xs rows
  | _, _, .nil => .nil
  | _, _, .cons ⟨a, h, n, q⟩ t => .cons ⟨a, h, n, by rw [upd_ne (fun z => hp (by rw [← z]; exact n))]; exact q⟩ (RowsF.upd hp t)
theorem RowsF.base {B B' H : Hp} (e : ∀ a, B' a = none → B a = none) : ∀ {xs : List V} {rows : List (List Int)}, RowsF B' H xs rows → RowsF B H xs rows
  | _, _, .nil => .nil
  | _, _, .cons ⟨a, h, n, q⟩ t => .cons ⟨a, h, e a n, q⟩ (RowsF.base e t)
theorem RowsF.append {B H : Hp} {ys : List V} {rs : List (List Int)} (h2 : RowsF B H ys rs) : ∀ {xs : List V} {rows : List (List Int)}, RowsF B H xs rows → RowsF B H (xs ++ ys) (rows ++ rs)
  | _, _, .nil => h2
  | _, _, .cons p t => .cons p (RowsF.append h2 t)
theorem wl_rowsI {σ : L2.St} {H : Hp} {te : TE} {j : Nat} {vs : List Nat} {lo : Int} {n : Nat} {r : Nat → List Int} {Q : VK} (hz : n ≤ 40000) (hw : ∀ x, wipe ((wipe σ vs).set j (some x)) vs = wipe σ vs)
    (he : ∀ (k : Nat) H1, k < n → Ex H H1 → EvL te ((wipe σ vs).set j (some (.int (lo + (k : Int))))) H1 ((r k).map V.int))
    (q : ∀ p xs H2, H p = none → Ex H H2 → H2 p = some (.lst xs) → RowsF H H2 xs ((List.range n).map r) → Q (.ref p) H2) : WLc (Itr lo n) (gName j) tYes te vs σ H Q := fun Dl hD =>
  rows_step (J := Itr lo n) (r := r) (te := te) (fun k H2 e2 hk => hk) (fun H2 e2 => Nat.le_refl _) hz
    (fun k x H2 H3 hk e2 y => by
      obtain ⟨e3, rfl⟩ := y
      subst e3
      refine ⟨Ex.refl _, fun Dl hD hn => ⟨rfl, fun R hR => ?_⟩⟩
      exact hR _ (hw _) (he k H hk (Ex.refl _)))
    (fun p xs H2 hp e2 hl hr => q p xs H2 hp e2 hl hr) Dl hD
end SS

/-! plain mathematics: sums over sets, kernels that are products over names -/
namespace SS
/-! ### finite sums -/
def sm : Nat → (Nat → Int) → Int
  | 0, _ => 0
  | n + 1, f => sm n f + f n
theorem sm_congr {n : Nat} {f g : Nat → Int} (h : ∀ i, i < n → f i = g i) : sm n f = sm n g := by
  induction n with
  | zero => rfl
  | succ n ih => rw [sm, sm, ih fun i hi => h i (by omega), h n (by omega)]
theorem sm_zero (n : Nat) : sm n (fun _ => 0) = 0 := by
  induction n with
  | zero => rfl
  | succ n ih => rw [sm, ih] <;> rfl
theorem sm_add (n : Nat) (f g : Nat → Int) : sm n (fun i => f i + g i) = sm n f + sm n g := by
  induction n with
  | zero => rfl
  | succ n ih => rw [sm, sm, sm, ih]; omega
theorem sm_mul (n : Nat) (c : Int) (f : Nat → Int) : sm n (fun i => c * f i) = c * sm n f := by
  induction n with
  | zero => rw [sm, sm, Int.mul_zero]
  | succ n ih => rw [sm, sm, ih, Int.mul_add]
theorem sm_mulr (n : Nat) (c : Int) (f : Nat → Int) : sm n (fun i => f i * c) = sm n f * c := by
  rw [Int.mul_comm, ← sm_mul]
  exact sm_congr fun i _ => Int.mul_comm _ _
theorem sm_neg (n : Nat) (f : Nat → Int) : sm n (fun i => - f i) = - sm n f := by
  induction n with
  | zero => rfl
  | succ n ih => rw [sm, sm, ih]; omega
theorem sm_sub (n : Nat) (f g : Nat → Int) : sm n (fun i => f i - g i) = sm n f - sm n g := by
  induction n with
  | zero => rfl
  | succ n ih => rw [sm, sm, sm, ih]; omega
theorem sm_swap (n m : Nat) (f : Nat → Nat → Int) : sm n (fun i => sm m (f i)) = sm m (fun j => sm n (fun i => f i j)) := by
  induction n with
  | zero => rw [sm]; exact (sm_zero m).symm
  | succ n ih =>
    rw [sm, ih, ← sm_add]
    rfl
theorem sm_app (n m : Nat) (f : Nat → Int) : sm (n + m) f = sm n f + sm m (fun i => f (n + i)) := by
  induction m with
  | zero => rw [sm]; exact (Int.add_zero _).symm
  | succ m ih =>
    show sm (n + m) f + f (n + m) = sm n f + (sm m (fun i => f (n + i)) + f (n + m))
    rw [ih]
    omega
/-- one place -/
theorem sm_at {n j : Nat} (h : j < n) (f : Nat → Int) : sm n (fun i => (if i = j then 1 else 0) * f i) = f j := by
  induction n with
  | zero => omega
  | succ n ih =>
    rw [sm]
    by_cases e : n = j
    · subst e
      rw [if_pos rfl, sm_congr (g := fun _ => 0) fun i hi => by rw [if_neg (by omega), Int.zero_mul], sm_zero, Int.one_mul, Int.zero_add]
    · rw [if_neg e, Int.zero_mul, Int.add_zero, ih (by omega)]
theorem foldl_sm (n : Nat) (f : Nat → Int) (c : Int) : (List.range n).foldl (fun a i => a + f i) c = c + sm n f := by
  induction n with
  | zero => exact (Int.add_zero c).symm
  | succ n ih =>
    rw [List.range_succ, List.foldl_append, ih]
    show c + sm n f + f n = c + (sm n f + f n)
    omega
/-! ### products over names -/
def pr : Nat → (Nat → Int) → Int
  | 0, _ => 1
  | n + 1, u => pr n u * u n
theorem pr_congr {n : Nat} {f g : Nat → Int} (h : ∀ i, i < n → f i = g i) : pr n f = pr n g := by
  induction n with
  | zero => rfl
  | succ n ih => rw [pr, pr, ih fun i hi => h i (by omega), h n (by omega)]
theorem pr_mul (n : Nat) (f g : Nat → Int) : pr n (fun i => f i * g i) = pr n f * pr n g := by
  induction n with
  | zero => rfl
  | succ n ih =>
    rw [pr, pr, pr, ih]
    grind
theorem pr_one (n : Nat) : pr n (fun _ => 1) = 1 := by
  induction n with
  | zero => rfl
  | succ n ih => rw [pr, ih] <;> rfl
theorem pr_const (n : Nat) (c : Int) : pr n (fun _ => c) = c ^ n := by
  induction n with
  | zero => exact (Int.pow_zero c).symm
  | succ n ih => rw [pr, ih, Int.pow_succ]
/-! ### bits -/
theorem bit_add {n z k : Nat} (hz : z < 2 ^ n) (h : k < n) : (2 ^ n + z).testBit k = z.testBit k := Nat.testBit_two_pow_add_gt h z
theorem bit_top {n z : Nat} (hz : z < 2 ^ n) : (2 ^ n + z).testBit n = true := by
  rw [Nat.testBit_two_pow_add_eq, Nat.testBit_lt_two_pow hz] <;> rfl
theorem bit_low {n z : Nat} (hz : z < 2 ^ n) : z.testBit n = false := Nat.testBit_lt_two_pow hz
theorem sm_double (n : Nat) (f : Nat → Int) : sm (2 ^ (n + 1)) f = sm (2 ^ n) f + sm (2 ^ n) (fun z => f (2 ^ n + z)) := by
  rw [Nat.pow_succ, Nat.mul_two, sm_app]
/-- a sum over all sets of a product over names -/
theorem sm_pr (n : Nat) (u : Nat → Bool → Int) : sm (2 ^ n) (fun z => pr n (fun k => u k (z.testBit k))) = pr n (fun k => u k false + u k true) := by
  induction n with
  | zero => rfl
  | succ n ih =>
    rw [sm_double, pr, ← ih, Int.mul_add, ← sm_mulr, ← sm_mulr]
    congr 1
    · refine sm_congr fun z hz => ?_
      rw [pr, bit_low hz]
    · refine sm_congr fun z hz => ?_
      rw [pr, bit_top hz]
      congr 1
      exact pr_congr fun k hk => by rw [bit_add hz hk]
theorem eq_bits {n x y : Nat} (hx : x < 2 ^ n) (hy : y < 2 ^ n) (h : ∀ k, k < n → x.testBit k = y.testBit k) : x = y := by
  refine Nat.eq_of_testBit_eq fun k => ?_
  by_cases hk : k < n
  · exact h k hk
  · have hp : 2 ^ n ≤ 2 ^ k := Nat.pow_le_pow_right (by decide) (by omega)
    rw [Nat.testBit_lt_two_pow (by omega), Nat.testBit_lt_two_pow (by omega)]
/-! ### kernels -/
abbrev Mx := Bool → Bool → Int
def ker (m : Mx) (n s o : Nat) : Int := pr n fun k => m (s.testBit k) (o.testBit k)
def tr (m : Mx) (n : Nat) (f : Nat → Int) (s : Nat) : Int := sm (2 ^ n) fun o => ker m n s o * f o
def mI : Mx := fun x y => if x = y then 1 else 0
/-- the product of two -/
def mm (m p : Mx) : Mx := fun x y => m x false * p false y + m x true * p true y
theorem pr_ind (n : Nat) (P : Nat → Prop) [DecidablePred P] : pr n (fun k => if P k then 1 else 0) = if ∀ k, k < n → P k then 1 else 0 := by
  induction n with
  | zero => rw [pr, if_pos (fun k hk => absurd hk (Nat.not_lt_zero k))]
  | succ n ih =>
    rw [pr, ih]
    by_cases h : ∀ k, k < n → P k
    · by_cases hn : P n
      · rw [if_pos h, if_pos hn, if_pos (fun k hk => by
          rcases Nat.lt_succ_iff_lt_or_eq.mp hk with h1 | h1
          · exact h k h1
          · rw [h1]; exact hn)]
        rfl
      · rw [if_neg hn, if_neg (c := ∀ k, k < n + 1 → P k) (fun z => hn (z n (Nat.lt_succ_self n)))]
        exact Int.mul_zero _
    · rw [if_neg h, if_neg (c := ∀ k, k < n + 1 → P k) (fun z => h fun k hk => z k (Nat.lt_succ_of_lt hk))]
      exact Int.zero_mul _
theorem ker_I {n s o : Nat} (hs : s < 2 ^ n) (ho : o < 2 ^ n) : ker mI n s o = if o = s then 1 else 0 := by
  unfold ker mI
  rw [pr_ind n (fun k => s.testBit k = o.testBit k)]
  by_cases h : o = s
  · subst h
    rw [if_pos rfl, if_pos (fun _ _ => rfl)]
  · rw [if_neg h, if_neg (fun z => h (eq_bits ho hs fun k hk => (z k hk).symm))]
theorem ker_mm (m p : Mx) (n s o : Nat) : sm (2 ^ n) (fun z => ker m n s z * ker p n z o) = ker (mm m p) n s o := by
  unfold ker
  rw [show (fun z : Nat => pr n (fun k => m (s.testBit k) (z.testBit k)) * pr n (fun k => p (z.testBit k) (o.testBit k))) = fun z : Nat => pr n (fun k => m (s.testBit k) (z.testBit k) * p (z.testBit k) (o.testBit k)) from funext fun z => (pr_mul n _ _).symm]
  exact sm_pr n fun k b => m (s.testBit k) b * p b (o.testBit k)
theorem tr_mm (m p : Mx) (n : Nat) (f : Nat → Int) (s : Nat) : tr m n (tr p n f) s = tr (mm m p) n f s := by
  unfold tr
  rw [show (fun o => ker m n s o * sm (2 ^ n) fun o_1 => ker p n o o_1 * f o_1) = fun o => sm (2 ^ n) fun q => ker m n s o * ker p n o q * f q from funext fun o => by
    rw [← sm_mul]
    exact sm_congr fun q _ => (Int.mul_assoc _ _ _).symm]
  rw [sm_swap]
  refine sm_congr fun q _ => ?_
  rw [sm_mulr, ker_mm]
theorem tr_I {n : Nat} {f : Nat → Int} {s : Nat} (hs : s < 2 ^ n) : tr mI n f s = f s := by
  unfold tr
  rw [sm_congr (g := fun o => (if o = s then 1 else 0) * f o) fun o ho => by rw [ker_I hs ho]]
  exact sm_at hs f
theorem ker_smul (c : Int) (m : Mx) (n s o : Nat) : ker (fun x y => c * m x y) n s o = c ^ n * ker m n s o := by
  unfold ker
  rw [pr_mul, pr_const]
theorem tr_congr {m : Mx} {n : Nat} {f g : Nat → Int} (h : ∀ o, o < 2 ^ n → f o = g o) (s : Nat) : tr m n f s = tr m n g s := sm_congr fun o ho => by rw [h o ho]
theorem tr_add (m : Mx) (n : Nat) (f g : Nat → Int) (s : Nat) : tr m n (fun o => f o + g o) s = tr m n f s + tr m n g s := by
  unfold tr
  rw [← sm_add]
  exact sm_congr fun o _ => Int.mul_add _ _ _
theorem tr_mul (m : Mx) (n : Nat) (c : Int) (f : Nat → Int) (s : Nat) : tr m n (fun o => c * f o) s = c * tr m n f s := by
  unfold tr
  rw [← sm_mul]
  exact sm_congr fun o _ => Int.mul_left_comm _ _ _
/-! ### name by name -/
def stp (m : Mx) (k : Nat) (f : Nat → Int) (s : Nat) : Int := m (s.testBit k) (s.testBit k) * f s + m (s.testBit k) (!s.testBit k) * f (s ^^^ 2 ^ k)
theorem flip_bit (s k j : Nat) : (s ^^^ 2 ^ k).testBit j = (s.testBit j ^^ decide (k = j)) := by
  rw [Nat.testBit_xor, Nat.testBit_two_pow]
theorem flip_lt {s k n : Nat} (hs : s < 2 ^ n) (hk : k < n) : s ^^^ 2 ^ k < 2 ^ n := Nat.xor_lt_two_pow hs (Nat.pow_lt_pow_right (by decide) hk)
def fold_ (m : Mx) (n : Nat) (f : Nat → Int) : Nat → Int := (List.range n).foldl (fun g k => stp m k g) f
theorem fold_succ (m : Mx) (n : Nat) (f : Nat → Int) : fold_ m (n + 1) f = stp m n (fold_ m n f) := by
  unfold fold_
  rw [List.range_succ, List.foldl_append] <;> rfl
theorem xor_add {n s j : Nat} (hs : s < 2 ^ n) (hj : j < n) : (2 ^ n + s) ^^^ 2 ^ j = 2 ^ n + (s ^^^ 2 ^ j) := by
  have h1 := flip_lt hs hj
  have h2 : 2 ^ j < 2 ^ n := Nat.pow_lt_pow_right (by decide) hj
  have hp : 2 ^ (n + 1) = 2 ^ n + 2 ^ n := by rw [Nat.pow_succ, Nat.mul_two]
  refine eq_bits (n := n + 1) (Nat.xor_lt_two_pow (by omega) (by omega)) (by omega) fun k hk => ?_
  rw [flip_bit]
  rcases Nat.lt_succ_iff_lt_or_eq.mp hk with h | h
  · rw [bit_add hs h, bit_add h1 h, flip_bit]
  · subst h
    rw [bit_top hs, bit_top h1, decide_eq_false (by omega)]
    rfl
theorem xor_top {n s : Nat} (hs : s < 2 ^ n) : s ^^^ 2 ^ n = 2 ^ n + s := by
  have hp : 2 ^ (n + 1) = 2 ^ n + 2 ^ n := by rw [Nat.pow_succ, Nat.mul_two]
  refine eq_bits (n := n + 1) (Nat.xor_lt_two_pow (by omega) (by omega)) (by omega) fun k hk => ?_
  rw [flip_bit]
  rcases Nat.lt_succ_iff_lt_or_eq.mp hk with h | h
  · rw [bit_add hs h, decide_eq_false (by omega), Bool.xor_false]
  · subst h
    rw [bit_top hs, bit_low hs, decide_eq_true rfl]
    rfl
theorem xor_top2 {n s : Nat} (hs : s < 2 ^ n) : (2 ^ n + s) ^^^ 2 ^ n = s := by
  rw [← xor_top hs, Nat.xor_assoc, Nat.xor_self, Nat.xor_zero]
theorem fold_shift (m : Mx) {n j s : Nat} (f : Nat → Int) (hj : j ≤ n) (hs : s < 2 ^ n) : fold_ m j f (2 ^ n + s) = fold_ m j (fun o => f (2 ^ n + o)) s := by
  induction j generalizing s with
  | zero => rfl
  | succ j ih =>
    rw [fold_succ, fold_succ]
    unfold stp
    rw [bit_add hs (by omega), xor_add hs (by omega), ih (by omega) hs, ih (by omega) (flip_lt hs (by omega))]
theorem ker_ll {m : Mx} {n s o : Nat} (hs : s < 2 ^ n) (ho : o < 2 ^ n) : ker m (n + 1) s o = ker m n s o * m false false := by
  unfold ker
  rw [pr, bit_low hs, bit_low ho]
theorem ker_lh {m : Mx} {n s o : Nat} (hs : s < 2 ^ n) (ho : o < 2 ^ n) : ker m (n + 1) s (2 ^ n + o) = ker m n s o * m false true := by
  unfold ker
  rw [pr, bit_low hs, bit_top ho, pr_congr (g := fun k => m (s.testBit k) (o.testBit k)) fun k hk => by rw [bit_add ho hk]]
theorem ker_hl {m : Mx} {n s o : Nat} (hs : s < 2 ^ n) (ho : o < 2 ^ n) : ker m (n + 1) (2 ^ n + s) o = ker m n s o * m true false := by
  unfold ker
  rw [pr, bit_top hs, bit_low ho, pr_congr (g := fun k => m (s.testBit k) (o.testBit k)) fun k hk => by rw [bit_add hs hk]]
theorem ker_hh {m : Mx} {n s o : Nat} (hs : s < 2 ^ n) (ho : o < 2 ^ n) : ker m (n + 1) (2 ^ n + s) (2 ^ n + o) = ker m n s o * m true true := by
  unfold ker
  rw [pr, bit_top hs, bit_top ho, pr_congr (g := fun k => m (s.testBit k) (o.testBit k)) fun k hk => by rw [bit_add hs hk, bit_add ho hk]]
theorem ml3 (a b c : Int) : a * (b * c) = b * a * c := by rw [Int.mul_comm b a, Int.mul_assoc]
theorem fold_tr (m : Mx) (n : Nat) (f : Nat → Int) {s : Nat} (hs : s < 2 ^ n) : fold_ m n f s = tr m n f s := by
  induction n generalizing s f with
  | zero =>
    have e : s = 0 := by rw [Nat.pow_zero] at hs; omega
    subst e
    show f 0 = 0 + 1 * f 0
    omega
  | succ n ih =>
    have hp : 2 ^ (n + 1) = 2 ^ n + 2 ^ n := by rw [Nat.pow_succ, Nat.mul_two]
    rw [fold_succ]
    unfold stp tr
    rw [sm_double]
    by_cases h : s < 2 ^ n
    · rw [bit_low h, xor_top h, fold_shift m f (Nat.le_refl n) h, ih f h, ih _ h]
      unfold tr
      rw [← sm_mul, ← sm_mul]
      congr 1
      · exact sm_congr fun o ho => by rw [ker_ll h ho, ml3]
      · exact sm_congr fun o ho => by rw [ker_lh h ho, ml3]; rfl
    · obtain ⟨t, rfl⟩ : ∃ t, s = 2 ^ n + t := ⟨s - 2 ^ n, by omega⟩
      have ht : t < 2 ^ n := by omega
      rw [bit_top ht, xor_top2 ht, fold_shift m f (Nat.le_refl n) ht, ih f ht, ih _ ht]
      unfold tr
      rw [← sm_mul, ← sm_mul, Int.add_comm]
      congr 1
      · exact sm_congr fun o ho => by rw [ker_hl ht ho, ml3]; rfl
      · exact sm_congr fun o ho => by rw [ker_hh ht ho, ml3]
end SS

/-! the walked sums are kernels -/
namespace SS
theorem at0_set {l : List Int} {i s : Nat} {v : Int} (h : i < l.length) : at0 (l.set i v) s = if s = i then v else at0 l s := by
  unfold at0
  rw [List.getD_eq_getElem?_getD, List.getD_eq_getElem?_getD, List.getElem?_set]
  by_cases e : i = s
  · subst e
    rw [if_pos rfl, if_pos h, if_pos rfl] <;> rfl
  · rw [if_neg e, if_neg (Ne.symm e)]
theorem ext0 {l r : List Int} (hl : l.length = r.length) (h : ∀ s, s < l.length → at0 l s = at0 r s) : l = r := by
  apply List.ext_getElem hl
  intro i h1 h2
  have := h i h1
  unfold at0 at this
  rw [List.getD_eq_getElem?_getD, List.getD_eq_getElem?_getD, List.getElem?_eq_getElem h1, List.getElem?_eq_getElem h2] at this
  exact this
theorem at0_map {N s : Nat} (f : Nat → Int) (h : s < N) : at0 ((List.range N).map f) s = f s := by
  unfold at0
  rw [List.getD_eq_getElem?_getD, List.getElem?_map, List.getElem?_range h] <;> rfl
theorem and_bit (j k : Nat) : (j &&& 2 ^ k = 0) ↔ j.testBit k = false := by
  constructor
  · intro h
    have : (j &&& 2 ^ k).testBit k = false := by rw [h, Nat.zero_testBit]
    rw [Nat.testBit_and, Nat.testBit_two_pow_self, Bool.and_true] at this
    exact this
  · intro h
    refine Nat.eq_of_testBit_eq fun i => ?_
    rw [Nat.testBit_and, Nat.zero_testBit, Nat.testBit_two_pow]
    by_cases e : k = i
    · subst e
      rw [h] <;> rfl
    · rw [decide_eq_false e, Bool.and_false]
theorem or_bit {j k : Nat} (h : j.testBit k = false) : j ||| 2 ^ k = j ^^^ 2 ^ k := by
  refine Nat.eq_of_testBit_eq fun i => ?_
  rw [Nat.testBit_or, Nat.testBit_xor, Nat.testBit_two_pow]
  by_cases e : k = i
  · subst e
    rw [h, decide_eq_true rfl] <;> rfl
  · rw [decide_eq_false e, Bool.or_false, Bool.xor_false]
theorem flip_flip (j k : Nat) : (j ^^^ 2 ^ k) ^^^ 2 ^ k = j := by rw [Nat.xor_assoc, Nat.xor_self, Nat.xor_zero]
theorem flip_ne (j k : Nat) : j ^^^ 2 ^ k ≠ j := fun h => by
  have := congrArg (fun z => z.testBit k) h
  simp only [flip_bit, decide_true, Bool.xor_true] at this
  cases hb : j.testBit k <;> rw [hb] at this <;> cases this
/-- one pass over all sets, pair by pair -/
theorem pass_stp (m : Mx) {n k : Nat} (hk : k < n) (g : List Int → Nat → List Int) (hlen : ∀ l j, (g l j).length = l.length)
    (h1 : ∀ l j, j.testBit k = true → g l j = l)
    (h0 : ∀ l j, l.length = 2 ^ n → j < 2 ^ n → j.testBit k = false → ∀ s, s < 2 ^ n → at0 (g l j) s = if s = j ∨ s = j ^^^ 2 ^ k then stp m k (at0 l) s else at0 l s)
    (l : List Int) (hl : l.length = 2 ^ n) : ∀ s, s < 2 ^ n → at0 ((List.range (2 ^ n)).foldl g l) s = stp m k (at0 l) s := by
  have key : ∀ j, j ≤ 2 ^ n → ∀ s, s < 2 ^ n → at0 ((List.range j).foldl g l) s = if (if s.testBit k = true then s ^^^ 2 ^ k else s) < j then stp m k (at0 l) s else at0 l s := by
    intro j
    induction j with
    | zero =>
      intro _ s _
      rw [if_neg (Nat.not_lt_zero _)]
      rfl
    | succ j ih =>
      intro hj s hs
      have hj' : j < 2 ^ n := by omega
      rw [foldl_range_succ]
      have lL : ((List.range j).foldl g l).length = 2 ^ n := by rw [foldl_length hlen, hl]
      generalize hL : (List.range j).foldl g l = L at lL
      have ihL : ∀ s, s < 2 ^ n → at0 L s = if (if s.testBit k = true then s ^^^ 2 ^ k else s) < j then stp m k (at0 l) s else at0 l s := fun s hs => by rw [← hL]; exact ih (by omega) s hs
      cases hb : j.testBit k with
      | true =>
        rw [h1 L j hb, ihL s hs]
        have hne : (if s.testBit k = true then s ^^^ 2 ^ k else s) ≠ j := fun e => by
          split at e
          · rename_i ht
            rw [← e, flip_bit, ht, decide_eq_true rfl] at hb
            cases hb
          · rename_i ht
            rw [e] at ht
            exact ht hb
        generalize (if s.testBit k = true then s ^^^ 2 ^ k else s) = z at hne ⊢
        by_cases hz : z < j
        · rw [if_pos hz, if_pos (by omega)]
        · rw [if_neg hz, if_neg (by omega)]
      | false =>
        have hp : (j ^^^ 2 ^ k).testBit k = true := by rw [flip_bit, hb, decide_eq_true rfl] <;> rfl
        have hj2 := flip_lt hj' hk
        rw [h0 L j lL hj' hb s hs]
        have vj : at0 L j = at0 l j := by
          rw [ihL j hj', hb, if_neg (show ¬ false = true by decide), if_neg (Nat.lt_irrefl j)]
        have vj2 : at0 L (j ^^^ 2 ^ k) = at0 l (j ^^^ 2 ^ k) := by
          rw [ihL _ hj2, hp, if_pos rfl, flip_flip, if_neg (Nat.lt_irrefl j)]
        by_cases e : s = j ∨ s = j ^^^ 2 ^ k
        · rw [if_pos e]
          rcases e with e | e
          · subst e
            rw [hb, if_neg (show ¬ false = true by decide), if_pos (Nat.lt_succ_self s)]
            unfold stp
            rw [vj, vj2]
          · subst e
            rw [hp, if_pos rfl, flip_flip, if_pos (Nat.lt_succ_self j)]
            unfold stp
            rw [flip_flip, vj, vj2]
        · rw [if_neg e, ihL s hs]
          have hne : (if s.testBit k = true then s ^^^ 2 ^ k else s) ≠ j := fun z => by
            split at z
            · exact e (.inr (by rw [← z, flip_flip]))
            · exact e (.inl z)
          generalize (if s.testBit k = true then s ^^^ 2 ^ k else s) = z at hne ⊢
          by_cases hz : z < j
          · rw [if_pos hz, if_pos (by omega)]
          · rw [if_neg hz, if_neg (by omega)]
  intro s hs
  rw [key _ (Nat.le_refl _) s hs, if_pos]
  split
  · exact flip_lt hs hk
  · exact hs
/-- name by name -/
theorem names_tr (m : Mx) {n : Nat} (G : List Int → Nat → List Int) (hlen : ∀ l k, (G l k).length = l.length)
    (hG : ∀ l k, l.length = 2 ^ n → k < n → ∀ s, s < 2 ^ n → at0 (G l k) s = stp m k (at0 l) s) (l : List Int) (hl : l.length = 2 ^ n) {s : Nat} (hs : s < 2 ^ n) :
    at0 ((List.range n).foldl G l) s = tr m n (at0 l) s := by
  rw [← fold_tr m n _ hs]
  have key : ∀ j, j ≤ n → ∀ s, s < 2 ^ n → at0 ((List.range j).foldl G l) s = fold_ m j (at0 l) s := by
    intro j
    induction j with
    | zero => intro _ s _; rfl
    | succ j ih =>
      intro hj s hs
      rw [foldl_range_succ, fold_succ, hG _ j (by rw [foldl_length hlen, hl]) (by omega) s hs]
      unfold stp
      rw [ih (by omega) s hs, ih (by omega) _ (flip_lt hs (by omega))]
  exact key n (Nat.le_refl n) s hs
/-! ### the three ways -/
def mS (b : Int) (up : Bool) : Mx := fun x y => if x = y then 1 else if x = up then b else 0
def mG : Mx := fun x y => if x = true ∧ y = true then -1 else 1
theorem spName_stp (b : Int) (up : Bool) {n k : Nat} (hk : k < n) (l : List Int) (hl : l.length = 2 ^ n) {s : Nat} (hs : s < 2 ^ n) : at0 (spName (2 ^ n) b up l k) s = stp (mS b up) k (at0 l) s := by
  refine pass_stp (mS b up) hk (spStep (2 ^ k) b up) (spStep_length _ _ _) (fun l j h => ?_) (fun l j hl hj h s hs => ?_) l hl s hs
  · unfold spStep
    rw [if_neg (fun z => by rw [and_bit] at z; rw [z] at h; cases h)]
  · have hj2 := flip_lt hj hk
    unfold spStep
    rw [if_pos ((and_bit j k).mpr h), or_bit h]
    cases up with
    | true =>
      rw [if_pos rfl, at0_set (by omega)]
      by_cases e : s = j ^^^ 2 ^ k
      · rw [if_pos e, if_pos (.inr e)]
        subst e
        unfold stp mS
        rw [flip_bit, h, flip_flip]
        simp [at0]
      · rw [if_neg e]
        by_cases e2 : s = j
        · rw [if_pos (.inl e2)]
          subst e2
          unfold stp mS
          rw [h]
          simp
        · rw [if_neg (by rintro (z | z); exact e2 z; exact e z)]
    | false =>
      rw [if_neg (by decide), at0_set (by omega)]
      by_cases e : s = j
      · rw [if_pos e, if_pos (.inl e)]
        subst e
        unfold stp mS
        rw [h]
        simp [at0]
      · rw [if_neg e]
        by_cases e2 : s = j ^^^ 2 ^ k
        · rw [if_pos (.inr e2)]
          subst e2
          unfold stp mS
          rw [flip_bit, h]
          simp
        · rw [if_neg (by rintro (z | z); exact e z; exact e2 z)]
theorem spread_tr (b : Int) (up : Bool) {n : Nat} (l : List Int) (hl : l.length = 2 ^ n) {s : Nat} (hs : s < 2 ^ n) : at0 (spreadM n b up l) s = tr (mS b up) n (at0 l) s := by
  unfold spreadM
  rw [hl]
  exact names_tr (mS b up) (spName (2 ^ n) b up) (spName_length _ _ _) (fun l k hl hk s hs => spName_stp b up hk l hl hs) l hl hs
theorem sgName_stp {n k : Nat} (hk : k < n) (l : List Int) (hl : l.length = 2 ^ n) {s : Nat} (hs : s < 2 ^ n) : at0 (sgName (2 ^ n) l k) s = stp mG k (at0 l) s := by
  refine pass_stp mG hk (sgStep (2 ^ k)) (sgStep_length _) (fun l j h => ?_) (fun l j hl hj h s hs => ?_) l hl s hs
  · unfold sgStep
    rw [if_neg (fun z => by rw [and_bit] at z; rw [z] at h; cases h)]
  · have hj2 := flip_lt hj hk
    unfold sgStep
    rw [if_pos ((and_bit j k).mpr h), or_bit h, at0_set (by rw [List.length_set]; omega), at0_set (by omega)]
    by_cases e : s = j ^^^ 2 ^ k
    · rw [if_pos e, if_pos (.inr e)]
      subst e
      unfold stp mG
      rw [flip_bit, h, flip_flip]
      simp [at0]
      omega
    · rw [if_neg e]
      by_cases e2 : s = j
      · rw [if_pos e2, if_pos (.inl e2)]
        subst e2
        unfold stp mG
        rw [h]
        simp [at0]
      · rw [if_neg e2, if_neg (by rintro (z | z); exact e2 z; exact e z)]
theorem signed_tr {n : Nat} (l : List Int) (hl : l.length = 2 ^ n) {s : Nat} (hs : s < 2 ^ n) : at0 (signedM n l) s = tr mG n (at0 l) s := by
  unfold signedM
  rw [hl]
  exact names_tr mG (sgName (2 ^ n)) (sgName_length _) (fun l k hl hk s hs => sgName_stp hk l hl hs) l hl hs
end SS

/-! two tables put together: sums over pairs of sets, weighed by products over names -/
namespace SS
abbrev T3 := Bool → Bool → Bool → Int
def ker3 (t : T3) (n s x y : Nat) : Int := pr n fun k => t (s.testBit k) (x.testBit k) (y.testBit k)
def conv (t : T3) (n : Nat) (f g : Nat → Int) (s : Nat) : Int := sm (2 ^ n) fun x => sm (2 ^ n) fun y => ker3 t n s x y * (f x * g y)
theorem sm_prod (n m : Nat) (f g : Nat → Int) : sm n f * sm m g = sm n fun x => sm m fun y => f x * g y := by
  rw [← sm_mulr]
  exact sm_congr fun i _ => (sm_mul m (f i) g).symm
theorem sm_congr2 {n m : Nat} {f g : Nat → Nat → Int} (h : ∀ i j, i < n → j < m → f i j = g i j) : (sm n fun x => sm m fun y => f x y) = sm n fun x => sm m fun y => g x y :=
  sm_congr fun i hi => sm_congr fun j hj => h i j hi hj
theorem ker3_congr {t u : T3} (h : ∀ s x y, t s x y = u s x y) (n s x y : Nat) : ker3 t n s x y = ker3 u n s x y := pr_congr fun k _ => h _ _ _
theorem conv_congr {t : T3} {n : Nat} {f f' g g' : Nat → Int} (hf : ∀ o, o < 2 ^ n → f o = f' o) (hg : ∀ o, o < 2 ^ n → g o = g' o) (s : Nat) : conv t n f g s = conv t n f' g' s :=
  sm_congr2 fun x y hx hy => by rw [hf x hx, hg y hy]
theorem conv_t {t u : T3} (h : ∀ s x y, t s x y = u s x y) (n : Nat) (f g : Nat → Int) (s : Nat) : conv t n f g s = conv u n f g s := sm_congr2 fun x y _ _ => by rw [ker3_congr h]
theorem conv_smul (c : Int) (t : T3) (n : Nat) (f g : Nat → Int) (s : Nat) : conv (fun s x y => c * t s x y) n f g s = c ^ n * conv t n f g s := by
  unfold conv
  rw [← sm_mul]
  refine sm_congr fun x _ => ?_
  rw [← sm_mul]
  refine sm_congr fun y _ => ?_
  unfold ker3
  rw [pr_mul, pr_const, Int.mul_assoc]
/-- out of m, p, q -/
def t3 (m p q : Mx) : T3 := fun s x y => m s false * p false x * q false y + m s true * p true x * q true y
theorem ker_t3 (m p q : Mx) (n s x y : Nat) : sm (2 ^ n) (fun z => ker m n s z * ker p n z x * ker q n z y) = ker3 (t3 m p q) n s x y := by
  unfold ker ker3
  rw [show (fun z : Nat => pr n (fun k => m (s.testBit k) (z.testBit k)) * pr n (fun k => p (z.testBit k) (x.testBit k)) * pr n (fun k => q (z.testBit k) (y.testBit k))) = fun z : Nat => pr n (fun k => m (s.testBit k) (z.testBit k) * p (z.testBit k) (x.testBit k) * q (z.testBit k) (y.testBit k)) from funext fun z => by rw [pr_mul, pr_mul]]
  exact sm_pr n fun k b => m (s.testBit k) b * p b (x.testBit k) * q b (y.testBit k)
theorem sm_rot (n m l : Nat) (f : Nat → Nat → Nat → Int) : (sm n fun z => sm m fun x => sm l fun y => f z x y) = sm m fun x => sm l fun y => sm n fun z => f z x y := by
  rw [sm_swap]
  exact sm_congr fun x _ => sm_swap n l _
theorem tri (m p q : Mx) (n : Nat) (f g : Nat → Int) (s : Nat) : tr m n (fun z => tr p n f z * tr q n g z) s = conv (t3 m p q) n f g s := by
  show (sm (2 ^ n) fun z => ker m n s z * ((sm (2 ^ n) fun x => ker p n z x * f x) * (sm (2 ^ n) fun y => ker q n z y * g y))) = _
  rw [sm_congr (g := fun z => sm (2 ^ n) fun x => sm (2 ^ n) fun y => (ker m n s z * ker p n z x * ker q n z y) * (f x * g y)) fun z _ => by
    rw [sm_prod, ← sm_mul]
    refine sm_congr fun x _ => ?_
    rw [← sm_mul]
    refine sm_congr fun y _ => ?_
    grind]
  rw [sm_rot]
  refine sm_congr2 fun x y _ _ => ?_
  rw [sm_mulr, ker_t3]
theorem ker3_sm_l (t : T3) (m : Mx) (n s x y : Nat) : sm (2 ^ n) (fun z => ker m n s z * ker3 t n z x y) = ker3 (fun s x y => m s false * t false x y + m s true * t true x y) n s x y := by
  unfold ker ker3
  rw [show (fun z : Nat => pr n (fun k => m (s.testBit k) (z.testBit k)) * pr n (fun k => t (z.testBit k) (x.testBit k) (y.testBit k))) = fun z : Nat => pr n (fun k => m (s.testBit k) (z.testBit k) * t (z.testBit k) (x.testBit k) (y.testBit k)) from funext fun z => (pr_mul n _ _).symm]
  exact sm_pr n fun k b => m (s.testBit k) b * t b (x.testBit k) (y.testBit k)
theorem tr_conv (m : Mx) (t : T3) (n : Nat) (f g : Nat → Int) (s : Nat) : tr m n (conv t n f g) s = conv (fun s x y => m s false * t false x y + m s true * t true x y) n f g s := by
  show (sm (2 ^ n) fun z => ker m n s z * (sm (2 ^ n) fun x => sm (2 ^ n) fun y => ker3 t n z x y * (f x * g y))) = _
  rw [sm_congr (g := fun z => sm (2 ^ n) fun x => sm (2 ^ n) fun y => (ker m n s z * ker3 t n z x y) * (f x * g y)) fun z _ => by
    rw [← sm_mul]
    refine sm_congr fun x _ => ?_
    rw [← sm_mul]
    refine sm_congr fun y _ => ?_
    rw [Int.mul_assoc]]
  rw [sm_rot]
  refine sm_congr2 fun x y _ _ => ?_
  rw [sm_mulr, ker3_sm_l]
/-- sums of what is put together are the products of the sums -/
theorem tr_times {m : Mx} {t : T3} (h : ∀ s x y, m s false * t false x y + m s true * t true x y = m s x * m s y) (n : Nat) (f g : Nat → Int) (s : Nat) : tr m n (conv t n f g) s = tr m n f s * tr m n g s := by
  rw [tr_conv, conv_t h]
  unfold conv tr ker3
  rw [sm_prod]
  refine sm_congr2 fun x y _ _ => ?_
  rw [pr_mul]
  unfold ker
  grind
theorem conv_comm {t : T3} (h : ∀ s x y, t s x y = t s y x) (n : Nat) (f g : Nat → Int) (s : Nat) : conv t n f g s = conv t n g f s := by
  unfold conv
  rw [sm_swap]
  refine sm_congr2 fun x y _ _ => ?_
  rw [show ker3 t n s y x = ker3 t n s x y from pr_congr fun k _ => h _ _ _, Int.mul_comm (f y)]
theorem conv_add (t : T3) (n : Nat) (f g h : Nat → Int) (s : Nat) : conv t n (fun o => f o + g o) h s = conv t n f h s + conv t n g h s := by
  unfold conv
  rw [← sm_add]
  refine sm_congr fun x _ => ?_
  rw [← sm_add]
  refine sm_congr fun y _ => ?_
  grind
theorem conv_addr (t : T3) (n : Nat) (f g h : Nat → Int) (s : Nat) : conv t n f (fun o => g o + h o) s = conv t n f g s + conv t n f h s := by
  unfold conv
  rw [← sm_add]
  refine sm_congr fun x _ => ?_
  rw [← sm_add]
  refine sm_congr fun y _ => ?_
  grind
theorem ker3_ll (t : T3) (n s x y w : Nat) : sm (2 ^ n) (fun z => ker3 t n s z w * ker3 t n z x y) = pr n fun k => t (s.testBit k) false (w.testBit k) * t false (x.testBit k) (y.testBit k) + t (s.testBit k) true (w.testBit k) * t true (x.testBit k) (y.testBit k) := by
  unfold ker3
  rw [show (fun z : Nat => pr n (fun k => t (s.testBit k) (z.testBit k) (w.testBit k)) * pr n (fun k => t (z.testBit k) (x.testBit k) (y.testBit k))) = fun z : Nat => pr n (fun k => t (s.testBit k) (z.testBit k) (w.testBit k) * t (z.testBit k) (x.testBit k) (y.testBit k)) from funext fun z => (pr_mul n _ _).symm]
  exact sm_pr n fun k b => t (s.testBit k) b (w.testBit k) * t b (x.testBit k) (y.testBit k)
theorem ker3_rr (t : T3) (n s x y w : Nat) : sm (2 ^ n) (fun z => ker3 t n s x z * ker3 t n z y w) = pr n fun k => t (s.testBit k) (x.testBit k) false * t false (y.testBit k) (w.testBit k) + t (s.testBit k) (x.testBit k) true * t true (y.testBit k) (w.testBit k) := by
  unfold ker3
  rw [show (fun z : Nat => pr n (fun k => t (s.testBit k) (x.testBit k) (z.testBit k)) * pr n (fun k => t (z.testBit k) (y.testBit k) (w.testBit k))) = fun z : Nat => pr n (fun k => t (s.testBit k) (x.testBit k) (z.testBit k) * t (z.testBit k) (y.testBit k) (w.testBit k)) from funext fun z => (pr_mul n _ _).symm]
  exact sm_pr n fun k b => t (s.testBit k) (x.testBit k) b * t b (y.testBit k) (w.testBit k)
theorem sm_rot2 (n m : Nat) (f : Nat → Nat → Nat → Nat → Int) : (sm n fun z => sm n fun w => sm m fun x => sm m fun y => f z w x y) = sm m fun x => sm m fun y => sm n fun w => sm n fun z => f z w x y := by
  rw [sm_congr (g := fun z => sm m fun x => sm m fun y => sm n fun w => f z w x y) fun z _ => sm_rot n m m _]
  rw [sm_rot]
  exact sm_congr2 fun x y _ _ => sm_swap n n _
theorem conv_assoc {t : T3} (h : ∀ s x y w, t s false w * t false x y + t s true w * t true x y = t s x false * t false y w + t s x true * t true y w) (n : Nat) (f g u : Nat → Int) (s : Nat) :
    conv t n (conv t n f g) u s = conv t n f (conv t n g u) s := by
  have l : conv t n (conv t n f g) u s = sm (2 ^ n) fun x => sm (2 ^ n) fun y => sm (2 ^ n) fun w => (sm (2 ^ n) fun z => ker3 t n s z w * ker3 t n z x y) * (f x * g y * u w) := by
    show (sm (2 ^ n) fun z => sm (2 ^ n) fun w => ker3 t n s z w * ((sm (2 ^ n) fun x => sm (2 ^ n) fun y => ker3 t n z x y * (f x * g y)) * u w)) = _
    rw [sm_congr2 (g := fun z w => sm (2 ^ n) fun x => sm (2 ^ n) fun y => (ker3 t n s z w * ker3 t n z x y) * (f x * g y * u w)) fun z w _ _ => by
      rw [← sm_mulr, ← sm_mul]
      refine sm_congr fun x _ => ?_
      rw [← sm_mulr, ← sm_mul]
      refine sm_congr fun y _ => ?_
      grind]
    rw [sm_rot2]
    exact sm_congr2 fun x y _ _ => sm_congr fun w _ => sm_mulr _ _ _
  have r : conv t n f (conv t n g u) s = sm (2 ^ n) fun x => sm (2 ^ n) fun y => sm (2 ^ n) fun w => (sm (2 ^ n) fun z => ker3 t n s x z * ker3 t n z y w) * (f x * g y * u w) := by
    show (sm (2 ^ n) fun x => sm (2 ^ n) fun z => ker3 t n s x z * (f x * (sm (2 ^ n) fun y => sm (2 ^ n) fun w => ker3 t n z y w * (g y * u w)))) = _
    refine sm_congr fun x _ => ?_
    rw [sm_congr (g := fun z => sm (2 ^ n) fun y => sm (2 ^ n) fun w => (ker3 t n s x z * ker3 t n z y w) * (f x * g y * u w)) fun z _ => by
      rw [← sm_mul, ← sm_mul]
      refine sm_congr fun y _ => ?_
      rw [← sm_mul, ← sm_mul]
      refine sm_congr fun w _ => ?_
      grind]
    rw [sm_rot]
    exact sm_congr2 fun y w _ _ => sm_mulr _ _ _
  rw [l, r]
  refine sm_congr2 fun x y _ _ => sm_congr fun w _ => ?_
  rw [ker3_ll, ker3_rr, pr_congr fun k _ => h _ _ _ _]
/-- a table that changes nothing -/
theorem conv_unit {t : T3} {n e : Nat} (he : e < 2 ^ n) (h : ∀ k s x, k < n → t s x (e.testBit k) = mI s x) (f : Nat → Int) {s : Nat} (hs : s < 2 ^ n) : conv t n f (fun y => if y = e then 1 else 0) s = f s := by
  rw [← tr_I (f := f) hs]
  unfold conv tr
  refine sm_congr fun x _ => ?_
  rw [sm_congr (g := fun y => (if y = e then 1 else 0) * (ker3 t n s x y * f x)) fun y _ => by grind, sm_at he]
  unfold ker3 ker
  rw [pr_congr (g := fun k => mI (s.testBit k) (x.testBit k)) fun k hk => h k _ _ hk]
/-! ### the four ways -/
def kOr : T3 := fun s x y => if s = (x || y) then 1 else 0
def kAnd : T3 := fun s x y => if s = (x && y) then 1 else 0
def kXor : T3 := fun s x y => if s = (x ^^ y) then 1 else 0
def kApart : T3 := fun s x y => if s = (x || y) ∧ (x && y) = false then 1 else 0
def tW : Nat → T3
  | 0 => kOr
  | 1 => kAnd
  | 2 => kXor
  | _ => kApart
theorem tW_comm (i : Nat) : ∀ s x y, tW i s x y = tW i s y x := by
  match i with
  | 0 => decide
  | 1 => decide
  | 2 => decide
  | _ + 3 => intro s x y; show kApart s x y = kApart s y x; revert s x y; decide
theorem tW_assoc (i : Nat) : ∀ s x y w, tW i s false w * tW i false x y + tW i s true w * tW i true x y = tW i s x false * tW i false y w + tW i s x true * tW i true y w := by
  match i with
  | 0 => decide
  | 1 => decide
  | 2 => decide
  | _ + 3 =>
    intro s x y w
    show kApart s false w * kApart false x y + kApart s true w * kApart true x y = kApart s x false * kApart false y w + kApart s x true * kApart true y w
    revert s x y w
    decide
end SS

/-! bounds; the products are sums over pairs -/
namespace SS
/-! ### bounds -/
theorem sm_bd {B n : Nat} {f : Nat → Int} (hB : 0 < B) (h : ∀ i, i < n → (f i).natAbs < B) (hn : 0 < n) : (sm n f).natAbs < n * B := by
  have key : ∀ m, m ≤ n → (sm m f).natAbs ≤ m * (B - 1) := by
    intro m
    induction m with
    | zero => intro _; simp [sm]
    | succ m ih =>
      intro hm
      have h1 := ih (by omega)
      have h2 := h m (by omega)
      rw [sm, Nat.succ_mul]
      omega
  have h1 := key n (Nat.le_refl n)
  have h2 : n * (B - 1) < n * B := Nat.mul_lt_mul_of_pos_left (by omega) hn
  omega
theorem pr_bd {n : Nat} {u : Nat → Int} (h : ∀ i, i < n → (u i).natAbs ≤ 1) : (pr n u).natAbs ≤ 1 := by
  induction n with
  | zero => simp [pr]
  | succ n ih =>
    rw [pr, Int.natAbs_mul]
    exact Nat.le_trans (Nat.mul_le_mul (ih fun i hi => h i (by omega)) (h n (by omega))) (Nat.le_refl _)
theorem tr_bd {m : Mx} (hm : ∀ x y, (m x y).natAbs ≤ 1) {n k : Nat} (hn : n ≤ 10) {f : Nat → Int} (h : ∀ o, o < 2 ^ n → (f o).natAbs < 2 ^ k) (s : Nat) : (tr m n f s).natAbs < 2 ^ (k + 10) := by
  have h1 : (tr m n f s).natAbs < 2 ^ n * 2 ^ k := by
    refine sm_bd (Nat.two_pow_pos k) (fun o ho => ?_) (Nat.two_pow_pos n)
    rw [Int.natAbs_mul]
    exact Nat.lt_of_le_of_lt (Nat.mul_le_mul_right _ (pr_bd fun i _ => hm _ _)) (by rw [Nat.one_mul]; exact h o ho)
  rw [← Nat.pow_add] at h1
  exact Nat.lt_of_lt_of_le h1 (Nat.pow_le_pow_right (by decide) (by omega))
theorem bd_of {k : Nat} {l : List Int} (h : ∀ s, s < l.length → (at0 l s).natAbs < 2 ^ k) : Bd k l := fun x hx => by
  obtain ⟨i, hi, rfl⟩ := List.getElem_of_mem hx
  have := h i hi
  unfold at0 at this
  rw [List.getD_eq_getElem?_getD, List.getElem?_eq_getElem hi] at this
  exact this
theorem Bd.up {j k : Nat} {l : List Int} (h : Bd j l) (hjk : j ≤ k) : Bd k l := fun x hx => Nat.lt_of_lt_of_le (h x hx) (Nat.pow_le_pow_right (by decide) hjk)
theorem mS_bd {b : Int} (hb : b.natAbs ≤ 1) (up : Bool) (x y : Bool) : (mS b up x y).natAbs ≤ 1 := by
  unfold mS
  split
  · decide
  · split
    · exact hb
    · decide
theorem mG_bd : ∀ x y, (mG x y).natAbs ≤ 1 := by decide
theorem bd_spread {n k : Nat} (hn : n ≤ 10) {l : List Int} (hl : l.length = 2 ^ n) {b : Int} (hb : b.natAbs ≤ 1) (up : Bool) (h : Bd k l) : Bd (k + 10) (spreadM n b up l) := bd_of fun s hs => by
  rw [spreadM_length, hl] at hs
  rw [spread_tr b up l hl hs]
  exact tr_bd (mS_bd hb up) hn (fun o _ => h.at o) s
theorem bd_signed {n k : Nat} (hn : n ≤ 10) {l : List Int} (hl : l.length = 2 ^ n) (h : Bd k l) : Bd (k + 10) (signedM n l) := bd_of fun s hs => by
  rw [signedM_length, hl] at hs
  rw [signed_tr l hl hs]
  exact tr_bd mG_bd hn (fun o _ => h.at o) s
theorem bd_mul {j k : Nat} {a b : List Int} (ha : Bd j a) (hb : Bd k b) : Bd (j + k) (mulM a b) := bd_of fun s hs => by
  rw [mulM_length] at hs
  unfold mulM
  rw [at0_map _ hs, Int.natAbs_mul, Nat.pow_add]
  exact Nat.mul_lt_mul'' (ha.at s) (hb.at s)
theorem bd_add {k : Nat} {a b : List Int} (ha : Bd k a) (hb : Bd k b) : Bd (k + 1) (addM a b) := bd_of fun s hs => by
  rw [addM_length] at hs
  unfold addM
  rw [at0_map _ hs, Nat.pow_succ]
  have := ha.at s
  have := hb.at s
  omega
theorem bd_rep (k n : Nat) : Bd k (List.replicate n 0) := fun x hx => by
  rw [(List.mem_replicate.mp hx).2]
  exact Nat.two_pow_pos k
theorem bd_size {k : Nat} {a : List Int} (ha : Bd k a) (j : Nat) : Bd k (ofSizeM j a) := bd_of fun s hs => by
  rw [ofSizeM_length] at hs
  unfold ofSizeM
  rw [at0_map _ hs]
  have := ha.at s
  split
  · rw [Int.mul_one]; exact this
  · rw [Int.mul_zero]; exact Nat.two_pow_pos k
theorem bd_rank {n k : Nat} (hn : n ≤ 10) {a : List Int} (hl : a.length = 2 ^ n) (ha : Bd k a) (j : Nat) : Bd (k + 10) (rankM n j a) := bd_spread hn (by rw [ofSizeM_length, hl]) (by decide) true (bd_size ha j)
theorem bd_total {n j k m : Nat} (hn : n ≤ 10) {a b : List Int} (hla : a.length = 2 ^ n) (hlb : b.length = 2 ^ n) (ha : Bd j a) (hb : Bd k b) (z : Nat) : Bd (j + k + 20 + m) (totalM n z a b m) := by
  induction m with
  | zero => exact bd_rep _ _
  | succ m ih =>
    unfold totalM at ih ⊢
    rw [foldl_range_succ]
    exact bd_add ih ((bd_mul (bd_rank hn hla ha m) (bd_rank hn hlb hb (z - m))).up (by show j + 10 + (k + 10) ≤ j + k + 20 + m; omega))
theorem bd_div {k : Nat} {l : List Int} (d : Nat) (h : Bd k l) : Bd k (l.map fun z => z / (d : Int)) := fun x hx => by
  obtain ⟨z, hz, rfl⟩ := List.mem_map.mp hx
  exact Nat.lt_of_le_of_lt (Int.natAbs_ediv_le_natAbs z d) (h z hz)
theorem bd_back {k n : Nat} (hn : n ≤ 10) {rows : Nat → List Int} (hl : ∀ i, i ≤ 10 → (rows i).length = 2 ^ n) (h : ∀ i, i ≤ 10 → Bd k (rows i)) : Bd (k + 10) (backM n rows) := fun x hx => by
  unfold backM at hx
  obtain ⟨s, _, rfl⟩ := List.mem_map.mp hx
  have hs : (bitsN s).length ≤ 10 := by
    unfold bitsN
    have := List.length_filter_le (fun i => s.testBit i) (List.range 10)
    rw [List.length_range] at this
    exact this
  exact (bd_spread hn (hl _ hs) (by decide) true (h _ hs)).at s
theorem bd_put {j k n : Nat} (hn : n ≤ 10) (way : Nat) {a b : List Int} (hla : a.length = 2 ^ n) (hlb : b.length = 2 ^ n) (ha : Bd j a) (hb : Bd k b) : Bd (j + k + 45) (putM way n a b) := by
  match way with
  | 0 => exact (bd_spread hn (by rw [mulM_length, spreadM_length, hla]) (by decide) true (bd_mul (bd_spread hn hla (by decide) true ha) (bd_spread hn hlb (by decide) true hb))).up (by omega)
  | 1 => exact (bd_spread hn (by rw [mulM_length, spreadM_length, hla]) (by decide) false (bd_mul (bd_spread hn hla (by decide) false ha) (bd_spread hn hlb (by decide) false hb))).up (by omega)
  | 2 => exact (bd_div (2 ^ n) (bd_signed hn (by rw [mulM_length, signedM_length, hla]) (bd_mul (bd_signed hn hla ha) (bd_signed hn hlb hb)))).up (by omega)
  | _ + 3 => exact (bd_back (k := j + k + 31) hn (fun i _ => (totalM_length n i a b (i + 1)).trans hla) fun i hi => (bd_total hn hla hlb ha hb i).up (by omega)).up (by omega)
theorem bd_sum {j n : Nat} (hn : n ≤ 10) (way : Nat) {a : List Int} (hla : a.length = 2 ^ n) (ha : Bd j a) : Bd (j + 10) (sumM way n a) := by
  match way with
  | 0 => exact bd_spread hn hla (by decide) true ha
  | 1 => exact bd_spread hn hla (by decide) false ha
  | _ + 2 => exact bd_signed hn hla ha
/-! ### what the four ways tell -/
theorem at0_mul {a b : List Int} {s : Nat} (h : s < a.length) : at0 (mulM a b) s = at0 a s * at0 b s := by
  unfold mulM
  rw [at0_map _ h]
theorem at0_add {a b : List Int} {s : Nat} (h : s < a.length) : at0 (addM a b) s = at0 a s + at0 b s := by
  unfold addM
  rw [at0_map _ h]
theorem at0_rep (n s : Nat) : at0 (List.replicate n 0) s = 0 := by
  unfold at0
  rw [List.getD_eq_getElem?_getD, List.getElem?_replicate]
  split <;> rfl
theorem at0_div {l : List Int} {s : Nat} (d : Int) (h : s < l.length) : at0 (l.map fun z => z / d) s = at0 l s / d := by
  unfold at0
  rw [List.getD_eq_getElem?_getD, List.getD_eq_getElem?_getD, List.getElem?_map, List.getElem?_eq_getElem h] <;> rfl
section
variable {n : Nat} {a b : List Int} (ha : a.length = 2 ^ n) (hb : b.length = 2 ^ n)
include ha hb
theorem joined_at {s : Nat} (hs : s < 2 ^ n) : at0 (joinedM n a b) s = conv kOr n (at0 a) (at0 b) s := by
  unfold joinedM
  rw [spread_tr _ _ _ (by rw [mulM_length, spreadM_length, ha]) hs, tr_congr (g := fun z => tr (mS 1 true) n (at0 a) z * tr (mS 1 true) n (at0 b) z) fun o ho => by
    rw [at0_mul (by rw [spreadM_length, ha]; exact ho), spread_tr _ _ a ha ho, spread_tr _ _ b hb ho], tri]
  exact conv_t (by decide) n _ _ s
theorem met_at {s : Nat} (hs : s < 2 ^ n) : at0 (metM n a b) s = conv kAnd n (at0 a) (at0 b) s := by
  unfold metM
  rw [spread_tr _ _ _ (by rw [mulM_length, spreadM_length, ha]) hs, tr_congr (g := fun z => tr (mS 1 false) n (at0 a) z * tr (mS 1 false) n (at0 b) z) fun o ho => by
    rw [at0_mul (by rw [spreadM_length, ha]; exact ho), spread_tr _ _ a ha ho, spread_tr _ _ b hb ho], tri]
  exact conv_t (by decide) n _ _ s
theorem signed_mul {s : Nat} (hs : s < 2 ^ n) : at0 (signedM n (mulM (signedM n a) (signedM n b))) s = 2 ^ n * conv kXor n (at0 a) (at0 b) s := by
  rw [signed_tr _ (by rw [mulM_length, signedM_length, ha]) hs, tr_congr (g := fun z => tr mG n (at0 a) z * tr mG n (at0 b) z) fun o ho => by
    rw [at0_mul (by rw [signedM_length, ha]; exact ho), signed_tr a ha ho, signed_tr b hb ho], tri, ← conv_smul]
  exact conv_t (by decide) n _ _ s
theorem crossed_at {s : Nat} (hs : s < 2 ^ n) : at0 (crossedM n a b) s = conv kXor n (at0 a) (at0 b) s := by
  unfold crossedM fromSgM
  have hp : (2 : Int) ^ n = ((2 ^ n : Nat) : Int) := by norm_cast
  rw [at0_div _ (by rw [signedM_length, mulM_length, signedM_length, ha]; exact hs), signed_mul ha hb hs, hp]
  exact Int.mul_ediv_cancel_left _ (by have := Nat.two_pow_pos n; omega)
theorem signed_div : ((signedM n (mulM (signedM n a) (signedM n b))).all fun z => decide (z % ((2 ^ n : Nat) : Int) = 0)) = true := by
  rw [List.all_eq_true]
  intro z hz
  obtain ⟨s, hs, rfl⟩ := List.getElem_of_mem hz
  have hs' : s < 2 ^ n := by
    have := hs
    rw [signedM_length, mulM_length, signedM_length, ha] at this
    exact this
  have h := signed_mul ha hb hs'
  have hp : (2 : Int) ^ n = ((2 ^ n : Nat) : Int) := by norm_cast
  unfold at0 at h
  rw [List.getD_eq_getElem?_getD, List.getElem?_eq_getElem hs, hp] at h
  rw [show (signedM n (mulM (signedM n a) (signedM n b)))[s] = _ from h]
  exact decide_eq_true (Int.mul_emod_right _ _)
end
theorem tr_sm (m : Mx) (n k : Nat) (F : Nat → Nat → Int) (s : Nat) : tr m n (fun o => sm k fun j => F j o) s = sm k fun j => tr m n (F j) s := by
  unfold tr
  rw [← sm_swap]
  exact sm_congr fun o _ => (sm_mul k _ _).symm
theorem ker_or {n s x y : Nat} (hs : s < 2 ^ n) (hx : x < 2 ^ n) (hy : y < 2 ^ n) : ker3 kOr n s x y = if s = x ||| y then 1 else 0 := by
  unfold ker3 kOr
  rw [pr_ind n (fun k => s.testBit k = (x.testBit k || y.testBit k))]
  have e : (∀ k, k < n → s.testBit k = (x.testBit k || y.testBit k)) ↔ s = x ||| y := by
    constructor
    · intro h
      exact eq_bits hs (Nat.or_lt_two_pow hx hy) fun k hk => by rw [h k hk, Nat.testBit_or]
    · rintro rfl k _
      exact Nat.testBit_or _ _ _
  by_cases h : s = x ||| y
  · rw [if_pos h, if_pos (e.mpr h)]
  · rw [if_neg h, if_neg fun z => h (e.mp z)]
theorem ker_and {n s x y : Nat} (hs : s < 2 ^ n) (hx : x < 2 ^ n) (hy : y < 2 ^ n) : ker3 kAnd n s x y = if s = x &&& y then 1 else 0 := by
  unfold ker3 kAnd
  rw [pr_ind n (fun k => s.testBit k = (x.testBit k && y.testBit k))]
  have e : (∀ k, k < n → s.testBit k = (x.testBit k && y.testBit k)) ↔ s = x &&& y := by
    constructor
    · intro h
      exact eq_bits hs (Nat.and_lt_two_pow x hy) fun k hk => by rw [h k hk, Nat.testBit_and]
    · rintro rfl k _
      exact Nat.testBit_and _ _ _
  by_cases h : s = x &&& y
  · rw [if_pos h, if_pos (e.mpr h)]
  · rw [if_neg h, if_neg fun z => h (e.mp z)]
theorem ker_xor {n s x y : Nat} (hs : s < 2 ^ n) (hx : x < 2 ^ n) (hy : y < 2 ^ n) : ker3 kXor n s x y = if s = x ^^^ y then 1 else 0 := by
  unfold ker3 kXor
  rw [pr_ind n (fun k => s.testBit k = (x.testBit k ^^ y.testBit k))]
  have e : (∀ k, k < n → s.testBit k = (x.testBit k ^^ y.testBit k)) ↔ s = x ^^^ y := by
    constructor
    · intro h
      exact eq_bits hs (Nat.xor_lt_two_pow hx hy) fun k hk => by rw [h k hk, Nat.testBit_xor]
    · rintro rfl k _
      exact Nat.testBit_xor _ _ _
  by_cases h : s = x ^^^ y
  · rw [if_pos h, if_pos (e.mpr h)]
  · rw [if_neg h, if_neg fun z => h (e.mp z)]
theorem ker_apart {n s x y : Nat} (hs : s < 2 ^ n) (hx : x < 2 ^ n) (hy : y < 2 ^ n) : ker3 kApart n s x y = if s = x ||| y ∧ x &&& y = 0 then 1 else 0 := by
  unfold ker3 kApart
  rw [pr_ind n (fun k => s.testBit k = (x.testBit k || y.testBit k) ∧ (x.testBit k && y.testBit k) = false)]
  have e : (∀ k, k < n → s.testBit k = (x.testBit k || y.testBit k) ∧ (x.testBit k && y.testBit k) = false) ↔ (s = x ||| y ∧ x &&& y = 0) := by
    constructor
    · intro h
      exact ⟨eq_bits hs (Nat.or_lt_two_pow hx hy) fun k hk => by rw [(h k hk).1, Nat.testBit_or], eq_bits (Nat.and_lt_two_pow x hy) (Nat.two_pow_pos n) fun k hk => by rw [Nat.testBit_and, (h k hk).2, Nat.zero_testBit]⟩
    · rintro ⟨rfl, h⟩ k _
      exact ⟨Nat.testBit_or _ _ _, by rw [← Nat.testBit_and, h, Nat.zero_testBit]⟩
  by_cases h : s = x ||| y ∧ x &&& y = 0
  · rw [if_pos h, if_pos (e.mpr h)]
  · rw [if_neg h, if_neg fun z => h (e.mp z)]
def szN (x : Nat) : Nat := (bitsN x).length
def sizesChk : Bool := (List.range 32).all fun x => (List.range 32).all fun y => decide (szN x + szN y = szN (x ||| y)) == decide (x &&& y = 0)
theorem sizesChk_ok : sizesChk = true := by decide +kernel
theorem sizes {x y : Nat} (hx : x < 32) (hy : y < 32) : szN x + szN y = szN (x ||| y) ↔ x &&& y = 0 := by
  have h1 := List.all_eq_true.mp sizesChk_ok x (List.mem_range.mpr hx)
  have h2 := List.all_eq_true.mp h1 y (List.mem_range.mpr hy)
  rw [beq_iff_eq, decide_eq_decide] at h2
  exact h2
theorem two_sizes (p q z : Nat) : sm (z + 1) (fun j => (if p = j then 1 else 0) * (if q = z - j then 1 else 0)) = if p + q = z then 1 else 0 := by
  by_cases h : p ≤ z
  · rw [sm_congr (g := fun j => (if j = p then 1 else 0) * (if q = z - j then 1 else 0)) fun j _ => by
      by_cases e : p = j
      · rw [if_pos e, if_pos e.symm]
      · rw [if_neg e, if_neg (Ne.symm e)], sm_at (by omega)]
    by_cases e : q = z - p
    · rw [if_pos e, if_pos (by omega)]
    · rw [if_neg e, if_neg (by omega)]
  · rw [if_neg (by omega), sm_congr (g := fun _ => 0) fun j hj => by rw [if_neg (by omega), Int.zero_mul], sm_zero]
section
variable {n : Nat} {a b : List Int} (ha : a.length = 2 ^ n) (hb : b.length = 2 ^ n)
include ha hb
theorem total_at (z m : Nat) {s : Nat} (hs : s < 2 ^ n) : at0 (totalM n z a b m) s = sm m fun j => tr (mS 1 true) n (at0 (ofSizeM j a)) s * tr (mS 1 true) n (at0 (ofSizeM (z - j) b)) s := by
  induction m with
  | zero => exact at0_rep _ _
  | succ m ih =>
    have hl : (totalM n z a b m).length = 2 ^ n := (totalM_length n z a b m).trans ha
    unfold totalM at ih hl ⊢
    rw [foldl_range_succ, sm, ← ih, at0_add (by rw [hl]; exact hs), at0_mul (by rw [rankM_length, ha]; exact hs)]
    unfold rankM
    rw [spread_tr _ _ _ (by rw [ofSizeM_length, ha]) hs, spread_tr _ _ _ (by rw [ofSizeM_length, hb]) hs]
theorem apart_at (hn : n ≤ 5) {s : Nat} (hs : s < 2 ^ n) : at0 (apartM n a b) s = conv kApart n (at0 a) (at0 b) s := by
  have h32 : 2 ^ n ≤ 32 := Nat.pow_le_pow_right (by decide) hn
  unfold apartM backM
  rw [at0_map _ hs]
  show at0 (spreadM n (-1) true (totalM n (szN s) a b (szN s + 1))) s = _
  rw [spread_tr _ _ _ (by rw [totalM_length, ha]) hs, tr_congr (fun o ho => total_at ha hb (szN s) (szN s + 1) ho), tr_sm]
  rw [sm_congr (g := fun j => sm (2 ^ n) fun x => sm (2 ^ n) fun y => ker3 kOr n s x y * ((at0 a x * (if szN x = j then 1 else 0)) * (at0 b y * (if szN y = szN s - j then 1 else 0)))) fun j _ => by
    rw [tri, conv_t (u := kOr) (by decide)]
    refine sm_congr2 fun x y hx hy => ?_
    unfold ofSizeM
    rw [at0_map _ (by omega), at0_map _ (by omega)]
    rfl]
  rw [sm_rot]
  refine sm_congr2 fun x y hx hy => ?_
  rw [sm_congr (g := fun j => ker3 kOr n s x y * (at0 a x * at0 b y) * ((if szN x = j then 1 else 0) * (if szN y = szN s - j then 1 else 0))) fun j _ => by grind, sm_mul, two_sizes, ker_or hs hx hy, ker_apart hs hx hy]
  have hxy := sizes (show x < 32 by omega) (show y < 32 by omega)
  by_cases h : s = x ||| y
  · subst h
    by_cases h2 : x &&& y = 0
    · rw [if_pos rfl, if_pos (hxy.mpr h2), if_pos ⟨rfl, h2⟩]
      omega
    · rw [if_pos rfl, if_neg fun z => h2 (hxy.mp z), if_neg fun z => h2 z.2]
      omega
  · rw [if_neg h, if_neg (c := s = x ||| y ∧ x &&& y = 0) fun z => h z.1]
    simp
theorem put_at (way : Nat) (hn : n ≤ 5) {s : Nat} (hs : s < 2 ^ n) : at0 (putM way n a b) s = conv (tW way) n (at0 a) (at0 b) s := by
  match way with
  | 0 => exact joined_at ha hb hs
  | 1 => exact met_at ha hb hs
  | 2 => exact crossed_at ha hb hs
  | _ + 3 => exact apart_at ha hb hn hs
end
def mW : Nat → Mx
  | 0 => mS 1 true
  | 1 => mS 1 false
  | _ => mG
theorem sum_at (way : Nat) {n : Nat} {a : List Int} (ha : a.length = 2 ^ n) {s : Nat} (hs : s < 2 ^ n) : at0 (sumM way n a) s = tr (mW way) n (at0 a) s := by
  match way with
  | 0 => exact spread_tr _ _ _ ha hs
  | 1 => exact spread_tr _ _ _ ha hs
  | _ + 2 => exact signed_tr _ ha hs
theorem ext_n {n : Nat} {a b : List Int} (ha : a.length = 2 ^ n) (hb : b.length = 2 ^ n) (h : ∀ s, s < 2 ^ n → at0 a s = at0 b s) : a = b := ext0 (ha.trans hb.symm) fun s hs => h s (by omega)
end SS

/-! there and back; the contrary -/
namespace SS
theorem tr_m {m p : Mx} (h : ∀ x y, m x y = p x y) (n : Nat) (f : Nat → Int) (s : Nat) : tr m n f s = tr p n f s := by
  unfold tr ker
  exact sm_congr fun o _ => by rw [pr_congr fun k _ => h _ _]
theorem spread_inv {b c : Int} {up : Bool} (h : ∀ x y, mm (mS b up) (mS c up) x y = mI x y) {n : Nat} {l : List Int} (hl : l.length = 2 ^ n) : spreadM n b up (spreadM n c up l) = l := by
  have h1 : (spreadM n c up l).length = 2 ^ n := (spreadM_length _ _ _ _).trans hl
  refine ext_n ((spreadM_length _ _ _ _).trans h1) hl fun s hs => ?_
  rw [spread_tr _ _ _ h1 hs, tr_congr (g := tr (mS c up) n (at0 l)) fun o ho => spread_tr _ _ l hl ho, tr_mm, tr_m h, tr_I hs]
theorem back_below {n : Nat} {l : List Int} (hl : l.length = 2 ^ n) : spreadM n (-1) true (spreadM n 1 true l) = l := spread_inv (by decide) hl
theorem below_back {n : Nat} {l : List Int} (hl : l.length = 2 ^ n) : spreadM n 1 true (spreadM n (-1) true l) = l := spread_inv (by decide) hl
theorem back_above {n : Nat} {l : List Int} (hl : l.length = 2 ^ n) : spreadM n (-1) false (spreadM n 1 false l) = l := spread_inv (by decide) hl
theorem above_back {n : Nat} {l : List Int} (hl : l.length = 2 ^ n) : spreadM n 1 false (spreadM n (-1) false l) = l := spread_inv (by decide) hl
theorem signed_twice {n : Nat} {l : List Int} (hl : l.length = 2 ^ n) : signedM n (signedM n l) = l.map fun z => z * ((2 ^ n : Nat) : Int) := by
  have h1 : (signedM n l).length = 2 ^ n := (signedM_length _ _).trans hl
  have hp : (2 : Int) ^ n = ((2 ^ n : Nat) : Int) := by norm_cast
  refine ext_n ((signedM_length _ _).trans h1) (by rw [List.length_map, hl]) fun s hs => ?_
  rw [signed_tr _ h1 hs, tr_congr (g := tr mG n (at0 l)) fun o ho => signed_tr l hl ho, tr_mm, tr_m (p := fun x y => 2 * mI x y) (by decide)]
  have e : tr (fun x y => 2 * mI x y) n (at0 l) s = 2 ^ n * tr mI n (at0 l) s := by
    unfold tr
    rw [← sm_mul]
    exact sm_congr fun o _ => by rw [ker_smul, Int.mul_assoc]
  rw [e, tr_I hs, hp]
  unfold at0
  rw [List.getD_eq_getElem?_getD, List.getD_eq_getElem?_getD, List.getElem?_map, List.getElem?_eq_getElem (show s < l.length by omega)]
  exact Int.mul_comm _ _
theorem signed_back {n : Nat} {l : List Int} (hl : l.length = 2 ^ n) : fromSgM n (signedM n l) = l ∧ ((signedM n (signedM n l)).all fun z => decide (z % ((2 ^ n : Nat) : Int) = 0)) = true := by
  have hp := Nat.two_pow_pos n
  unfold fromSgM
  rw [signed_twice hl]
  constructor
  · rw [List.map_map]
    conv => rhs; rw [← List.map_id l]
    exact List.map_congr_left fun z _ => Int.mul_ediv_cancel z (by omega)
  · rw [List.all_eq_true]
    intro z hz
    obtain ⟨y, _, rfl⟩ := List.mem_map.mp hz
    exact decide_eq_true (Int.mul_emod_left _ _)
theorem sm_rev (n : Nat) (f : Nat → Int) : sm n f = sm n fun i => f (n - 1 - i) := by
  induction n generalizing f with
  | zero => rfl
  | succ n ih =>
    rw [sm, Nat.add_comm n 1, sm_app, Nat.add_comm 1 n]
    show sm n f + f n = (0 + f (n + 1 - 1 - 0)) + _
    rw [ih]
    have e : sm n (fun i => f (n + 1 - 1 - (1 + i))) = sm n fun i => f (n - 1 - i) := sm_congr fun i hi => by rw [show n + 1 - 1 - (1 + i) = n - 1 - i by omega]
    rw [e, show n + 1 - 1 - 0 = n by omega]
    omega
theorem bit_rev {n s k : Nat} (hs : s < 2 ^ n) (hk : k < n) : (2 ^ n - 1 - s).testBit k = !s.testBit k := by
  rw [show 2 ^ n - 1 - s = 2 ^ n - (s + 1) by omega, Nat.testBit_two_pow_sub_succ hs, decide_eq_true hk, Bool.true_and]
theorem at0_rev {l : List Int} {s : Nat} (hs : s < l.length) : at0 l.reverse s = at0 l (l.length - 1 - s) := by
  unfold at0
  rw [List.getD_eq_getElem?_getD, List.getD_eq_getElem?_getD, List.getElem?_reverse hs]
theorem rev_map {l : List Int} {N : Nat} (hl : l.length = N) : l.reverse = (List.range N).map fun i => at0 l (N - 1 - i) := by
  refine ext0 (by rw [List.length_reverse, List.length_map, List.length_range, hl]) fun s hs => ?_
  rw [List.length_reverse, hl] at hs
  rw [at0_rev (by rw [hl]; exact hs), at0_map _ hs, hl]
theorem contrary_above {n : Nat} {l : List Int} (hl : l.length = 2 ^ n) : spreadM n 1 false l = (spreadM n 1 true l.reverse).reverse := by
  have hr : l.reverse.length = 2 ^ n := by rw [List.length_reverse, hl]
  have h1 : (spreadM n 1 true l.reverse).length = 2 ^ n := (spreadM_length _ _ _ _).trans hr
  have hp := Nat.two_pow_pos n
  refine ext_n ((spreadM_length _ _ _ _).trans hl) (by rw [List.length_reverse, h1]) fun s hs => ?_
  rw [spread_tr _ _ _ hl hs, at0_rev (by rw [h1]; exact hs), h1, spread_tr _ _ _ hr (by omega)]
  unfold tr
  rw [sm_rev]
  refine sm_congr fun o ho => ?_
  rw [at0_rev (by rw [hl]; exact ho), hl]
  congr 1
  refine pr_congr fun k hk => ?_
  rw [bit_rev hs hk, bit_rev ho hk]
  generalize s.testBit k = x
  generalize o.testBit k = y
  revert x y
  decide
end SS

/-! the laws' own sums over pairs -/
namespace SS
theorem dueStep_at {ok : Nat → Nat → Bool} {spot : Nat → Nat → Nat} {A B L : List Int} {x y N s : Nat} (hL : L.length = N) (hs : ok x y = true → spot x y < N) : at0 (dueStep ok spot A B x L y) s = at0 L s + (if ok x y = true ∧ s = spot x y then 1 else 0) * (at0 A x * at0 B y) := by
  unfold dueStep
  by_cases h : ok x y = true
  · have hsp := hs h
    rw [if_pos h, at0_set (by rw [hL]; exact hsp)]
    by_cases e : s = spot x y
    · rw [if_pos e, if_pos ⟨h, e⟩, e, Int.one_mul]
    · rw [if_neg e, if_neg (c := ok x y = true ∧ s = spot x y) (fun z => e z.2), Int.zero_mul, Int.add_zero]
  · rw [if_neg h, if_neg (c := ok x y = true ∧ s = spot x y) (fun z => h z.1), Int.zero_mul, Int.add_zero]
theorem dueRow_at {ok : Nat → Nat → Bool} {spot : Nat → Nat → Nat} {A B L : List Int} {x N s : Nat} (hL : L.length = N) (hs : ∀ y, y < N → ok x y = true → spot x y < N) : at0 (dueRow N ok spot A B L x) s = at0 L s + sm N fun y => (if ok x y = true ∧ s = spot x y then 1 else 0) * (at0 A x * at0 B y) := by
  unfold dueRow
  have key : ∀ m, m ≤ N → at0 ((List.range m).foldl (dueStep ok spot A B x) L) s = at0 L s + sm m fun y => (if ok x y = true ∧ s = spot x y then 1 else 0) * (at0 A x * at0 B y) := by
    intro m
    induction m with
    | zero => intro _; exact (Int.add_zero _).symm
    | succ m ih =>
      intro hm
      rw [foldl_range_succ, dueStep_at (N := N) (by rw [foldl_length (dueStep_length _ _ _ _ _), hL]) (hs m (by omega)), ih (by omega), sm]
      omega
  exact key N (Nat.le_refl N)
theorem dueP_at {ok : Nat → Nat → Bool} {spot : Nat → Nat → Nat} {A B : List Int} {N s : Nat} (hs : ∀ x y, x < N → y < N → ok x y = true → spot x y < N) : at0 (dueP N ok spot A B) s = sm N fun x => sm N fun y => (if ok x y = true ∧ s = spot x y then 1 else 0) * (at0 A x * at0 B y) := by
  unfold dueP
  have key : ∀ m, m ≤ N → at0 ((List.range m).foldl (dueRow N ok spot A B) (List.replicate N 0)) s = sm m fun x => sm N fun y => (if ok x y = true ∧ s = spot x y then 1 else 0) * (at0 A x * at0 B y) := by
    intro m
    induction m with
    | zero => intro _; exact at0_rep _ _
    | succ m ih =>
      intro hm
      rw [foldl_range_succ, dueRow_at (by rw [foldl_length (dueRow_length _ _ _ _ _), List.length_replicate]) (fun y hy => hs m y (by omega) hy), ih (by omega), sm]
  exact key N (Nat.le_refl N)
theorem pairs {n : Nat} {A B R : List Int} {t : T3} {ok : Nat → Nat → Bool} {spot : Nat → Nat → Nat} (hR : R.length = 2 ^ n) (hs : ∀ x y, x < 2 ^ n → y < 2 ^ n → ok x y = true → spot x y < 2 ^ n)
    (hat : ∀ s, s < 2 ^ n → at0 R s = conv t n (at0 A) (at0 B) s) (hk : ∀ s x y, s < 2 ^ n → x < 2 ^ n → y < 2 ^ n → ker3 t n s x y = if ok x y = true ∧ s = spot x y then 1 else 0) : R = dueP (2 ^ n) ok spot A B :=
  ext_n hR (dueP_length _ _ _ _ _) fun s hs' => by
    rw [hat s hs', dueP_at hs]
    exact sm_congr2 fun x y hx hy => by rw [hk s x y hs' hx hy]
section
variable {n : Nat} {A B : List Int} (hA : A.length = 2 ^ n) (hB : B.length = 2 ^ n)
include hA hB
theorem joined_due : joinedM n A B = dueP (2 ^ n) (fun _ _ => true) (fun x y => x ||| y) A B := pairs ((joinedM_length _ _ _).trans hA) (fun x y hx hy _ => Nat.or_lt_two_pow hx hy) (fun s hs => joined_at hA hB hs) fun s x y hs hx hy => by
  rw [ker_or hs hx hy]
  by_cases h : s = x ||| y
  · rw [if_pos h, if_pos ⟨rfl, h⟩]
  · rw [if_neg h, if_neg (c := true = true ∧ s = x ||| y) (fun z => h z.2)]
theorem met_due : metM n A B = dueP (2 ^ n) (fun _ _ => true) (fun x y => x &&& y) A B := pairs ((metM_length _ _ _).trans hA) (fun x y hx hy _ => Nat.and_lt_two_pow x hy) (fun s hs => met_at hA hB hs) fun s x y hs hx hy => by
  rw [ker_and hs hx hy]
  by_cases h : s = x &&& y
  · rw [if_pos h, if_pos ⟨rfl, h⟩]
  · rw [if_neg h, if_neg (c := true = true ∧ s = x &&& y) (fun z => h z.2)]
theorem crossed_due : crossedM n A B = dueP (2 ^ n) (fun _ _ => true) (fun x y => x ^^^ y) A B := pairs ((crossedM_length _ _ _).trans hA) (fun x y hx hy _ => Nat.xor_lt_two_pow hx hy) (fun s hs => crossed_at hA hB hs) fun s x y hs hx hy => by
  rw [ker_xor hs hx hy]
  by_cases h : s = x ^^^ y
  · rw [if_pos h, if_pos ⟨rfl, h⟩]
  · rw [if_neg h, if_neg (c := true = true ∧ s = x ^^^ y) (fun z => h z.2)]
theorem or_xor {x y : Nat} (h : x &&& y = 0) : x ||| y = x ^^^ y := Nat.eq_of_testBit_eq fun k => by
  have h1 : (x &&& y).testBit k = false := by rw [h, Nat.zero_testBit]
  rw [Nat.testBit_and] at h1
  rw [Nat.testBit_or, Nat.testBit_xor]
  generalize x.testBit k = u at *
  generalize y.testBit k = v at *
  revert u v
  decide
theorem apart_due (hn : n ≤ 5) : apartM n A B = dueP (2 ^ n) (fun x y => decide (x &&& y = 0)) (fun x y => x ^^^ y) A B := pairs (apartM_length _ _ _) (fun x y hx hy _ => Nat.xor_lt_two_pow hx hy) (fun s hs => apart_at hA hB hn hs) fun s x y hs hx hy => by
  rw [ker_apart hs hx hy]
  by_cases h : x &&& y = 0
  · rw [← or_xor hA hB h]
    by_cases h2 : s = x ||| y
    · rw [if_pos ⟨h2, h⟩, if_pos ⟨decide_eq_true h, h2⟩]
    · rw [if_neg (c := s = x ||| y ∧ x &&& y = 0) (fun z => h2 z.1), if_neg (c := decide (x &&& y = 0) = true ∧ s = x ||| y) (fun z => h2 z.2)]
  · rw [if_neg (c := s = x ||| y ∧ x &&& y = 0) (fun z => h z.2), if_neg (c := decide (x &&& y = 0) = true ∧ s = x ^^^ y) (fun z => h (of_decide_eq_true z.1))]
end
end SS

/-! sets by their bits; names told otherwise -/
namespace SS
theorem sum_cast (l : List Nat) : (l.map fun i : Nat => (i : Int)).sum = ((l.sum : Nat) : Int) := by
  induction l with
  | nil => rfl
  | cons a l ih => rw [List.map_cons, List.sum_cons, List.sum_cons, ih, Int.natCast_add]
def mkN : Nat → (Nat → Bool) → Nat
  | 0, _ => 0
  | n + 1, b => mkN n b + if b n = true then 2 ^ n else 0
theorem mkN_lt (n : Nat) (b : Nat → Bool) : mkN n b < 2 ^ n := by
  induction n with
  | zero => exact Nat.one_pos
  | succ n ih =>
    rw [mkN, Nat.pow_succ]
    split <;> omega
theorem mkN_bit {n k : Nat} (b : Nat → Bool) (h : k < n) : (mkN n b).testBit k = b k := by
  induction n with
  | zero => omega
  | succ n ih =>
    rw [mkN]
    have hl := mkN_lt n b
    rcases Nat.lt_succ_iff_lt_or_eq.mp h with h1 | h1
    · split
      · rw [Nat.add_comm, bit_add hl h1, ih h1]
      · rw [Nat.add_zero, ih h1]
    · subst h1
      cases hb : b k with
      | true => rw [if_pos rfl, Nat.add_comm, bit_top hl]
      | false => rw [if_neg (by decide), Nat.add_zero, bit_low hl]
theorem mkN_congr {n : Nat} {b c : Nat → Bool} (h : ∀ k, k < n → b k = c k) : mkN n b = mkN n c := by
  induction n with
  | zero => rfl
  | succ n ih => rw [mkN, mkN, ih fun k hk => h k (by omega), h n (by omega)]
theorem mkN_self {n s : Nat} (h : s < 2 ^ n) : mkN n s.testBit = s := eq_bits (mkN_lt _ _) h fun k hk => mkN_bit _ hk
theorem mkN_false (n : Nat) : mkN n (fun _ => false) = 0 := by
  induction n with
  | zero => rfl
  | succ n ih => rw [mkN, ih] <;> rfl
theorem mkN_add {n a : Nat} {b : Nat → Bool} (ha : a < n) (hb : b a = false) : 2 ^ a + mkN n b = mkN n (fun j => b j || decide (j = a)) := by
  induction n with
  | zero => omega
  | succ n ih =>
    rw [mkN, mkN]
    rcases Nat.lt_succ_iff_lt_or_eq.mp ha with h | h
    · rw [← ih h, decide_eq_false (show ¬ n = a by omega), Bool.or_false]
      omega
    · subst h
      rw [show mkN a (fun j => b j || decide (j = a)) = mkN a b from mkN_congr fun k hk => by rw [decide_eq_false (show ¬ k = a by omega), Bool.or_false], hb, decide_eq_true rfl]
      simp
      omega
theorem sum_pows {n : Nat} {l : List Nat} (nd : l.Nodup) (hl : ∀ a ∈ l, a < n) : (l.map fun a => 2 ^ a).sum = mkN n (fun j => decide (j ∈ l)) := by
  induction l with
  | nil =>
    rw [mkN_congr (c := fun _ => false) fun k _ => by simp, mkN_false]
    rfl
  | cons a l ih =>
    rw [List.nodup_cons] at nd
    rw [List.map_cons, List.sum_cons, ih nd.2 fun x hx => hl x (List.mem_cons_of_mem _ hx), mkN_add (hl a (List.mem_cons_self ..)) (decide_eq_false nd.1)]
    refine mkN_congr fun k _ => ?_
    by_cases h : k = a
    · simp [h]
    · simp [h]
theorem bitsN_nodup (s : Nat) : (bitsN s).Nodup := List.nodup_range.sublist List.filter_sublist
theorem bitsN_mem {n s k : Nat} (hn : n ≤ 10) (hs : s < 2 ^ n) : k ∈ bitsN s ↔ k < n ∧ s.testBit k = true := by
  rw [← bits_below hn (Nat.div_eq_of_lt hs), List.mem_filter, List.mem_range]
section
variable {n : Nat} {ord : List Nat} (hn : n ≤ 10) (hp : List.Perm ord (List.range n))
include hp
theorem ord_len : ord.length = n := by rw [hp.length_eq, List.length_range]
theorem ord_lt {k : Nat} (hk : k < n) : ord.getD k 0 < n := by
  have hl := ord_len hp
  rw [List.getD_eq_getElem?_getD, List.getElem?_eq_getElem (by omega)]
  exact List.mem_range.mp (hp.mem_iff.mp (List.getElem_mem _))
theorem ord_inj {j k : Nat} (hj : j < n) (hk : k < n) (h : ord.getD j 0 = ord.getD k 0) : j = k := by
  have hl := ord_len hp
  have nd : ord.Nodup := hp.nodup_iff.mpr List.nodup_range
  rw [List.getD_eq_getElem?_getD, List.getD_eq_getElem?_getD, List.getElem?_eq_getElem (show j < ord.length by omega), List.getElem?_eq_getElem (show k < ord.length by omega)] at h
  exact (List.getElem_inj nd).mp h
include hn
theorem reN_mk {s : Nat} (hs : s < 2 ^ n) : reN ord s = mkN n (fun j => decide (j ∈ (bitsN s).map fun k => ord.getD k 0)) := by
  unfold reN
  rw [← sum_pows (n := n) (l := (bitsN s).map fun k => ord.getD k 0), List.map_map]
  · rfl
  · unfold List.Nodup
    rw [List.pairwise_map]
    exact List.Pairwise.imp_of_mem (fun {a b} ha hb h z => h (ord_inj hp ((bitsN_mem hn hs).mp ha).1 ((bitsN_mem hn hs).mp hb).1 z)) (bitsN_nodup s)
  · intro a ha
    obtain ⟨k, hk, rfl⟩ := List.mem_map.mp ha
    exact ord_lt hp ((bitsN_mem hn hs).mp hk).1
theorem reN_lt {s : Nat} (hs : s < 2 ^ n) : reN ord s < 2 ^ n := by
  rw [reN_mk hn hp hs]
  exact mkN_lt _ _
/-- the set's name k is ord[k] -/
theorem reN_bit {s k : Nat} (hs : s < 2 ^ n) (hk : k < n) : (reN ord s).testBit (ord.getD k 0) = s.testBit k := by
  rw [reN_mk hn hp hs, mkN_bit _ (ord_lt hp hk)]
  cases h : s.testBit k with
  | true => exact decide_eq_true (List.mem_map.mpr ⟨k, (bitsN_mem hn hs).mpr ⟨hk, h⟩, rfl⟩)
  | false =>
    refine decide_eq_false fun hm => ?_
    obtain ⟨j, hj, e⟩ := List.mem_map.mp hm
    obtain ⟨hj1, hj2⟩ := (bitsN_mem hn hs).mp hj
    have := ord_inj hp hj1 hk e
    subst this
    rw [h] at hj2
    cases hj2
end
end SS

/-! sums and tables put together, the names told by an order -/
namespace SS
def lprod (l : List Int) : Int := l.foldr (· * ·) 1
theorem lprod_snoc (l : List Int) (a : Int) : lprod (l ++ [a]) = lprod l * a := by
  unfold lprod
  induction l with
  | nil => simp
  | cons b l ih => rw [List.cons_append, List.foldr_cons, List.foldr_cons, ih, Int.mul_assoc]
theorem pr_lprod (n : Nat) (u : Nat → Int) : pr n u = lprod ((List.range n).map u) := by
  induction n with
  | zero => rfl
  | succ n ih => rw [pr, ih, List.range_succ, List.map_append, List.map_cons, List.map_nil, lprod_snoc]
theorem lprod_perm {l m : List Int} (h : l.Perm m) : lprod l = lprod m := h.foldr_eq' (fun x _ y _ z => by rw [← Int.mul_assoc, ← Int.mul_assoc, Int.mul_comm y x]) 1
section
variable {n : Nat} {ord : List Nat} (hp : List.Perm ord (List.range n))
include hp
theorem pr_ord (u : Nat → Int) : pr n (fun k => u (ord.getD k 0)) = pr n u := by
  rw [pr_lprod, pr_lprod]
  have hl := ord_len hp
  have e : (List.range n).map (fun k => u (ord.getD k 0)) = ord.map u := by
    apply List.ext_getElem
    · simp [hl]
    · intro i h1 h2
      rw [List.length_map] at h2
      rw [List.getElem_map, List.getElem_map, List.getElem_range, List.getD_eq_getElem?_getD, List.getElem?_eq_getElem h2]
      rfl
  rw [e]
  exact lprod_perm (hp.map u)
end
theorem sm_bij {N : Nat} {p r : Nat → Nat} (h1 : ∀ x, x < N → p x < N) (h2 : ∀ z, z < N → r z < N) (h : ∀ x z, x < N → z < N → (z = p x ↔ x = r z)) (f : Nat → Int) : sm N (fun x => f (p x)) = sm N f := by
  rw [sm_congr (g := fun x => sm N fun z => (if z = p x then 1 else 0) * f z) fun x hx => (sm_at (h1 x hx) f).symm, sm_swap]
  refine sm_congr fun z hz => ?_
  rw [sm_congr (g := fun x => (if x = r z then 1 else 0) * f z) fun x hx => by
    by_cases e : z = p x
    · rw [if_pos e, if_pos ((h x z hx hz).mp e)]
    · rw [if_neg e, if_neg fun q => e ((h x z hx hz).mpr q)]]
  exact sm_at (h2 z hz) (fun _ => f z)
section
variable {n : Nat} {ord : List Nat} (hn : n ≤ 10) (hp : List.Perm ord (List.range n))
include hp
theorem ord_onto {j : Nat} (hj : j < n) : ∃ k, k < n ∧ ord.getD k 0 = j := by
  have hm : j ∈ ord := hp.mem_iff.mpr (List.mem_range.mpr hj)
  obtain ⟨k, hk, e⟩ := List.getElem_of_mem hm
  refine ⟨k, by rw [← ord_len hp]; exact hk, ?_⟩
  rw [List.getD_eq_getElem?_getD, List.getElem?_eq_getElem hk]
  exact e
include hn
theorem re_iff {x z : Nat} (hx : x < 2 ^ n) (hz : z < 2 ^ n) : z = reN ord x ↔ x = mkN n fun k => z.testBit (ord.getD k 0) := by
  constructor
  · rintro rfl
    exact eq_bits hx (mkN_lt _ _) fun k hk => by rw [mkN_bit _ hk, reN_bit hn hp hx hk]
  · intro e
    refine eq_bits hz (reN_lt hn hp hx) fun j hj => ?_
    obtain ⟨k, hk, rfl⟩ := ord_onto hp hj
    rw [reN_bit hn hp hx hk, e, mkN_bit _ hk]
theorem sm_re (f : Nat → Int) : sm (2 ^ n) (fun x => f (reN ord x)) = sm (2 ^ n) f := sm_bij (r := fun z => mkN n fun k => z.testBit (ord.getD k 0)) (fun x hx => reN_lt hn hp hx) (fun z hz => mkN_lt _ _) (fun x z hx hz => re_iff hn hp hx hz) f
theorem re_tr (m : Mx) (f : Nat → Int) {s : Nat} (hs : s < 2 ^ n) : tr m n f (reN ord s) = tr m n (fun o => f (reN ord o)) s := by
  unfold tr
  rw [← sm_re hn hp]
  refine sm_congr fun o ho => ?_
  congr 1
  unfold ker
  rw [← pr_ord hp]
  exact pr_congr fun k hk => by rw [reN_bit hn hp hs hk, reN_bit hn hp ho hk]
theorem re_conv (t : T3) (f g : Nat → Int) {s : Nat} (hs : s < 2 ^ n) : conv t n f g (reN ord s) = conv t n (fun o => f (reN ord o)) (fun o => g (reN ord o)) s := by
  unfold conv
  rw [← sm_re hn hp]
  refine sm_congr fun x hx => ?_
  rw [← sm_re hn hp]
  refine sm_congr fun y hy => ?_
  congr 1
  unfold ker3
  rw [← pr_ord hp]
  exact pr_congr fun k hk => by rw [reN_bit hn hp hs hk, reN_bit hn hp hx hk, reN_bit hn hp hy hk]
end
theorem reM_length (ord : List Nat) (l : List Int) : (reM ord l).length = l.length := by unfold reM; rw [List.length_map, List.length_range]
theorem reM_at {ord : List Nat} {l : List Int} {s : Nat} (hs : s < l.length) : at0 (reM ord l) s = at0 l (reN ord s) := by unfold reM; rw [at0_map _ hs]
section
variable {n : Nat} {ord : List Nat} (hn : n ≤ 5) (hp : List.Perm ord (List.range n)) {A B : List Int} (hA : A.length = 2 ^ n) (hB : B.length = 2 ^ n)
include hn hp hA
theorem re_sum (way : Nat) : sumM way n (reM ord A) = reM ord (sumM way n A) := by
  have l1 := (reM_length ord A).trans hA
  have l2 := (sumM_length way n A).trans hA
  refine ext_n ((sumM_length _ _ _).trans l1) ((reM_length _ _).trans l2) fun s hs => ?_
  rw [sum_at way l1 hs, reM_at (by rw [l2]; exact hs), sum_at way hA (reN_lt (by omega) hp hs), re_tr (by omega) hp _ _ hs]
  exact tr_congr (fun o ho => reM_at (by rw [hA]; exact ho)) s
include hB
theorem re_put (way : Nat) : putM way n (reM ord A) (reM ord B) = reM ord (putM way n A B) := by
  have l1 := (reM_length ord A).trans hA
  have l2 := (reM_length ord B).trans hB
  have l3 := putM_length way n A B hA
  refine ext_n (putM_length _ _ _ _ l1) ((reM_length _ _).trans l3) fun s hs => ?_
  rw [put_at l1 l2 way hn hs, reM_at (by rw [l3]; exact hs), put_at hA hB way hn (reN_lt (by omega) hp hs), re_conv (by omega) hp _ _ _ hs]
  exact conv_congr (fun o ho => reM_at (by rw [hA]; exact ho)) (fun o ho => reM_at (by rw [hB]; exact ho)) s
end
/-- two orders, one behind the other -/
theorem re_re {n : Nat} (hn : n ≤ 10) {ord later : List Nat} (hp : List.Perm ord (List.range n)) (hq : List.Perm later (List.range n)) {A : List Int} (hA : A.length = 2 ^ n) :
    List.Perm (later.map fun k => ord.getD k 0) (List.range n) ∧ reM later (reM ord A) = reM (later.map fun k => ord.getD k 0) A := by
  have e0 : (List.range n).map (fun k => ord.getD k 0) = ord := by
    have := range_get ord 0
    rwa [ord_len hp] at this
  have hc : List.Perm (later.map fun k => ord.getD k 0) (List.range n) := ((hq.map _).trans (by rw [e0])).trans hp
  refine ⟨hc, ?_⟩
  have l1 := (reM_length ord A).trans hA
  refine ext_n ((reM_length _ _).trans l1) ((reM_length _ _).trans hA) fun s hs => ?_
  rw [reM_at (by rw [l1]; exact hs), reM_at (by rw [hA]; exact reN_lt hn hq hs), reM_at (by rw [hA]; exact hs)]
  congr 1
  refine eq_bits (reN_lt hn hp (reN_lt hn hq hs)) (reN_lt hn hc hs) fun j hj => ?_
  obtain ⟨k, hk, e⟩ := ord_onto hc hj
  have e2 : (later.map fun k => ord.getD k 0).getD k 0 = ord.getD (later.getD k 0) 0 := by
    have hl := ord_len hq
    rw [List.getD_eq_getElem?_getD, List.getElem?_map, List.getD_eq_getElem?_getD (l := later), List.getElem?_eq_getElem (show k < later.length by omega)]
    rfl
  rw [← e, reN_bit hn hc hs hk, e2, reN_bit hn hp (reN_lt hn hq hs) (ord_lt hq hk), reN_bit hn hq hs hk]
end SS

/-! a name more, a name fewer -/
namespace SS
/-- the set i with the name m put in, held or not -/
def insN (n m : Nat) (b : Bool) (i : Nat) : Nat := mkN (n + 1) fun k => if k < m then i.testBit k else if k = m then b else i.testBit (k - 1)
theorem insN_lt (n m : Nat) (b : Bool) (i : Nat) : insN n m b i < 2 ^ (n + 1) := mkN_lt _ _
theorem wbM_bit (m s k : Nat) : (wbM m s).testBit k = if k < m then s.testBit k else s.testBit (k + 1) := by
  unfold wbM
  rw [Nat.testBit_or, Nat.testBit_and, Nat.testBit_two_pow_sub_one, Nat.testBit_mul_two_pow]
  by_cases h : k < m
  · rw [if_pos h, decide_eq_true h, decide_eq_false (show ¬ m ≤ k by omega), Bool.and_true, Bool.false_and, Bool.or_false]
  · rw [if_neg h, decide_eq_false h, decide_eq_true (show m ≤ k by omega), Bool.and_false, Bool.true_and, Bool.false_or, Nat.testBit_div_two_pow]
    congr 1
    omega
theorem wbM_lt {n m s : Nat} (hm : m ≤ n) (hs : s < 2 ^ (n + 1)) : wbM m s < 2 ^ n := by
  refine Nat.lt_of_not_le fun h => ?_
  obtain ⟨k, hk, hb⟩ := Nat.exists_ge_and_testBit_of_ge_two_pow h
  rw [wbM_bit, if_neg (by omega), Nat.testBit_lt_two_pow (Nat.lt_of_lt_of_le hs (Nat.pow_le_pow_right (by decide) (by omega)))] at hb
  cases hb
section
variable {n m : Nat} (hm : m ≤ n)
include hm
theorem insN_bit (b : Bool) (i : Nat) {k : Nat} (hk : k < n) : (insN n m b i).testBit (if k < m then k else k + 1) = i.testBit k := by
  unfold insN
  split
  · rename_i h
    rw [mkN_bit _ (by omega), if_pos h]
  · rename_i h
    rw [mkN_bit _ (by omega), if_neg (by omega), if_neg (by omega)]
    rfl
theorem insN_own (b : Bool) (i : Nat) : (insN n m b i).testBit m = b := by
  unfold insN
  rw [mkN_bit _ (by omega), if_neg (Nat.lt_irrefl m), if_pos rfl]
theorem wb_ins (b : Bool) {i : Nat} (hi : i < 2 ^ n) : wbM m (insN n m b i) = i := eq_bits (wbM_lt hm (insN_lt _ _ _ _)) hi fun k hk => by
  rw [wbM_bit, ← insN_bit hm b i hk]
  split <;> rfl
theorem ins_iff {b : Bool} {s i : Nat} (hs : s < 2 ^ (n + 1)) (hi : i < 2 ^ n) : s = insN n m b i ↔ i = wbM m s ∧ s.testBit m = b := by
  constructor
  · rintro rfl
    exact ⟨(wb_ins hm b hi).symm, insN_own hm b i⟩
  · rintro ⟨rfl, hb⟩
    refine eq_bits hs (insN_lt _ _ _ _) fun k hk => ?_
    unfold insN
    rw [mkN_bit _ hk, wbM_bit, wbM_bit]
    by_cases h1 : k < m
    · rw [if_pos h1, if_pos h1]
    · rw [if_neg h1]
      by_cases h2 : k = m
      · rw [if_pos h2, h2, hb]
      · rw [if_neg h2, if_neg (by omega), show k - 1 + 1 = k by omega]
theorem sm_ins (b : Bool) (f : Nat → Int) : sm (2 ^ n) (fun i => f (insN n m b i)) = sm (2 ^ (n + 1)) fun s => (if s.testBit m = b then 1 else 0) * f s := by
  rw [sm_congr (g := fun i => sm (2 ^ (n + 1)) fun s => (if s = insN n m b i then 1 else 0) * f s) fun i _ => (sm_at (insN_lt n m b i) f).symm, sm_swap]
  refine sm_congr fun s hs => ?_
  by_cases h : s.testBit m = b
  · rw [if_pos h, Int.one_mul, sm_congr (g := fun i => (if i = wbM m s then 1 else 0) * f s) fun i hi => by
      by_cases e : i = wbM m s
      · rw [if_pos e, if_pos ((ins_iff hm hs hi).mpr ⟨e, h⟩)]
      · rw [if_neg e, if_neg fun z => e ((ins_iff hm hs hi).mp z).1]]
    exact sm_at (wbM_lt hm hs) (fun _ => f s)
  · rw [if_neg h, Int.zero_mul, sm_congr (g := fun _ => 0) fun i hi => by rw [if_neg fun z => h ((ins_iff hm hs hi).mp z).2, Int.zero_mul], sm_zero]
theorem sm_split (f : Nat → Int) : sm (2 ^ (n + 1)) f = sm (2 ^ n) (fun i => f (insN n m false i)) + sm (2 ^ n) (fun i => f (insN n m true i)) := by
  rw [sm_ins hm, sm_ins hm, ← sm_add]
  refine sm_congr fun s _ => ?_
  cases s.testBit m <;> simp
theorem pr_split (u : Nat → Int) : pr (n + 1) u = u m * pr n fun k => u (if k < m then k else k + 1) := by
  induction n with
  | zero =>
    have : m = 0 := by omega
    subst this
    show 1 * u 0 = u 0 * 1
    omega
  | succ n ih =>
    by_cases h : m ≤ n
    · rw [pr, ih h, pr, if_neg (show ¬ n < m by omega), Int.mul_assoc]
    · have : m = n + 1 := by omega
      subst this
      rw [pr, Int.mul_comm]
      congr 1
      exact pr_congr fun k hk => by rw [if_pos hk]
theorem ker_ins (M : Mx) (b c : Bool) (i j : Nat) : ker M (n + 1) (insN n m b i) (insN n m c j) = M b c * ker M n i j := by
  unfold ker
  rw [pr_split hm, insN_own hm, insN_own hm]
  congr 1
  exact pr_congr fun k hk => by rw [insN_bit hm b i hk, insN_bit hm c j hk]
theorem ker3_ins (t : T3) (b c d : Bool) (i j k : Nat) : ker3 t (n + 1) (insN n m b i) (insN n m c j) (insN n m d k) = t b c d * ker3 t n i j k := by
  unfold ker3
  rw [pr_split hm, insN_own hm, insN_own hm, insN_own hm]
  congr 1
  exact pr_congr fun l hl => by rw [insN_bit hm b i hl, insN_bit hm c j hl, insN_bit hm d k hl]
theorem tr_ins (M : Mx) (b : Bool) (f : Nat → Int) (i : Nat) : tr M (n + 1) f (insN n m b i) = M b false * tr M n (fun j => f (insN n m false j)) i + M b true * tr M n (fun j => f (insN n m true j)) i := by
  unfold tr
  rw [sm_split hm, ← sm_mul, ← sm_mul]
  congr 1
  · exact sm_congr fun j _ => by rw [ker_ins hm, Int.mul_assoc]
  · exact sm_congr fun j _ => by rw [ker_ins hm, Int.mul_assoc]
theorem conv_part (t : T3) (b c d : Bool) (f g : Nat → Int) (i : Nat) : (sm (2 ^ n) fun x => sm (2 ^ n) fun y => ker3 t (n + 1) (insN n m b i) (insN n m c x) (insN n m d y) * (f (insN n m c x) * g (insN n m d y))) = t b c d * conv t n (fun j => f (insN n m c j)) (fun j => g (insN n m d j)) i := by
  unfold conv
  rw [← sm_mul]
  refine sm_congr fun x _ => ?_
  rw [← sm_mul]
  exact sm_congr fun y _ => by rw [ker3_ins hm, Int.mul_assoc]
theorem conv_ins (t : T3) (b : Bool) (f g : Nat → Int) (i : Nat) : conv t (n + 1) f g (insN n m b i) =
    t b false false * conv t n (fun j => f (insN n m false j)) (fun j => g (insN n m false j)) i + t b false true * conv t n (fun j => f (insN n m false j)) (fun j => g (insN n m true j)) i +
    (t b true false * conv t n (fun j => f (insN n m true j)) (fun j => g (insN n m false j)) i + t b true true * conv t n (fun j => f (insN n m true j)) (fun j => g (insN n m true j)) i) := by
  rw [← conv_part hm, ← conv_part hm, ← conv_part hm, ← conv_part hm]
  rw [show conv t (n + 1) f g (insN n m b i) = sm (2 ^ (n + 1)) fun x => sm (2 ^ (n + 1)) fun y => ker3 t (n + 1) (insN n m b i) x y * (f x * g y) from rfl, sm_split hm]
  have e : ∀ c, (sm (2 ^ n) fun x => sm (2 ^ (n + 1)) fun y => ker3 t (n + 1) (insN n m b i) (insN n m c x) y * (f (insN n m c x) * g y)) =
      (sm (2 ^ n) fun x => sm (2 ^ n) fun y => ker3 t (n + 1) (insN n m b i) (insN n m c x) (insN n m false y) * (f (insN n m c x) * g (insN n m false y))) +
      (sm (2 ^ n) fun x => sm (2 ^ n) fun y => ker3 t (n + 1) (insN n m b i) (insN n m c x) (insN n m true y) * (f (insN n m c x) * g (insN n m true y))) := fun c => by
    rw [← sm_add]
    exact sm_congr fun x _ => sm_split hm _
  rw [e false, e true]
end
/-- the halves of a table by a name -/
def partChk : Bool := (List.range 6).all fun n => (List.range (n + 1)).all fun m => [false, true].all fun w => decide (((List.range (2 ^ (n + 1))).filter fun s => s.testBit m == w) = (List.range (2 ^ n)).map (insN n m w))
theorem partChk_ok : partChk = true := by decide +kernel
theorem part_ins {n m : Nat} (hn : n ≤ 5) (hm : m ≤ n) (w : Bool) : ((List.range (2 ^ (n + 1))).filter fun s => s.testBit m == w) = (List.range (2 ^ n)).map (insN n m w) := by
  have h1 := List.all_eq_true.mp partChk_ok n (List.mem_range.mpr (by omega))
  have h2 := List.all_eq_true.mp h1 m (List.mem_range.mpr (by omega))
  have h3 := List.all_eq_true.mp h2 w (by cases w <;> simp)
  exact of_decide_eq_true h3
theorem partM_eq {n m : Nat} (hn : n ≤ 5) (hm : m ≤ n) (w : Bool) {l : List Int} (hl : l.length = 2 ^ (n + 1)) : partM m w l = (List.range (2 ^ n)).map fun i => at0 l (insN n m w i) := by
  unfold partM
  rw [hl, part_ins hn hm, List.map_map]
  rfl
end SS

/-! the plain law of the book -/
namespace SS
open L2 PySem
def lowM (n : Nat) (ns : List Int) : List Int := (List.range (2 ^ n)).map fun s => sm (2 ^ n) fun o => if o &&& s = o then at0 ns o else 0
def highM (n : Nat) (ns : List Int) : List Int := (List.range (2 ^ n)).map fun s => sm (2 ^ n) fun o => if o &&& s = s then at0 ns o else 0
/-- two names exchanged -/
def swM (s a c : Nat) : Nat := if s.testBit a = s.testBit c then s else s ^^^ (2 ^ a ||| 2 ^ c)
def swapL (a c : Nat) (ns : List Int) : List Int := (List.range ns.length).map fun s => at0 ns (swM s a c)
theorem lowM_length (n : Nat) (ns : List Int) : (lowM n ns).length = 2 ^ n := by unfold lowM; rw [List.length_map, List.length_range]
theorem highM_length (n : Nat) (ns : List Int) : (highM n ns).length = 2 ^ n := by unfold highM; rw [List.length_map, List.length_range]
theorem swapL_length (a c : Nat) (ns : List Int) : (swapL a c ns).length = ns.length := by unfold swapL; rw [List.length_map, List.length_range]
def tau (a c k : Nat) : Nat := if k = a then c else if k = c then a else k
theorem sw_bit (s a c k : Nat) : (swM s a c).testBit k = s.testBit (tau a c k) := by
  unfold swM tau
  by_cases h : s.testBit a = s.testBit c
  · rw [if_pos h]
    by_cases h1 : k = a
    · rw [if_pos h1, h1, h]
    · rw [if_neg h1]
      by_cases h2 : k = c
      · rw [if_pos h2, h2, h]
      · rw [if_neg h2]
  · rw [if_neg h, Nat.testBit_xor, Nat.testBit_or, Nat.testBit_two_pow, Nat.testBit_two_pow]
    by_cases h1 : k = a
    · subst h1
      rw [if_pos rfl, decide_eq_true rfl]
      cases e1 : s.testBit k <;> cases e2 : s.testBit c <;> simp_all
    · rw [if_neg h1, decide_eq_false (fun z => h1 z.symm)]
      by_cases h2 : k = c
      · subst h2
        rw [if_pos rfl, decide_eq_true rfl]
        cases e1 : s.testBit k <;> cases e2 : s.testBit a <;> simp_all
      · rw [if_neg h2, decide_eq_false (fun z => h2 z.symm)]
        simp
theorem tau_tau (a c k : Nat) : tau a c (tau a c k) = k := by
  unfold tau
  by_cases h1 : k = a
  · rw [if_pos h1]
    by_cases h2 : c = a
    · rw [if_pos h2]; omega
    · rw [if_neg h2, if_pos rfl]; omega
  · rw [if_neg h1]
    by_cases h2 : k = c
    · rw [if_pos h2, if_pos rfl]; omega
    · rw [if_neg h2, if_neg h1, if_neg h2]
theorem sw_sw (s a c : Nat) : swM (swM s a c) a c = s := Nat.eq_of_testBit_eq fun k => by rw [sw_bit, sw_bit, tau_tau]
theorem sw_and (s o a c : Nat) : swM (s &&& o) a c = swM s a c &&& swM o a c := Nat.eq_of_testBit_eq fun k => by rw [sw_bit, Nat.testBit_and, Nat.testBit_and, sw_bit, sw_bit]
theorem sw_inj {s o a c : Nat} (h : swM s a c = swM o a c) : s = o := by rw [← sw_sw s a c, h, sw_sw]
theorem sw_lt {n s a c : Nat} (hs : s < 2 ^ n) (ha : a < n) (hc : c < n) : swM s a c < 2 ^ n := by
  unfold swM
  split
  · exact hs
  · exact Nat.xor_lt_two_pow hs (Nat.or_lt_two_pow (Nat.pow_lt_pow_right (by decide) ha) (Nat.pow_lt_pow_right (by decide) hc))
theorem sm_turn {N : Nat} {g : Nat → Nat} (h1 : ∀ i, i < N → g i < N) (h2 : ∀ i, i < N → g (g i) = i) (f : Nat → Int) : sm N (fun i => f (g i)) = sm N f := by
  have e1 : sm N (fun i => f (g i)) = sm N fun i => sm N fun j => (if j = g i then 1 else 0) * f j := sm_congr fun i hi => (sm_at (h1 i hi) f).symm
  rw [e1, sm_swap]
  refine sm_congr fun j hj => ?_
  have e2 : sm N (fun i => (if j = g i then 1 else 0) * f j) = sm N fun i => (if i = g j then 1 else 0) * f j := sm_congr fun i hi => by
    by_cases e : j = g i
    · rw [if_pos e, if_pos (by rw [e, h2 i hi])]
    · rw [if_neg e, if_neg (fun z => e (by rw [z, h2 j hj]))]
  rw [e2]
  exact sm_at (h1 j hj) fun _ => f j
theorem low_swap {n a c : Nat} (ha : a < n) (hc : c < n) {ns : List Int} (hl : ns.length = 2 ^ n) : lowM n (swapL a c ns) = swapL a c (lowM n ns) := by
  refine ext0 (by rw [lowM_length, swapL_length, lowM_length]) fun s hs => ?_
  rw [lowM_length] at hs
  unfold lowM
  rw [at0_map _ hs]
  unfold swapL
  rw [List.length_map, List.length_range, at0_map _ hs, at0_map _ (sw_lt hs ha hc)]
  rw [← sm_turn (g := fun o => swM o a c) (fun i hi => sw_lt hi ha hc) (fun i _ => sw_sw i a c) (fun o => if o &&& swM s a c = o then at0 ns o else 0)]
  refine sm_congr fun o ho => ?_
  rw [hl, at0_map _ ho]
  show _ = if swM o a c &&& swM s a c = swM o a c then at0 ns (swM o a c) else 0
  rw [← sw_and]
  by_cases e : o &&& s = o
  · rw [if_pos e, if_pos (by rw [e])]
  · rw [if_neg e, if_neg (fun z => e (sw_inj z))]
theorem high_swap {n a c : Nat} (ha : a < n) (hc : c < n) {ns : List Int} (hl : ns.length = 2 ^ n) : highM n (swapL a c ns) = swapL a c (highM n ns) := by
  refine ext0 (by rw [highM_length, swapL_length, highM_length]) fun s hs => ?_
  rw [highM_length] at hs
  unfold highM
  rw [at0_map _ hs]
  unfold swapL
  rw [List.length_map, List.length_range, at0_map _ hs, at0_map _ (sw_lt hs ha hc)]
  rw [← sm_turn (g := fun o => swM o a c) (fun i hi => sw_lt hi ha hc) (fun i _ => sw_sw i a c) (fun o => if o &&& swM s a c = swM s a c then at0 ns o else 0)]
  refine sm_congr fun o ho => ?_
  rw [hl, at0_map _ ho]
  show _ = if swM o a c &&& swM s a c = swM s a c then at0 ns (swM o a c) else 0
  rw [← sw_and]
  by_cases e : o &&& s = s
  · rw [if_pos e, if_pos (by rw [e])]
  · rw [if_neg e, if_neg (fun z => e (sw_inj z))]
theorem swap_swap {n a c : Nat} (ha : a < n) (hc : c < n) {ns : List Int} (hl : ns.length = 2 ^ n) : swapL a c (swapL a c ns) = ns := by
  refine ext0 (by rw [swapL_length, swapL_length]) fun s hs => ?_
  rw [swapL_length, swapL_length, hl] at hs
  unfold swapL
  rw [List.length_map, List.length_range, hl, at0_map _ hs, at0_map _ (sw_lt hs ha hc), sw_sw]
/-- a number more at a set -/
def putL (one : Nat) (z : Int) (ns : List Int) : List Int := ns.set one (at0 ns one + z)
theorem putL_length (one : Nat) (z : Int) (ns : List Int) : (putL one z ns).length = ns.length := List.length_set
theorem putL_at {one : Nat} {z : Int} {ns : List Int} (h : one < ns.length) (o : Nat) : at0 (putL one z ns) o = at0 ns o + (if o = one then z else 0) := by
  unfold putL
  rw [at0_set h]
  by_cases e : o = one
  · rw [if_pos e, if_pos e, e]
  · rw [if_neg e, if_neg e, Int.add_zero]
theorem put_sum {N one : Nat} {z : Int} {ns : List Int} (h : one < ns.length) (hN : one < N) (P : Nat → Prop) [DecidablePred P] : (sm N fun o => if P o then at0 (putL one z ns) o else 0) = (sm N fun o => if P o then at0 ns o else 0) + if P one then z else 0 := by
  rw [sm_congr (g := fun o => (if P o then at0 ns o else 0) + (if o = one then 1 else 0) * (if P o then z else 0)) fun o _ => ?_, sm_add, sm_at hN (fun o => if P o then z else 0)]
  rw [putL_at h]
  by_cases e : o = one
  · rw [if_pos e, if_pos e, Int.one_mul]
    by_cases e2 : P o
    · rw [if_pos e2, if_pos e2, if_pos e2]
    · rw [if_neg e2, if_neg e2, if_neg e2, Int.add_zero]
  · rw [if_neg e, if_neg e, Int.zero_mul, Int.add_zero, Int.add_zero]
/-- a number more at each of some -/
def moreL (N : Nat) (c : Nat → Bool) (z : Int) (ls : List Int) : List Int := (List.range N).map fun s => if c s = true then at0 ls s + z else at0 ls s
theorem low_put {n one : Nat} {z : Int} {ns : List Int} (hl : ns.length = 2 ^ n) (h : one < 2 ^ n) : lowM n (putL one z ns) = moreL (2 ^ n) (fun s => decide (s &&& one = one)) z (lowM n ns) := by
  unfold lowM moreL
  refine List.map_congr_left fun s hs => ?_
  have hs := List.mem_range.mp hs
  rw [put_sum (by rw [hl]; exact h) h, at0_map _ hs]
  by_cases e : one &&& s = one
  · rw [if_pos e, if_pos (decide_eq_true (by rw [Nat.and_comm]; exact e))]
  · rw [if_neg e, if_neg (fun q => e (by rw [Nat.and_comm]; exact of_decide_eq_true q)), Int.add_zero]
theorem high_put {n one : Nat} {z : Int} {ns : List Int} (hl : ns.length = 2 ^ n) (h : one < 2 ^ n) : highM n (putL one z ns) = moreL (2 ^ n) (fun s => decide (s &&& one = s)) z (highM n ns) := by
  unfold highM moreL
  refine List.map_congr_left fun s hs => ?_
  have hs := List.mem_range.mp hs
  rw [put_sum (by rw [hl]; exact h) h, at0_map _ hs]
  by_cases e : one &&& s = s
  · rw [if_pos e, if_pos (decide_eq_true (by rw [Nat.and_comm]; exact e))]
  · rw [if_neg e, if_neg (fun q => e (by rw [Nat.and_comm]; exact of_decide_eq_true q)), Int.add_zero]
theorem put_back {one : Nat} {z : Int} {ns : List Int} (h : one < ns.length) : putL one (-z) (putL one z ns) = ns := by
  refine ext0 (by rw [putL_length, putL_length]) fun s hs => ?_
  rw [putL_at (by rw [putL_length]; exact h), putL_at h]
  by_cases e : s = one
  · rw [if_pos e, if_pos e]; omega
  · rw [if_neg e, if_neg e]; omega
/-! ### deeds: a put (true, set, number), a swap (false, name, name) -/
abbrev Deed := Bool × Nat × Int
def actM (d : Deed) (ns : List Int) : List Int := if d.1 = true then putL d.2.1 d.2.2 ns else swapL d.2.1 d.2.2.toNat ns
def DeedOk (n : Nat) (d : Deed) : Prop := (d.1 = true → d.2.1 < 2 ^ n) ∧ (d.1 = false → d.2.1 < n ∧ 0 ≤ d.2.2 ∧ d.2.2.toNat < n)
theorem actM_length (d : Deed) (ns : List Int) : (actM d ns).length = ns.length := by
  unfold actM
  split
  · exact putL_length _ _ _
  · exact swapL_length _ _ _
def undoM (d : Deed) (ns : List Int) : List Int := if d.1 = true then putL d.2.1 (-d.2.2) ns else swapL d.2.1 d.2.2.toNat ns
theorem undo_act {n : Nat} {d : Deed} (h : DeedOk n d) {ns : List Int} (hl : ns.length = 2 ^ n) : undoM d (actM d ns) = ns := by
  unfold undoM actM
  cases e : d.1 with
  | true => exact put_back (by rw [hl]; exact h.1 e)
  | false =>
    obtain ⟨h1, _, h3⟩ := h.2 e
    exact swap_swap h1 h3 hl
/-- the numbers behind each deed that stands -/
inductive Hist (n : Nat) : List (List Int) → List Deed → Prop
  | nil {r : List Int} (h : r.length = 2 ^ n) : Hist n [r] []
  | snoc {rows : List (List Int)} {r : List Int} {ds : List Deed} {d : Deed} (h : Hist n (rows ++ [r]) ds) (hd : DeedOk n d) : Hist n (rows ++ [r] ++ [actM d r]) (ds ++ [d])
theorem Hist.len {n : Nat} {rows : List (List Int)} {ds : List Deed} (h : Hist n rows ds) : rows.length = ds.length + 1 := by
  induction h with
  | nil => rfl
  | snoc h hd ih => simp at ih ⊢; omega
theorem Hist.last {n : Nat} {rows : List (List Int)} {ds : List Deed} (h : Hist n rows ds) : ∃ pre r, rows = pre ++ [r] ∧ r.length = 2 ^ n := by
  induction h with
  | nil h => exact ⟨[], _, rfl, h⟩
  | snoc h hd ih =>
    obtain ⟨pre, r', e, hr⟩ := ih
    obtain ⟨_, e2⟩ := List.append_inj' e rfl
    refine ⟨_, _, rfl, ?_⟩
    rw [actM_length]
    have := List.head_eq_of_cons_eq e2
    rw [this]
    exact hr
/-- what an undo finds -/
theorem Hist.back {n : Nat} {rows : List (List Int)} {r : List Int} {ds : List Deed} (h : Hist n (rows ++ [r]) ds) : (rows = [] ∧ ds = []) ∨ ∃ pre r' ds' d, rows = pre ++ [r'] ∧ ds = ds' ++ [d] ∧ Hist n (pre ++ [r']) ds' ∧ DeedOk n d ∧ r = actM d r' := by
  generalize hR : rows ++ [r] = R at h
  cases h with
  | nil h =>
    left
    have : rows = [] := by
      cases rows with
      | nil => rfl
      | cons a l => simp at hR
    exact ⟨this, rfl⟩
  | @snoc rows' r' ds' d h hd =>
    right
    obtain ⟨e1, e2⟩ := List.append_inj' hR rfl
    exact ⟨rows', r', ds', d, e1, rfl, h, hd, List.head_eq_of_cons_eq e2⟩
/-- the law's own turn of a set -/
def turnM (s a c : Nat) : Nat := ((bitsN s).map fun k => 2 ^ tau a c k).sum
def turnChk : Bool := (List.range 32).all fun s => (List.range 5).all fun a => (List.range 5).all fun c => decide (turnM s a c = swM s a c)
theorem turnChk_ok : turnChk = true := by decide +kernel
theorem turn_sw {n s a c : Nat} (hn : n ≤ 5) (hs : s < 2 ^ n) (ha : a < n) (hc : c < n) : turnM s a c = swM s a c := by
  have h5 : 2 ^ n ≤ 32 := Nat.pow_le_pow_right (n := 2) (by decide) hn
  have h1 := List.all_eq_true.mp turnChk_ok s (List.mem_range.mpr (by omega))
  have h2 := List.all_eq_true.mp h1 a (List.mem_range.mpr (by omega))
  exact of_decide_eq_true (List.all_eq_true.mp h2 c (List.mem_range.mpr (by omega)))
theorem moreL_length (N : Nat) (c : Nat → Bool) (z : Int) (ls : List Int) : (moreL N c z ls).length = N := by unfold moreL; rw [List.length_map, List.length_range]
/-- .. as far as i -/
def moreI (N i : Nat) (c : Nat → Bool) (z : Int) (ls : List Int) : List Int := moreL N (fun s => decide (s < i) && c s) z ls
theorem moreL_at {N : Nat} {c : Nat → Bool} {z : Int} {ls : List Int} {s : Nat} (h : s < N) : at0 (moreL N c z ls) s = if c s = true then at0 ls s + z else at0 ls s := at0_map _ h
theorem more_0 {N : Nat} (c : Nat → Bool) (z : Int) {ls : List Int} (h : ls.length = N) : moreI N 0 c z ls = ls := by
  refine ext0 (by unfold moreI; rw [moreL_length, h]) fun s hs => ?_
  unfold moreI at hs ⊢
  rw [moreL_length] at hs
  rw [moreL_at hs]
  simp
theorem more_N (N : Nat) (c : Nat → Bool) (z : Int) (ls : List Int) : moreI N N c z ls = moreL N c z ls := by
  unfold moreI
  refine ext0 (by rw [moreL_length, moreL_length]) fun s hs => ?_
  rw [moreL_length] at hs
  rw [moreL_at hs, moreL_at hs, decide_eq_true hs, Bool.true_and]
theorem more_yes {N i : Nat} {c : Nat → Bool} {z : Int} {ls : List Int} (hi : i < N) (h : c i = true) : (moreI N i c z ls).set i (at0 (moreI N i c z ls) i + z) = moreI N (i + 1) c z ls := by
  unfold moreI
  refine ext0 (by rw [List.length_set, moreL_length, moreL_length]) fun s hs => ?_
  rw [List.length_set, moreL_length] at hs
  rw [at0_set (by rw [moreL_length]; exact hi), moreL_at hs, moreL_at hi, moreL_at hs]
  by_cases e : s = i
  · rw [if_pos e, e, h]
    simp
  · rw [if_neg e]
    have : decide (s < i + 1) = decide (s < i) := by
      by_cases q : s < i
      · rw [decide_eq_true q, decide_eq_true (by omega)]
      · rw [decide_eq_false q, decide_eq_false (by omega)]
    rw [this]
theorem more_no {N i : Nat} {c : Nat → Bool} {z : Int} {ls : List Int} (h : c i = false) : moreI N (i + 1) c z ls = moreI N i c z ls := by
  unfold moreI moreL
  refine List.map_congr_left fun s _ => ?_
  by_cases e : s = i
  · simp [e, h]
  · have : decide (s < i + 1) = decide (s < i) := by
      by_cases q : s < i
      · rw [decide_eq_true q, decide_eq_true (by omega)]
      · rw [decide_eq_false q, decide_eq_false (by omega)]
    show (if (decide (s < i + 1) && c s) = true then _ else _) = if (decide (s < i) && c s) = true then _ else _
    rw [this]
theorem filt_sum (N : Nat) (c : Nat → Bool) (f : Nat → Int) : (((List.range N).filter c).map f).sum = sm N fun s => if c s = true then f s else 0 := by
  induction N with
  | zero => rfl
  | succ N ih =>
    rw [List.range_succ, List.filter_append, List.map_append, List.sum_append, ih]
    show _ = (sm N fun s => if c s = true then f s else 0) + if c N = true then f N else 0
    cases h : c N <;> simp [h]
theorem low_sum {n one : Nat} (h : one < 2 ^ n) (ns : List Int) : (((List.range (2 ^ n)).filter fun s => decide (s &&& one = s)).map (at0 ns)).sum = at0 (lowM n ns) one := by
  rw [filt_sum]
  unfold lowM
  rw [at0_map _ h]
  refine sm_congr fun s _ => ?_
  by_cases e : s &&& one = s
  · rw [if_pos (decide_eq_true e), if_pos e]
  · rw [if_neg (fun z => e (of_decide_eq_true z)), if_neg e]
theorem high_sum {n one : Nat} (h : one < 2 ^ n) (ns : List Int) : (((List.range (2 ^ n)).filter fun s => decide (s &&& one = one)).map (at0 ns)).sum = at0 (highM n ns) one := by
  rw [filt_sum]
  unfold highM
  rw [at0_map _ h]
  refine sm_congr fun s _ => ?_
  by_cases e : s &&& one = one
  · rw [if_pos (decide_eq_true e), if_pos e]
  · rw [if_neg (fun z => e (of_decide_eq_true z)), if_neg e]
theorem dec_cast (x y : Nat) : decide ((x : Int) = (y : Int)) = decide (x = y) := by
  by_cases e : x = y
  · rw [decide_eq_true e, decide_eq_true (by rw [e])]
  · rw [decide_eq_false e, decide_eq_false (by omega)]
end SS

/-! a book on the heap -/
namespace SS
open PySem PySem.Spec PyProof.Rows L2 Evl
/-- all but O stays, nothing goes -/
structure ExO (O : List Addr) (H H' : Hp) : Prop where
  keep : ∀ a o, H a = some o → a ∉ O → H' a = some o
  back : ∀ a, H' a = none → H a = none
/-- what of O' is not of O is new -/
def Grow (O O' : List Addr) (H : Hp) : Prop := ∀ a ∈ O', a ∈ O ∨ H a = none
theorem ex_back {H H' : Hp} (e : Ex H H') {a : Addr} (h : H' a = none) : H a = none := by
  cases q : H a with
  | none => rfl
  | some o => rw [e _ _ q] at h; cases h
theorem ExO.of {O : List Addr} {H H' : Hp} (e : Ex H H') : ExO O H H' := ⟨fun a o h _ => e a o h, fun a h => ex_back e h⟩
theorem ExO.refl (O : List Addr) (H : Hp) : ExO O H H := .of (Ex.refl H)
theorem ExO.ex {O : List Addr} {H H' H'' : Hp} (x : ExO O H H') (e : Ex H' H'') : ExO O H H'' := ⟨fun a o h n => e a o (x.keep a o h n), fun a h => x.back a (ex_back e h)⟩
theorem ExO.upd {O : List Addr} {H H' : Hp} {p : Addr} {o : HO} (x : ExO O H H') (hp : p ∈ O ∨ H p = none) : ExO O H (upd H' p o) := by
  refine ⟨fun a o' h n => ?_, fun a h => ?_⟩
  · have : a ≠ p := by
      rintro rfl
      rcases hp with q | q
      · exact n q
      · rw [h] at q; cases q
    rw [upd_ne this]
    exact x.keep a o' h n
  · by_cases e : a = p
    · rw [e, upd_same] at h
      cases h
    · rw [upd_ne e] at h
      exact x.back a h
theorem ExO.trans {O O' : List Addr} {H H' H'' : Hp} (x : ExO O H H') (y : ExO O' H' H'') (g : Grow O O' H) : ExO O H H'' :=
  ⟨fun a o h n => y.keep a o (x.keep a o h n) fun z => (g a z).elim n fun q => (by rw [h] at q; cases q), fun a h => x.back a (y.back a h)⟩
theorem ExO.wide {O O' : List Addr} {H H' : Hp} (x : ExO O H H') (h : ∀ a ∈ O, a ∈ O') : ExO O' H H' := ⟨fun a o q n => x.keep a o q fun z => n (h a z), x.back⟩
theorem Grow.refl (O : List Addr) (H : Hp) : Grow O O H := fun a h => .inl h
theorem Grow.trans {O O' O'' : List Addr} {H H' : Hp} (g : Grow O O' H) (g' : Grow O' O'' H') (x : ∀ a, H' a = none → H a = none) : Grow O O'' H := fun a h => (g' a h).elim (g a) fun q => .inr (x a q)
def bkF (nu lo hi : Addr) (n : Nat) (dn : Addr) : List (Str × V) := [("numbers", .ref nu), ("lows", .ref lo), ("highs", .ref hi), ("names", .int (n : Nat)), ("done", .ref dn)]
def wordM (d : Deed) : Str := if d.1 = true then "put" else "swap"
def DeedsAt (H : Hp) (xs : List V) (ds : List Deed) : Prop := Paired (fun (x : V) (d : Deed) => ∃ t, x = .ref t ∧ H t = some (.tup [.str (wordM d), .int (d.2.1 : Nat), .int d.2.2])) xs ds
theorem DeedsAt.mono {H H' : Hp} (e : ∀ a xs, H a = some (.tup xs) → H' a = some (.tup xs)) : ∀ {xs : List V} {ds : List Deed}, DeedsAt H xs ds → DeedsAt H' xs ds
  | _, _, .nil => .nil
  | _, _, .cons ⟨t, h, q⟩ r => .cons ⟨t, h, e _ _ q⟩ (DeedsAt.mono e r)
theorem DeedsAt.snoc {H : Hp} {t : Addr} {d : Deed} (q : H t = some (.tup [.str (wordM d), .int (d.2.1 : Nat), .int d.2.2])) : ∀ {xs : List V} {ds : List Deed}, DeedsAt H xs ds → DeedsAt H (xs ++ [.ref t]) (ds ++ [d])
  | _, _, .nil => .cons ⟨t, rfl, q⟩ .nil
  | _, _, .cons p r => .cons p (DeedsAt.snoc q r)
theorem DeedsAt.split {H : Hp} {d : Deed} : ∀ {ds : List Deed} {xs : List V}, DeedsAt H xs (ds ++ [d]) → ∃ ys t, xs = ys ++ [.ref t] ∧ DeedsAt H ys ds ∧ H t = some (.tup [.str (wordM d), .int (d.2.1 : Nat), .int d.2.2])
  | [], _, .cons ⟨t, h, q⟩ .nil => ⟨[], t, by rw [h] <;> rfl, .nil, q⟩
  | _ :: ds, _, .cons p r => by
    obtain ⟨ys, t, e, h, q⟩ := DeedsAt.split (ds := ds) r
    exact ⟨_ :: ys, t, by rw [e] <;> rfl, .cons p h, q⟩
theorem DeedsAt.len {H : Hp} {xs : List V} {ds : List Deed} (h : DeedsAt H xs ds) : xs.length = ds.length := Paired.length h
structure BookAt (K : PySem.W.Frag) (H : Hp) (b : Addr) (O : List Addr) (n : Nat) (ns : List Int) (ds : List Deed) : Prop where
  ex : ∃ (dx nu lo hi dn : Addr) (xs : List V), O = [b, nu, lo, hi, dn] ∧ O.Nodup ∧ H b = some (.ins (He.ga K "Book") dx (bkF nu lo hi n dn)) ∧ H nu = some (.lst (ns.map V.int)) ∧ H lo = some (.lst ((lowM n ns).map V.int)) ∧ H hi = some (.lst ((highM n ns).map V.int)) ∧ H dn = some (.lst xs) ∧ DeedsAt H xs ds
  ln : ns.length = 2 ^ n
  hn : n ≤ 5
theorem BookAt.mono {K : PySem.W.Frag} {H H' : Hp} {b : Addr} {O : List Addr} {n : Nat} {ns : List Int} {ds : List Deed} (B : BookAt K H b O n ns ds) (e : Ex H H') : BookAt K H' b O n ns ds := by
  obtain ⟨dx, nu, lo, hi, dn, xs, h0, h1, h2, h3, h4, h5, h6, h7⟩ := B.ex
  exact ⟨⟨dx, nu, lo, hi, dn, xs, h0, h1, e _ _ h2, e _ _ h3, e _ _ h4, e _ _ h5, e _ _ h6, h7.mono fun a xs q => e _ _ q⟩, B.ln, B.hn⟩
/-- no tuple is of O -/
def NoTup (O : List Addr) (H : Hp) : Prop := ∀ a ∈ O, ∀ xs, H a ≠ some (.tup xs)
theorem BookAt.other {K : PySem.W.Frag} {H H' : Hp} {b : Addr} {O O2 : List Addr} {n : Nat} {ns : List Int} {ds : List Deed} (B : BookAt K H b O n ns ds) (x : ExO O2 H H') (dj : ∀ a ∈ O, a ∉ O2) (nt : NoTup O2 H) : BookAt K H' b O n ns ds := by
  obtain ⟨dx, nu, lo, hi, dn, xs, h0, h1, h2, h3, h4, h5, h6, h7⟩ := B.ex
  subst h0
  exact ⟨⟨dx, nu, lo, hi, dn, xs, rfl, h1, x.keep _ _ h2 (dj _ (by simp)), x.keep _ _ h3 (dj _ (by simp)), x.keep _ _ h4 (dj _ (by simp)), x.keep _ _ h5 (dj _ (by simp)), x.keep _ _ h6 (dj _ (by simp)), h7.mono fun a xs q => x.keep _ _ q fun z => nt a z xs q⟩, B.ln, B.hn⟩
theorem BookAt.noTup {K : PySem.W.Frag} {H : Hp} {b : Addr} {O : List Addr} {n : Nat} {ns : List Int} {ds : List Deed} (B : BookAt K H b O n ns ds) : NoTup O H := by
  obtain ⟨dx, nu, lo, hi, dn, xs, h0, h1, h2, h3, h4, h5, h6, h7⟩ := B.ex
  subst h0
  intro a ha ys
  simp only [List.mem_cons, List.mem_nil_iff, or_false] at ha
  rcases ha with rfl | rfl | rfl | rfl | rfl
  · rw [h2]; exact fun z => nomatch z
  · rw [h3]; exact fun z => nomatch z
  · rw [h4]; exact fun z => nomatch z
  · rw [h5]; exact fun z => nomatch z
  · rw [h6]; exact fun z => nomatch z
theorem BookAt.there {K : PySem.W.Frag} {H : Hp} {b : Addr} {O : List Addr} {n : Nat} {ns : List Int} {ds : List Deed} (B : BookAt K H b O n ns ds) : ∀ a ∈ O, H a ≠ none := by
  obtain ⟨dx, nu, lo, hi, dn, xs, h0, h1, h2, h3, h4, h5, h6, h7⟩ := B.ex
  subst h0
  intro a ha
  simp only [List.mem_cons, List.mem_nil_iff, or_false] at ha
  rcases ha with rfl | rfl | rfl | rfl | rfl
  · rw [h2]; exact fun z => nomatch z
  · rw [h3]; exact fun z => nomatch z
  · rw [h4]; exact fun z => nomatch z
  · rw [h5]; exact fun z => nomatch z
  · rw [h6]; exact fun z => nomatch z
theorem rep_at (n s : Nat) : at0 (List.replicate n (0 : Int)) s = 0 := by
  unfold at0
  rw [List.getD_eq_getElem?_getD, List.getElem?_replicate]
  split <;> rfl
theorem low_zero (n : Nat) : lowM n (List.replicate (2 ^ n) 0) = List.replicate (2 ^ n) 0 := by
  refine ext0 (by rw [lowM_length, List.length_replicate]) fun s hs => ?_
  rw [lowM_length] at hs
  unfold lowM
  rw [at0_map _ hs, rep_at, sm_congr (g := fun _ => 0) fun o _ => by rw [rep_at]; split <;> rfl, sm_zero]
theorem high_zero (n : Nat) : highM n (List.replicate (2 ^ n) 0) = List.replicate (2 ^ n) 0 := by
  refine ext0 (by rw [highM_length, List.length_replicate]) fun s hs => ?_
  rw [highM_length] at hs
  unfold highM
  rw [at0_map _ hs, rep_at, sm_congr (g := fun _ => 0) fun o _ => by rw [rep_at]; split <;> rfl, sm_zero]
theorem lk_numbers {nu lo hi dn : Addr} {n : Nat} : (bkF nu lo hi n dn).lookup ("numbers" : Str) = some (V.ref nu) := rfl
theorem lk_lows {nu lo hi dn : Addr} {n : Nat} : (bkF nu lo hi n dn).lookup ("lows" : Str) = some (V.ref lo) := rfl
theorem lk_highs {nu lo hi dn : Addr} {n : Nat} : (bkF nu lo hi n dn).lookup ("highs" : Str) = some (V.ref hi) := rfl
theorem lk_names {nu lo hi dn : Addr} {n : Nat} : (bkF nu lo hi n dn).lookup ("names" : Str) = some (V.int (n : Nat)) := rfl
theorem lk_done {nu lo hi dn : Addr} {n : Nat} : (bkF nu lo hi n dn).lookup ("done" : Str) = some (V.ref dn) := rfl
theorem pf_numbers {nu lo hi dn p : Addr} {n : Nat} : putF "numbers" (.ref p) (bkF nu lo hi n dn) = bkF p lo hi n dn := rfl
theorem pf_lows {nu lo hi dn p : Addr} {n : Nat} : putF "lows" (.ref p) (bkF nu lo hi n dn) = bkF nu p hi n dn := rfl
theorem pf_highs {nu lo hi dn p : Addr} {n : Nat} : putF "highs" (.ref p) (bkF nu lo hi n dn) = bkF nu lo p n dn := rfl
theorem pf_all {nu lo hi dn : Addr} {n : Nat} : putF "done" (.ref dn) (putF "names" (.int (n : Nat)) (putF "highs" (.ref hi) (putF "lows" (.ref lo) (putF "numbers" (.ref nu) [])))) = bkF nu lo hi n dn := rfl
/-! ### no deed stands: done == [] -/
def dDeed (d : Deed) : PyData := .tuple [.str (wordM d), .int (d.2.1 : Nat), .int d.2.2]
def dDs (ds : List Deed) : PyData := .list (ds.map dDeed)
theorem dpAll_deeds {K : PySem.W.Frag} {H : Hp} : ∀ {xs : List V} {ds : List Deed}, DeedsAt H xs ds → DpAll K H xs (ds.map dDeed)
  | _, _, .nil => .nil
  | _, _, .cons ⟨t, e, q⟩ r => by
    subst e
    exact .cons (.tup (.inl (.inl q)) (.cons (.str _) (.cons (.int _) (.cons (.int _) .nil)))) (dpAll_deeds r)
theorem word_ok (d : Deed) : PyData.strOk (wordM d) = true := by
  unfold wordM
  split <;> decide +kernel
theorem canLay_deeds : ∀ ds : List Deed, PyData.canLayAll0 (ds.map dDeed) = true
  | [] => by simp [PyData.canLayAll0]
  | d :: r => by simp [PyData.canLayAll0, dDeed, PyData.canLay0, word_ok, canLay_deeds r]
theorem depth_deeds : ∀ ds : List Deed, PyData.depthAll (ds.map dDeed) ≤ 4
  | [] => by simp [PyData.depthAll]
  | d :: r => by
    have h1 := depth_deeds r
    simp [PyData.depthAll, dDeed, PyData.depth]
    omega
theorem sh_deeds (ds : List Deed) : SeqAt.shaped (dDs ds) = true := by
  have := depth_deeds ds
  unfold SeqAt.shaped dDs
  rw [Bool.and_eq_true, decide_eq_true_eq]
  exact ⟨by simp [PyData.canLay0, canLay_deeds], by simp [PyData.depth]; omega⟩
theorem eq_noDeeds {K : PySem.W.Frag} {H : Hp} {a b : Addr} {xs : List V} {ds : List Deed} {Q : VK} (ha : H a = some (.lst xs)) (hd : DeedsAt H xs ds) (hb : H b = some (.lst [])) (q : Q (.bl ds.isEmpty) H) : rEqD K (.ref a) (.ref b) H Q :=
  ⟨dDs ds, dI [], .lst (.inl (.inl ha)) (dpAll_deeds hd), dp_ints (.inl (.inl hb)), sh_deeds ds, sh_ints [], by
    have : PyData.eqv (dDs ds) (dI []) = ds.isEmpty := by
      unfold dDs dI
      rw [PyData.eqv]
      cases ds <;> simp [PyData.eqvAll]
    rw [this]
    exact q⟩
theorem sq_keep {K : PySem.W.Frag} {O : List Addr} {H H' : Hp} {a : Addr} {xs : List V} (x : ExO O H H') (n : a ∉ O) (h : SqL K H a xs) : SqL K H' a xs := by
  rcases h with (h | ⟨o, h⟩) | h
  · exact .inl (.inl (x.keep _ _ h n))
  · exact .inl (.inr ⟨o, x.keep _ _ h n⟩)
  · exact .inr h
theorem dec_castI (x y : Nat) (i : Decidable ((x : Int) = (y : Int))) : @decide _ i = decide (x = y) := by
  by_cases e : x = y
  · rw [decide_eq_true (p := x = y) e]
    exact decide_eq_true (by rw [e])
  · rw [decide_eq_false (p := x = y) e]
    exact decide_eq_false (by omega)
theorem RowsF.split {B H : Hp} {r : List Int} : ∀ {rs : List (List Int)} {xs : List V}, RowsF B H xs (rs ++ [r]) → ∃ ys a, xs = ys ++ [.ref a] ∧ RowsF B H ys rs ∧ B a = none ∧ H a = some (.lst (r.map V.int))
  | [], _, .cons ⟨t, h, n, q⟩ .nil => ⟨[], t, by rw [h] <;> rfl, .nil, n, q⟩
  | _ :: rs, _, .cons p r => by
    obtain ⟨ys, t, e, h, n, q⟩ := RowsF.split (rs := rs) r
    exact ⟨_ :: ys, t, by rw [e] <;> rfl, .cons p h, n, q⟩
theorem Hist.ln {n : Nat} {pre : List (List Int)} {r : List Int} {ds : List Deed} (h : Hist n (pre ++ [r]) ds) : r.length = 2 ^ n := by
  obtain ⟨pre', r', e, hr⟩ := h.last
  obtain ⟨_, e2⟩ := List.append_inj' e rfl
  rw [List.head_eq_of_cons_eq e2]
  exact hr
end SS

/-! a comprehension over ints, each turn makes something -/
namespace SS
open PySem PySem.Spec PyProof.Rows L2 Evl
theorem wl_each {K : PySem.W.Frag} {σ : L2.St} {H : Hp} {te : TE} {Q : VK} {a : Addr} {j : Nat} {vs : List Nat} (ns : List Int) (P : Addr → Nat → Hp → List V → Prop) (hz : ns.length ≤ 1000) (hw : ∀ x, wipe ((wipe σ vs).set j (some x)) vs = wipe σ vs)
    (hx : ∀ D i H' acc, P D i H' acc → SqL K H' a (ns.map V.int)) (hlen : ∀ D i H' acc, P D i H' acc → acc.length = i) (h0 : ∀ D, H D = none → P D 0 (upd H D (.lst [])) [])
    (hs : ∀ D i n H' acc, ns[i]? = some n → P D i H' acc → ∀ Q2 : VK, (∀ y H4, H4 D = some (.lst acc) → P D (i + 1) (upd H4 D (.lst (acc ++ [y]))) (acc ++ [y]) → Q2 y H4) → te ((wipe σ vs).set j (some (.int n))) H' Q2) (q : ∀ D H' acc, P D ns.length H' acc → Q (.ref D) H') : WLc (Itl K a) (gName j) tYes te vs σ H Q := fun D hD => by
  refine ⟨fun i m H' => m = ns.length - i ∧ i ≤ ns.length ∧ ∃ acc, P D i H' acc, ⟨ns.length, by simp, Nat.zero_le _, [], h0 D hD⟩, ?_⟩
  rintro i m H1 ⟨rfl, hi, acc, p⟩
  have hA := hx D i H1 acc p
  by_cases hlt : i < ns.length
  · refine .inr ⟨⟨_, _, hA, List.getElem?_eq_getElem (by rw [List.length_map]; exact hlt)⟩, fun H' => ∃ acc, P D (i + 1) H' acc, fun H' c' => ⟨ns.length - (i + 1), by omega, rfl, hlt, c'⟩, fun x H2 y => ?_⟩
    obtain ⟨e3, hy⟩ := y
    subst e3
    have hg := hy _ hA
    rw [List.getElem?_map, List.getElem?_eq_getElem hlt] at hg
    have hxe : x = V.int ns[i] := (Option.some.inj hg).symm
    subst hxe
    refine ⟨hw _, ?_⟩
    show te _ H2 fun y H4 => ∃ acc, H4 D = some (.lst acc) ∧ acc.length < sizeLine ∧ ∃ acc', P D (i + 1) (upd H4 D (.lst (acc ++ [y]))) acc'
    exact hs D i ns[i] H2 acc (List.getElem?_eq_getElem hlt) p _ fun y H4 h4 p' => ⟨acc, h4, by rw [hlen _ _ _ _ p]; exact sz_lt (by omega), acc ++ [y], p'⟩
  · have e : i = ns.length := by omega
    subst e
    exact .inl ⟨⟨_, hA, by rw [List.length_map]; exact Nat.le_refl _⟩, q D H1 acc p⟩
end SS

namespace SS
open PySem PySem.Spec PyProof.Rows L2 Evl

local macro_rules | `(tactic| walk_at "rd") => `(tactic| simp (maxSteps := 5000000) only [tSeq, tNext, tAsg, gName, tRet, tRetN, tDrop, tIfS, tCall, tCallS, tCons, tNil, tVar, tC, tOp, tUn, rI0, rI, rU, tCB, tB, tTest, tAnd, tOr, tNot, tAndV, tOrV, tNotV, tIf, tChain, tLst, tTup, rEq, rNe, is_int, is_bool, is_list, is_tuple, tIsN, tNotN, rLenS, rListS, rIxL, rIxT, gSub, rSetL, tBM, tBM0, rAppend, rClear, rExtend, rPop, rCat, rRep, reduceCtorEq, false_and, exists_false, false_or, or_false, L2.wipe, List.length_map, tSl, rSlL, tPart, tNoPart, rSum, rAll, tDNewK, tLstRg, tRg1, tFld, sFld, tMeth, tMethS, tMake, tMakeS, 
  List.getElem?_cons_zero, List.getElem?_cons_succ, List.set_cons_zero, List.set_cons_succ, List.append_nil, List.nil_append, List.cons_append, List.cons.injEq, and_true, true_and, Option.some.injEq, V.int.injEq, V.bl.injEq, V.ref.injEq, exists_eq_left', exists_eq_left, exists_and_left, exists_eq', if_true, if_false, Bool.false_eq_true, ite_true, ite_false, decide_eq_true_eq, Int.toNat_natCast, Int.one_mul, band_nn, bor_nn, bxor_nn, bit_ask, bit_dec])
local macro_rules | `(tactic| walk_at "rl") => `(tactic| simp (maxSteps := 5000000) only [tFor_W, tLc_W, iList, iTup, iRng1, iRng2, iRng3, iEnum, iZip, tSeq, tNext, tAsg, gName, tRet, tRetN, tDrop, tIfS, tCall, tCallS, tCons, tNil, tVar, tC, tOp, tUn, rI0, rI, rU, tCB, tB, tTest, tAnd, tOr, tNot, tAndV, tOrV, tNotV, tIf, tChain, tLst, tTup, rEq, rNe, is_int, is_bool, is_list, is_tuple, tIsN, tNotN, rLenS, rListS, rIxL, rIxT, gSub, rSetL, tBM, tBM0, rAppend, rClear, rExtend, rPop, rCat, rRep, reduceCtorEq, false_and, exists_false, false_or, or_false, L2.wipe, List.length_map, tSl, rSlL, tPart, tNoPart, rSum, rAll, tDNewK, tLstRg, tRg1, tFld, sFld, tMeth, tMethS, tMake, tMakeS, 
  List.getElem?_cons_zero, List.getElem?_cons_succ, List.set_cons_zero, List.set_cons_succ, List.append_nil, List.nil_append, List.cons_append, List.cons.injEq, and_true, true_and, Option.some.injEq, V.int.injEq, V.bl.injEq, V.ref.injEq, exists_eq_left', exists_eq_left, exists_and_left, exists_eq', if_true, if_false, Bool.false_eq_true, ite_true, ite_false, decide_eq_true_eq, Int.toNat_natCast, Int.one_mul, band_nn, bor_nn, bxor_nn, bit_ask, bit_dec])
local macro_rules | `(tactic| walk_at "eva") => `(tactic| (intro H1 e1 Q1 q1; walk_at "rd"; exact q1 _ (Ex.refl _)))
local macro_rules | `(tactic| walk_at "go1") => `(tactic| first
  | refine ⟨_, by assumption, ?_⟩
  | refine ⟨_, Or.inl (Or.inl (Or.inl (by assumption))), ?_⟩
  | refine ⟨_, Or.inl (by assumption), ?_⟩
  | refine ⟨_, at_int (by first | assumption | omega), ?_⟩
  | refine ⟨_, ix_int (by first | assumption | omega), ?_⟩
  | refine ⟨_, rfl, ?_⟩
  | refine ⟨Or.inl (Or.inl ⟨by omega, by omega⟩), ?_⟩
  | refine ⟨Or.inl (Or.inr ⟨by omega, by omega⟩), ?_⟩
  | refine ⟨by assumption, ?_⟩
  | refine ⟨(rfl : scal _ _ = true), ?_⟩)
local macro_rules | `(tactic| walk_at "go") => `(tactic| repeat (walk_at "go1"))

def top (i : Nat) : Stmt := PySem.Challenge.pw_setsums_k13_a_book.main.body.getD i (.Pass ⟨0, 0, 0, 0⟩)
abbrev s_is_whole : Stmt := top 13
abbrev N_is_whole : List Str := ["thing"]
theorem sc_is_whole : FnScope N_is_whole ["thing"] (defScope s_is_whole) := ⟨rfl, rfl, rfl, by decide +kernel, rfl, by decide +kernel, by decide +kernel⟩
abbrev s_Book_add_at : Stmt := clsAt (top 20) 1
abbrev N_Book_add_at : List Str := ["self", "one", "number", "other"]
theorem sc_Book_add_at : FnScope N_Book_add_at ["self", "one", "number"] (defScope s_Book_add_at) := ⟨rfl, rfl, rfl, by decide +kernel, rfl, by decide +kernel, by decide +kernel⟩
abbrev s_Book_table : Stmt := clsAt (top 20) 9
abbrev N_Book_table : List Str := ["self"]
theorem sc_Book_table : FnScope N_Book_table ["self"] (defScope s_Book_table) := ⟨rfl, rfl, rfl, by decide +kernel, rfl, by decide +kernel, by decide +kernel⟩
abbrev s_Book_many_done : Stmt := clsAt (top 20) 10
abbrev N_Book_many_done : List Str := ["self"]
theorem sc_Book_many_done : FnScope N_Book_many_done ["self"] (defScope s_Book_many_done) := ⟨rfl, rfl, rfl, by decide +kernel, rfl, by decide +kernel, by decide +kernel⟩
abbrev s_swapped : Stmt := top 21
abbrev N_swapped : List Str := ["one", "name", "other"]
theorem sc_swapped : FnScope N_swapped ["one", "name", "other"] (defScope s_swapped) := ⟨rfl, rfl, rfl, by decide +kernel, rfl, by decide +kernel, by decide +kernel⟩
abbrev s_law_cell : Stmt := top 23
abbrev N_law_cell : List Str := ["_law_script", "_law_k"]
theorem sc_law_cell : FnScope N_law_cell ["_law_script", "_law_k"] (defScope s_law_cell) := ⟨rfl, rfl, rfl, by decide +kernel, rfl, by decide +kernel, by decide +kernel⟩
abbrev s_law_kind : Stmt := top 25
abbrev N_law_kind : List Str := ["_law_caught_here", "_law_found", "_law_word", "_law_is_one"]
theorem sc_law_kind : FnScope N_law_kind ["_law_caught_here"] (defScope s_law_kind) := ⟨rfl, rfl, rfl, by decide +kernel, rfl, by decide +kernel, by decide +kernel⟩
abbrev s_law_bits : Stmt := top 26
abbrev N_law_bits : List Str := ["_law_one", "_law_found", "_law_name"]
theorem sc_law_bits : FnScope N_law_bits ["_law_one"] (defScope s_law_bits) := ⟨rfl, rfl, rfl, by decide +kernel, rfl, by decide +kernel, by decide +kernel⟩
abbrev s_law_is_table : Stmt := top 27
abbrev N_law_is_table : List Str := ["_law_found", "_law_due", "_law_number"]
theorem sc_law_is_table : FnScope N_law_is_table ["_law_found", "_law_due"] (defScope s_law_is_table) := ⟨rfl, rfl, rfl, by decide +kernel, rfl, by decide +kernel, by decide +kernel⟩
abbrev s_law_wrong : Stmt := top 33
abbrev N_law_wrong : List Str := ["_law_many", "_law_number", "_law_odd"]
theorem sc_law_wrong : FnScope N_law_wrong ["_law_many", "_law_number"] (defScope s_law_wrong) := ⟨rfl, rfl, rfl, by decide +kernel, rfl, by decide +kernel, by decide +kernel⟩
abbrev s_is_among : Stmt := top 14
abbrev N_is_among : List Str := ["thing", "least", "most"]
theorem sc_is_among : FnScope N_is_among ["thing", "least", "most"] (defScope s_is_among) := ⟨rfl, rfl, rfl, by decide +kernel, rfl, by decide +kernel, by decide +kernel⟩
abbrev s_Book_exchange : Stmt := clsAt (top 20) 2
abbrev N_Book_exchange : List Str := ["self", "name", "other", "spots", "one", "spot"]
theorem sc_Book_exchange : FnScope N_Book_exchange ["self", "name", "other"] (defScope s_Book_exchange) := ⟨rfl, rfl, rfl, by decide +kernel, rfl, by decide +kernel, by decide +kernel⟩
abbrev s_law_mixed : Stmt := top 24
abbrev N_law_mixed : List Str := ["_law_script", "_law_k", "_law_cell_here"]
theorem sc_law_mixed : FnScope N_law_mixed ["_law_script", "_law_k"] (defScope s_law_mixed) := ⟨rfl, rfl, rfl, by decide +kernel, rfl, by decide +kernel, by decide +kernel⟩
abbrev s_law_turned : Stmt := top 28
abbrev N_law_turned : List Str := ["_law_one", "_law_name", "_law_other", "_law_names", "_law_found", "_law_this"]
theorem sc_law_turned : FnScope N_law_turned ["_law_one", "_law_name", "_law_other"] (defScope s_law_turned) := ⟨rfl, rfl, rfl, by decide +kernel, rfl, by decide +kernel, by decide +kernel⟩
abbrev s_need_count : Stmt := top 15
abbrev N_need_count : List Str := ["many"]
theorem sc_need_count : FnScope N_need_count ["many"] (defScope s_need_count) := ⟨rfl, rfl, rfl, by decide +kernel, rfl, by decide +kernel, by decide +kernel⟩
abbrev s_need_set : Stmt := top 16
abbrev N_need_set : List Str := ["one", "many"]
theorem sc_need_set : FnScope N_need_set ["one", "many"] (defScope s_need_set) := ⟨rfl, rfl, rfl, by decide +kernel, rfl, by decide +kernel, by decide +kernel⟩
abbrev s_Book_swap : Stmt := clsAt (top 20) 4
abbrev N_Book_swap : List Str := ["self", "name", "other"]
theorem sc_Book_swap : FnScope N_Book_swap ["self", "name", "other"] (defScope s_Book_swap) := ⟨rfl, rfl, rfl, by decide +kernel, rfl, by decide +kernel, by decide +kernel⟩
abbrev s_Book_undo : Stmt := clsAt (top 20) 5
abbrev N_Book_undo : List Str := ["self", "word", "one", "other"]
theorem sc_Book_undo : FnScope N_Book_undo ["self"] (defScope s_Book_undo) := ⟨rfl, rfl, rfl, by decide +kernel, rfl, by decide +kernel, by decide +kernel⟩
abbrev s_law_behind : Stmt := top 29
abbrev N_law_behind : List Str := ["_law_numbers", "_law_word", "_law_one", "_law_other", "_law_found", "_law_spot"]
theorem sc_law_behind : FnScope N_law_behind ["_law_numbers", "_law_word", "_law_one", "_law_other"] (defScope s_law_behind) := ⟨rfl, rfl, rfl, by decide +kernel, rfl, by decide +kernel, by decide +kernel⟩
abbrev s_blank : Stmt := top 18
abbrev N_blank : List Str := ["many"]
theorem sc_blank : FnScope N_blank ["many"] (defScope s_blank) := ⟨rfl, rfl, rfl, by decide +kernel, rfl, by decide +kernel, by decide +kernel⟩
abbrev s_Book_put : Stmt := clsAt (top 20) 3
abbrev N_Book_put : List Str := ["self", "one", "number"]
theorem sc_Book_put : FnScope N_Book_put ["self", "one", "number"] (defScope s_Book_put) := ⟨rfl, rfl, rfl, by decide +kernel, rfl, by decide +kernel, by decide +kernel⟩
abbrev s_Book_value : Stmt := clsAt (top 20) 6
abbrev N_Book_value : List Str := ["self", "one"]
theorem sc_Book_value : FnScope N_Book_value ["self", "one"] (defScope s_Book_value) := ⟨rfl, rfl, rfl, by decide +kernel, rfl, by decide +kernel, by decide +kernel⟩
abbrev s_Book_under : Stmt := clsAt (top 20) 7
abbrev N_Book_under : List Str := ["self", "one"]
theorem sc_Book_under : FnScope N_Book_under ["self", "one"] (defScope s_Book_under) := ⟨rfl, rfl, rfl, by decide +kernel, rfl, by decide +kernel, by decide +kernel⟩
abbrev s_Book_over : Stmt := clsAt (top 20) 8
abbrev N_Book_over : List Str := ["self", "one"]
theorem sc_Book_over : FnScope N_Book_over ["self", "one"] (defScope s_Book_over) := ⟨rfl, rfl, rfl, by decide +kernel, rfl, by decide +kernel, by decide +kernel⟩
abbrev s_Book___init__ : Stmt := clsAt (top 20) 0
abbrev N_Book___init__ : List Str := ["self", "many"]
theorem sc_Book___init__ : FnScope N_Book___init__ ["self", "many"] (defScope s_Book___init__) := ⟨rfl, rfl, rfl, by decide +kernel, rfl, by decide +kernel, by decide +kernel⟩
abbrev s_law_caught : Stmt := top 30
abbrev N_law_caught : List Str := ["_law_book", "_law_word", "_law_one", "_law_other", "_law_caught_here", "_law_told", "error"]
theorem sc_law_caught : FnScope N_law_caught ["_law_book", "_law_word", "_law_one", "_law_other"] (defScope s_law_caught) := ⟨rfl, rfl, rfl, by decide +kernel, rfl, by decide +kernel, by decide +kernel⟩
abbrev s_law_seen : Stmt := top 32
abbrev N_law_seen : List Str := ["_law_book", "_law_rows", "_law_number", "_law_held", "_law_numbers", "_law_size", "_law_one", "_law_low", "_law_other", "_law_high", "_law_k", "_law_way", "_law_found"]
theorem sc_law_seen : FnScope N_law_seen ["_law_book", "_law_rows", "_law_number", "_law_held"] (defScope s_law_seen) := ⟨rfl, rfl, rfl, by decide +kernel, rfl, by decide +kernel, by decide +kernel⟩
abbrev s_law_deed : Stmt := top 34
abbrev N_law_deed : List Str := ["_law_book", "_law_many", "_law_rows", "_law_number", "_law_great", "_law_way", "_law_word", "_law_one", "_law_other", "_law_due", "_law_caught_here", "_law_told", "_law_deed_here"]
theorem sc_law_deed : FnScope N_law_deed ["_law_book", "_law_many", "_law_rows", "_law_number", "_law_great"] (defScope s_law_deed) := ⟨rfl, rfl, rfl, by decide +kernel, rfl, by decide +kernel, by decide +kernel⟩
abbrev s_law_made : Stmt := top 31
abbrev N_law_made : List Str := ["_law_many", "_law_caught_here", "error"]
theorem sc_law_made : FnScope N_law_made ["_law_many"] (defScope s_law_made) := ⟨rfl, rfl, rfl, by decide +kernel, rfl, by decide +kernel, by decide +kernel⟩
abbrev s_law : Stmt := top 35
abbrev N_law : List Str := ["_law_script", "_law_manys", "_law_books", "_law_many", "_law_rows", "_law_held", "_law_odd", "_law_k", "_law_number", "_law_which", "_law_great", "_law_side", "_law_turn", "_law_pair"]
theorem sc_law : FnScope N_law ["_law_script"] (defScope s_law) := ⟨rfl, rfl, rfl, by decide +kernel, rfl, by decide +kernel, by decide +kernel⟩
structure Txt (K : PySem.W.Frag) (mg : Str → Option Value) : Prop where
  n_ValueError : mg "ValueError" = none
  n_all : mg "all" = none
  n_bool : mg "bool" = none
  n_int : mg "int" = none
  n_isinstance : mg "isinstance" = none
  n_len : mg "len" = none
  n_list : mg "list" = none
  n_max : mg "max" = none
  n_min : mg "min" = none
  n_range : mg "range" = none
  n_sum : mg "sum" = none
  k_MOST_NAMES : ∃ t, mg "MOST_NAMES" = some (.int 10 t)
  c_SetError : ExcT K mg "SetError"
  c_BadCount : ExcT K mg "BadCount"
  c_BadSet : ExcT K mg "BadSet"
  c_BadName : ExcT K mg "BadName"
  c_BadNumber : ExcT K mg "BadNumber"
  c_BadOrder : ExcT K mg "BadOrder"
  c_BadTable : ExcT K mg "BadTable"
  c_Unlike : ExcT K mg "Unlike"
  c_NoCover : ExcT K mg "NoCover"
  c_NothingDone : ExcT K mg "NothingDone"
  d_is_whole : DefAt K mg "is_whole" s_is_whole ["thing"]
  d_Book_add_at : MethAt K "Book" "add_at" "Book.add_at" s_Book_add_at ["self", "one", "number"]
  d_Book_table : MethAt K "Book" "table" "Book.table" s_Book_table ["self"]
  d_Book_many_done : MethAt K "Book" "many_done" "Book.many_done" s_Book_many_done ["self"]
  d_swapped : DefAt K mg "swapped" s_swapped ["one", "name", "other"]
  d_law_cell : DefAt K mg "_law_cell" s_law_cell ["_law_script", "_law_k"]
  d_law_kind : DefAt K mg "_law_kind" s_law_kind ["_law_caught_here"]
  d_law_bits : DefAt K mg "_law_bits" s_law_bits ["_law_one"]
  d_law_is_table : DefAt K mg "_law_is_table" s_law_is_table ["_law_found", "_law_due"]
  d_law_wrong : DefAt K mg "_law_wrong" s_law_wrong ["_law_many", "_law_number"]
  d_is_among : DefAt K mg "is_among" s_is_among ["thing", "least", "most"]
  d_Book_exchange : MethAt K "Book" "exchange" "Book.exchange" s_Book_exchange ["self", "name", "other"]
  d_law_mixed : DefAt K mg "_law_mixed" s_law_mixed ["_law_script", "_law_k"]
  d_law_turned : DefAt K mg "_law_turned" s_law_turned ["_law_one", "_law_name", "_law_other"]
  d_need_count : DefAt K mg "need_count" s_need_count ["many"]
  d_need_set : DefAt K mg "need_set" s_need_set ["one", "many"]
  d_Book_swap : MethAt K "Book" "swap" "Book.swap" s_Book_swap ["self", "name", "other"]
  d_Book_undo : MethAt K "Book" "undo" "Book.undo" s_Book_undo ["self"]
  d_law_behind : DefAt K mg "_law_behind" s_law_behind ["_law_numbers", "_law_word", "_law_one", "_law_other"]
  d_blank : DefAt K mg "blank" s_blank ["many"]
  d_Book_put : MethAt K "Book" "put" "Book.put" s_Book_put ["self", "one", "number"]
  d_Book_value : MethAt K "Book" "value" "Book.value" s_Book_value ["self", "one"]
  d_Book_under : MethAt K "Book" "under" "Book.under" s_Book_under ["self", "one"]
  d_Book_over : MethAt K "Book" "over" "Book.over" s_Book_over ["self", "one"]
  d_Book___init__ : InitAt K "Book" "Book.__init__" s_Book___init__ ["self", "many"]
  d_law_caught : DefAt K mg "_law_caught" s_law_caught ["_law_book", "_law_word", "_law_one", "_law_other"]
  d_law_seen : DefAt K mg "_law_seen" s_law_seen ["_law_book", "_law_rows", "_law_number", "_law_held"]
  d_law_deed : DefAt K mg "_law_deed" s_law_deed ["_law_book", "_law_many", "_law_rows", "_law_number", "_law_great"]
  d_law_made : DefAt K mg "_law_made" s_law_made ["_law_many"]
  d_law : DefAt K mg "law" s_law ["_law_script"]
  x : ExF K nineC nineC
  cl : Cls K (He.ga K "Book")
  gB : mg "Book" = some (.ref (He.ga K "Book"))
  na_numbers : NoAttr K (He.ga K "Book") "numbers"
  na_lows : NoAttr K (He.ga K "Book") "lows"
  na_highs : NoAttr K (He.ga K "Book") "highs"
  na_names : NoAttr K (He.ga K "Book") "names"
  na_done : NoAttr K (He.ga K "Book") "done"
section
variable {P : Program} {w : World} {K : PySem.W.Frag} {mg : Str → Option Value} {base : Heap}

def sp_is_whole (K : PySem.W.Frag) : Sp := fun vs H Q _ => ∃ x t, vs = [x] ∧ Kd K H x t ∧ Q (.bl (decide (t = .int))) H
theorem ok_is_whole (T : Txt K mg)  : Has P w K mg base 1 "is_whole" ["thing"] (sp_is_whole K) := by
  refine DefAt.has T.d_is_whole sc_is_whole (fun vs H Q E h => ?_) (fun f cdv A outer s H vs Q E hr h => ⟨_, (pss_one (ps_ret (pe_and (pe_callB (id := "isinstance") (k_isK K) (by rfl) T.n_isinstance (by decide +kernel) (pa_cons (pv 0) (pa_cons (pe_ty "int" (by rfl) T.n_int (by decide +kernel)) pa_nil))) (pe_one (pe_not (pe_callB (id := "isinstance") (k_isK K) (by rfl) T.n_isinstance (by decide +kernel) (pa_cons (pv 0) (pa_cons (pe_ty "bool" (by rfl) T.n_bool (by decide +kernel)) pa_nil)))))))), ?_⟩)
  · obtain ⟨x, t, rfl, _⟩ := h
    rfl
  · obtain ⟨x, t, rfl, hk, q⟩ := h
    simp only [L2.start, N_is_whole, List.map_cons, List.map_nil, List.length_cons, List.length_nil, List.replicate_succ, List.replicate_zero, Nat.reduceAdd, Nat.reduceSub, List.cons_append, List.nil_append]
    walk_at "rd"
    refine ⟨t, hk, ?_⟩
    cases t <;> first | exact q | exact ⟨_, hk, q⟩

def sp_Book_add_at (K : PySem.W.Frag) : Sp := fun vs H Q _ => ∃ (b dx nu lo hi dn : Addr) (n one : Nat) (z : Int) (ns ls hs : List Int), vs = [.ref b, .int (one : Nat), .int z] ∧ [b, nu, lo, hi].Nodup ∧ n ≤ 10 ∧ one < 2 ^ n ∧
  H b = some (.ins (He.ga K "Book") dx (bkF nu lo hi n dn)) ∧ H nu = some (.lst (ns.map V.int)) ∧ H lo = some (.lst (ls.map V.int)) ∧ H hi = some (.lst (hs.map V.int)) ∧ ns.length = 2 ^ n ∧ ls.length = 2 ^ n ∧ hs.length = 2 ^ n ∧
  ∀ H', (∀ a, a ≠ nu → a ≠ lo → a ≠ hi → H' a = H a) → H' nu = some (.lst ((putL one z ns).map V.int)) → H' lo = some (.lst ((moreL (2 ^ n) (fun s => decide (s &&& one = one)) z ls).map V.int)) → H' hi = some (.lst ((moreL (2 ^ n) (fun s => decide (s &&& one = s)) z hs).map V.int)) → Q .non H'
theorem ok_Book_add_at (T : Txt K mg)  : HasM P w K mg base 1 "Book" "add_at" ["self", "one", "number"] (sp_Book_add_at K) := by
  refine MethAt.has T.d_Book_add_at sc_Book_add_at (fun vs H Q E h => ?_) (fun f cdv A outer s H vs Q E hr h => ⟨_, (pss_cons (ps_asg (pe_op op_add (pe_ix (k_ixl K) (k_fld K (pv 0)) (pv 1) (fun _ _ => rfl)) (pv 2)) (pg_sub (k_fld K (pv 0)) (pv 1) set_list))
      (pss_one (ps_for (passes_of rfl) rfl (pi_range1 rfl T.n_range (pa_cons (pe_callB (id := "len") (k_len K) (by rfl) T.n_len (by decide +kernel) (pa_cons (k_fld K (pv 0)) pa_nil)) pa_nil)) (pg_name (i := 3) sc_Book_add_at.nd rfl (Or.inl rfl))
      (pss_cons (ps_if (pt_cmpR op_eq (pe_op op_and (pv 3) (pv 1)) (pv 1) (nomark _))
      (pss_one (ps_asg (pe_op op_add (pe_ix (k_ixl K) (k_fld K (pv 0)) (pv 3) (fun _ _ => rfl)) (pv 2)) (pg_sub (k_fld K (pv 0)) (pv 3) set_list))) pss_nil)
      (pss_one (ps_if (pt_cmpR op_eq (pe_op op_and (pv 3) (pv 1)) (pv 3) (nomark _))
      (pss_one (ps_asg (pe_op op_add (pe_ix (k_ixl K) (k_fld K (pv 0)) (pv 3) (fun _ _ => rfl)) (pv 2)) (pg_sub (k_fld K (pv 0)) (pv 3) set_list))) pss_nil)))))), ?_⟩)
  · obtain ⟨b, dx, nu, lo, hi, dn, n, one, z, ns, ls, hs, rfl, _⟩ := h
    rfl
  · obtain ⟨b, dx, nu, lo, hi, dn, n, one, z, ns, ls, hs, rfl, nd, hn, ho, hb, hnu, hlo, hhi, ln, ll, lh, q⟩ := h
    simp only [L2.start, N_Book_add_at, List.map_cons, List.map_nil, List.length_cons, List.length_nil, List.replicate_succ, List.replicate_zero, Nat.reduceAdd, Nat.reduceSub, List.cons_append, List.nil_append]
    simp only [List.nodup_cons, List.mem_cons, List.mem_nil_iff, or_false, not_or, not_false_eq_true, List.nodup_nil, and_true] at nd
    obtain ⟨⟨b1, b2, b3⟩, ⟨n1, n2⟩, l1⟩ := nd
    refine seq_cut1 fun R1 h1 => ?_
    walk_at "rl"
    generalize hN : 2 ^ n = N at *
    have hN2 : N ≤ 1024 := by rw [← hN]; exact pow_le hn
    refine ⟨_, _, _, hb, T.cl, T.na_numbers, _, lk_numbers, nu, rfl, _, .inl (.inl hnu), _, at_int (by omega), _, rfl, _, _, _, hb, T.cl, T.na_numbers, _, lk_numbers, nu, rfl, _, hnu, _, ix_int (by omega), ?_⟩
    rw [set_int]
    have g0 : ns.set one (ns.getD one 0 + z) = putL one z ns := rfl
    rw [g0]
    generalize hG : upd H nu (.lst ((putL one z ns).map V.int)) = G
    have f1 := upd_at hG
    have k1 : ∀ a, a ≠ nu → G a = H a := fun a h => by rw [← hG]; exact upd_ne h
    clear hG
    subst h1
    walk_at "rl"
    refine ⟨_, _, _, by rw [k1 b (fun z => b1 z)]; exact hb, T.cl, T.na_numbers, _, lk_numbers, nu, rfl, _, .inl (.inl (.inl f1)), ?_⟩
    rw [List.length_map, putL_length, ln]
    refine ⟨by omega, by omega, ?_⟩
    have hb' : ∀ H'' : Hp, (∀ a, a ≠ lo → a ≠ hi → H'' a = G a) → H'' b = some (.ins (He.ga K "Book") dx (bkF nu lo hi n dn)) := fun H'' h => by rw [h b b2 b3, k1 b b1]; exact hb
    refine w_rng0 (n := N) (fun i σ H'' => ∃ z3, σ = [some (.ref b), some (.int (one : Nat)), some (.int z), z3] ∧ (∀ a, a ≠ lo → a ≠ hi → H'' a = G a) ∧ H'' lo = some (.lst ((moreI N i (fun s => decide (s &&& one = one)) z ls).map V.int)) ∧ H'' hi = some (.lst ((moreI N i (fun s => decide (s &&& one = s)) z hs).map V.int)))
      ⟨_, rfl, fun a _ _ => rfl, by rw [k1 lo (fun z => n1 z.symm), more_0 _ _ ll]; exact hlo, by rw [k1 hi (fun z => n2 z.symm), more_0 _ _ lh]; exact hhi⟩ (fun i σ H'' hi' hP => ?_) (fun σ H'' hP => ?_)
    · obtain ⟨z3, rfl, kk, fl, fh⟩ := hP
      refine seq_cut1 fun R2 h2 => ?_
      walk_at "rd"
      have ll2 : (moreI N i (fun s => decide (s &&& one = one)) z ls).length = N := moreL_length _ _ _ _
      have lh2 : (moreI N i (fun s => decide (s &&& one = s)) z hs).length = N := moreL_length _ _ _ _
      have second : ∀ H3 : Hp, (∀ a, a ≠ lo → a ≠ hi → H3 a = G a) → H3 lo = some (.lst ((moreI N (i + 1) (fun s => decide (s &&& one = one)) z ls).map V.int)) → H3 hi = some (.lst ((moreI N i (fun s => decide (s &&& one = s)) z hs).map V.int)) → R2 { nx := fun σ H'' => ∃ z3, σ = [some (.ref b), some (.int (one : Nat)), some (.int z), z3] ∧ (∀ a, a ≠ lo → a ≠ hi → H'' a = G a) ∧ H'' lo = some (.lst ((moreI N (i + 1) (fun s => decide (s &&& one = one)) z ls).map V.int)) ∧ H'' hi = some (.lst ((moreI N (i + 1) (fun s => decide (s &&& one = s)) z hs).map V.int)), rt := Q, bk := fun σ H' => Q V.non H', ct := fun σ H'' => ∃ z3, σ = [some (.ref b), some (.int (one : Nat)), some (.int z), z3] ∧ (∀ a, a ≠ lo → a ≠ hi → H'' a = G a) ∧ H'' lo = some (.lst ((moreI N (i + 1) (fun s => decide (s &&& one = one)) z ls).map V.int)) ∧ H'' hi = some (.lst ((moreI N (i + 1) (fun s => decide (s &&& one = s)) z hs).map V.int)) } [some (.ref b), some (.int (one : Nat)), some (.int z), some (.int (i : Nat))] H3 := fun H3 kk3 fl3 fh3 => by
        subst h2
        walk_at "rd"
        refine ⟨rfl, ite2 (fun he => ?_) (fun he => ?_)⟩
        · have he2 : i &&& one = i := by omega
          refine ⟨_, _, _, hb' H3 kk3, T.cl, T.na_highs, _, lk_highs, hi, rfl, _, .inl (.inl fh3), _, at_int (by omega), _, rfl, _, _, _, hb' H3 kk3, T.cl, T.na_highs, _, lk_highs, hi, rfl, _, fh3, _, ix_int (by omega), fun a h1 h2 => by rw [upd_ne h2]; exact kk3 a h1 h2, by rw [upd_ne l1]; exact fl3, ?_⟩
          rw [upd_same, set_int]
          have := more_yes (z := z) (ls := hs) (c := fun s => decide (s &&& one = s)) hi' (decide_eq_true he2)
          rw [← this]
          rfl
        · have he2 : ¬ i &&& one = i := fun q => he (by rw [q])
          exact ⟨kk3, fl3, by rw [more_no (decide_eq_false he2)]; exact fh3⟩
      refine ⟨rfl, ite2 (fun he => ?_) (fun he => ?_)⟩
      · have he2 : i &&& one = one := by omega
        refine ⟨_, _, _, hb' H'' kk, T.cl, T.na_lows, _, lk_lows, lo, rfl, _, .inl (.inl fl), _, at_int (by omega), _, rfl, _, _, _, hb' H'' kk, T.cl, T.na_lows, _, lk_lows, lo, rfl, _, fl, _, ix_int (by omega), second _ (fun a h1 h2 => by rw [upd_ne h1]; exact kk a h1 h2) ?_ (by rw [upd_ne (fun q => l1 q.symm)]; exact fh)⟩
        rw [upd_same, set_int]
        have := more_yes (z := z) (ls := ls) (c := fun s => decide (s &&& one = one)) hi' (decide_eq_true he2)
        rw [← this]
        rfl
      · have he2 : ¬ i &&& one = one := fun q => he (by rw [q])
        exact second _ kk (by rw [more_no (decide_eq_false he2)]; exact fl) fh
    · obtain ⟨z3, rfl, kk, fl, fh⟩ := hP
      rw [more_N] at fl fh
      exact q H'' (fun a h0 h1 h2 => by rw [kk a h1 h2, k1 a h0]) (by rw [kk nu n1 n2]; exact f1) fl fh

def sp_Book_table (K : PySem.W.Frag) : Sp := fun vs H Q _ => ∃ (b : Addr) (O : List Addr) (n : Nat) (ns : List Int) (ds : List Deed), vs = [.ref b] ∧ BookAt K H b O n ns ds ∧ RetL (ns.map V.int) H Q
theorem ok_Book_table (T : Txt K mg)  : HasM P w K mg base 1 "Book" "table" ["self"] (sp_Book_table K) := by
  refine MethAt.has T.d_Book_table sc_Book_table (fun vs H Q E h => ?_) (fun f cdv A outer s H vs Q E hr h => ⟨_, (pss_one (ps_ret (pe_callTy (T := "list") (k_list K) (by rfl) T.n_list (by decide +kernel) (pa_cons (k_fld K (pv 0)) pa_nil)))), ?_⟩)
  · obtain ⟨b, O, n, ns, ds, rfl, _⟩ := h
    rfl
  · obtain ⟨b, O, n, ns, ds, rfl, B, q⟩ := h
    simp only [L2.start, N_Book_table, List.map_cons, List.map_nil, List.length_cons, List.length_nil, List.replicate_succ, List.replicate_zero, Nat.reduceAdd, Nat.reduceSub, List.cons_append, List.nil_append]
    obtain ⟨dx, nu, lo, hi, dn, xs, h0, hnd, hb, hnu, hlo, hhi, hdn, hds⟩ := B.ex
    walk_at "rl"
    exact ⟨_, _, _, hb, T.cl, T.na_numbers, _, lk_numbers, nu, rfl, _, .inl (.inl (.inl hnu)), fun l nl => q l _ nl (Ex.new nl) upd_same⟩

def sp_Book_many_done (K : PySem.W.Frag) : Sp := fun vs H Q _ => ∃ (b : Addr) (O : List Addr) (n : Nat) (ns : List Int) (ds : List Deed), vs = [.ref b] ∧ BookAt K H b O n ns ds ∧ Q (.int (ds.length : Nat)) H
theorem ok_Book_many_done (T : Txt K mg)  : HasM P w K mg base 1 "Book" "many_done" ["self"] (sp_Book_many_done K) := by
  refine MethAt.has T.d_Book_many_done sc_Book_many_done (fun vs H Q E h => ?_) (fun f cdv A outer s H vs Q E hr h => ⟨_, (pss_one (ps_ret (pe_callB (id := "len") (k_len K) (by rfl) T.n_len (by decide +kernel) (pa_cons (k_fld K (pv 0)) pa_nil)))), ?_⟩)
  · obtain ⟨b, O, n, ns, ds, rfl, _⟩ := h
    rfl
  · obtain ⟨b, O, n, ns, ds, rfl, B, q⟩ := h
    simp only [L2.start, N_Book_many_done, List.map_cons, List.map_nil, List.length_cons, List.length_nil, List.replicate_succ, List.replicate_zero, Nat.reduceAdd, Nat.reduceSub, List.cons_append, List.nil_append]
    obtain ⟨dx, nu, lo, hi, dn, xs, h0, hnd, hb, hnu, hlo, hhi, hdn, hds⟩ := B.ex
    walk_at "rl"
    refine ⟨_, _, _, hb, T.cl, T.na_done, _, lk_done, dn, rfl, _, .inl (.inl (.inl hdn)), ?_⟩
    rw [hds.len]
    exact q

def sp_swapped (K : PySem.W.Frag) : Sp := fun vs H Q _ => ∃ s a c : Nat, vs = [.int (s : Nat), .int (a : Nat), .int (c : Nat)] ∧ a ≤ 1000 ∧ c ≤ 1000 ∧ Q (.int (swM s a c : Nat)) H
theorem ok_swapped (T : Txt K mg)  : Has P w K mg base 1 "swapped" ["one", "name", "other"] (sp_swapped K) := by
  refine DefAt.has T.d_swapped sc_swapped (fun vs H Q E h => ?_) (fun f cdv A outer s H vs Q E hr h => ⟨_, (pss_cons (ps_if (pt_cmpR op_eq (pe_op op_and (pe_op op_sr (pv 0) (pv 1)) pe_int) (pe_op op_and (pe_op op_sr (pv 0) (pv 2)) pe_int) (nomark _))
      (pss_one (ps_ret (pv 0))) pss_nil)
      (pss_one (ps_ret (pe_op op_xor (pv 0) (pe_op op_or (pe_op op_sh pe_int (pv 1)) (pe_op op_sh pe_int (pv 2))))))), ?_⟩)
  · obtain ⟨s, a, c, rfl, _⟩ := h
    rfl
  · obtain ⟨s, a, c, rfl, ha, hc, q⟩ := h
    simp only [L2.start, N_swapped, List.map_cons, List.map_nil, List.length_cons, List.length_nil, List.replicate_succ, List.replicate_zero, Nat.reduceAdd, Nat.reduceSub, List.cons_append, List.nil_append]
    walk_at "rd"
    refine ⟨by omega, by omega, rfl, ?_⟩
    unfold swM at q
    rw [Nat.testBit_eq_decide_div_mod_eq, Nat.testBit_eq_decide_div_mod_eq] at q
    have h1 : s / 2 ^ a % 2 < 2 := Nat.mod_lt _ (by decide)
    have h2 : s / 2 ^ c % 2 < 2 := Nat.mod_lt _ (by decide)
    generalize s / 2 ^ a % 2 = x at *
    generalize s / 2 ^ c % 2 = y at *
    by_cases e : x = y
    · rw [if_pos (by rw [e])] at q
      rw [if_pos (by rw [e])]
      exact q
    · rw [if_neg (fun z => e (by
        by_cases h3 : x = 1
        · rw [decide_eq_true h3] at z
          have := of_decide_eq_true z.symm
          omega
        · rw [decide_eq_false h3] at z
          have := of_decide_eq_false z.symm
          omega))] at q
      rw [if_neg (fun z => e (by omega))]
      exact ⟨cpow1 (by omega), cpow1 (by omega), q⟩

def sp_law_cell (K : PySem.W.Frag) : Sp := fun vs H Q _ => ∃ a ns k, vs = [.ref a, .int (k : Nat)] ∧ SqL K H a (ns.map V.int) ∧ RetV (.int (cellM ns k)) H Q
theorem ok_law_cell (T : Txt K mg)  : Has P w K mg base 1 "_law_cell" ["_law_script", "_law_k"] (sp_law_cell K) := by
  refine DefAt.has T.d_law_cell sc_law_cell (fun vs H Q E h => ?_) (fun f cdv A outer s H vs Q E hr h => ⟨_, (pss_one (ps_ret (pe_op op_mod (pe_ix (k_ixl K) (pe_op op_cat (pe_slice (k_sll K) (pv 0) (po_some (pv 1)) (po_some (pe_op op_add (pv 1) pe_int))) (pe_lst (pa_cons pe_int pa_nil))) pe_int (fun _ _ => rfl)) (pe_op op_pw pe_int pe_int)))), ?_⟩)
  · obtain ⟨a, ns, k, rfl, _⟩ := h
    rfl
  · obtain ⟨a, ns, k, rfl, hA, q⟩ := h
    simp only [L2.start, N_law_cell, List.map_cons, List.map_nil, List.length_cons, List.length_nil, List.replicate_succ, List.replicate_zero, Nat.reduceAdd, Nat.reduceSub, List.cons_append, List.nil_append]
    walk_at "rd"
    refine ⟨_, hA, fun p np => ⟨by decide, fun p1 np1 => ?_⟩⟩
    have e1 := Ex.new (o := HO.lst (cutV (ns.map V.int) (some (k : Int)) (some ((k : Int) + 1)))) np
    have e2 := Ex.new (o := HO.lst [V.int 0]) np1
    refine ⟨_, e2 p _ upd_same, _, upd_same, ?_, fun p2 np2 => ?_⟩
    · rw [cut1]
      exact sz_of (by simp; omega)
    · have e3 := Ex.new (o := HO.lst (cutV (ns.map V.int) (some (k : Int)) (some ((k : Int) + 1)) ++ [V.int 0])) np2
      refine ⟨_, .inl (.inl upd_same), _, by rw [cut1]; exact cell_at ns k, ⟨by decide, by decide⟩, _, rfl, by decide, ?_⟩
      exact q _ ((e1.trans e2).trans e3)

def sp_law_kind (K : PySem.W.Frag) : Sp := fun vs H Q _ => ∃ e, vs = [e] ∧ ((e = .non ∧ RetL [V.str "none"] H Q) ∨ ∃ a C, e = .ref a ∧ C ∈ nineC ∧ H a = some (ExK (.ref (He.ga K C)) a) ∧ RetL (kindV C) H Q)
theorem ok_law_kind (T : Txt K mg)  : Has P w K mg base 1 "_law_kind" ["_law_caught_here"] (sp_law_kind K) := by
  refine DefAt.has T.d_law_kind sc_law_kind (fun vs H Q E h => ?_) (fun f cdv A outer s H vs Q E hr h => ⟨_, (pss_cons (ps_if (pt_cmp (pc_isN (pv 0)) rfl)
      (pss_one (ps_ret (pe_lst (pa_cons pe_str pa_nil)))) pss_nil)
      (pss_cons (ps_set (i := 1) sc_law_kind.nd rfl (Or.inl rfl) (pe_lst (pa_cons (pe_tup (pa_cons pe_str (pa_cons (pe_callB (id := "isinstance") (k_isX K) (by rfl) T.n_isinstance (by decide +kernel) (pa_cons (pv 0) (pa_cons (k_cls K T.c_BadCount rfl) pa_nil))) pa_nil))) (pa_cons (pe_tup (pa_cons pe_str (pa_cons (pe_callB (id := "isinstance") (k_isX K) (by rfl) T.n_isinstance (by decide +kernel) (pa_cons (pv 0) (pa_cons (k_cls K T.c_BadSet rfl) pa_nil))) pa_nil))) pa_nil))))
      (pss_cons (ps_set (i := 1) sc_law_kind.nd rfl (Or.inl rfl) (pe_op op_cat (pv 1) (pe_lst (pa_cons (pe_tup (pa_cons pe_str (pa_cons (pe_callB (id := "isinstance") (k_isX K) (by rfl) T.n_isinstance (by decide +kernel) (pa_cons (pv 0) (pa_cons (k_cls K T.c_BadName rfl) pa_nil))) pa_nil))) (pa_cons (pe_tup (pa_cons pe_str (pa_cons (pe_callB (id := "isinstance") (k_isX K) (by rfl) T.n_isinstance (by decide +kernel) (pa_cons (pv 0) (pa_cons (k_cls K T.c_BadNumber rfl) pa_nil))) pa_nil))) pa_nil)))))
      (pss_cons (ps_set (i := 1) sc_law_kind.nd rfl (Or.inl rfl) (pe_op op_cat (pv 1) (pe_lst (pa_cons (pe_tup (pa_cons pe_str (pa_cons (pe_callB (id := "isinstance") (k_isX K) (by rfl) T.n_isinstance (by decide +kernel) (pa_cons (pv 0) (pa_cons (k_cls K T.c_BadOrder rfl) pa_nil))) pa_nil))) (pa_cons (pe_tup (pa_cons pe_str (pa_cons (pe_callB (id := "isinstance") (k_isX K) (by rfl) T.n_isinstance (by decide +kernel) (pa_cons (pv 0) (pa_cons (k_cls K T.c_BadTable rfl) pa_nil))) pa_nil))) pa_nil)))))
      (pss_cons (ps_set (i := 1) sc_law_kind.nd rfl (Or.inl rfl) (pe_op op_cat (pv 1) (pe_lst (pa_cons (pe_tup (pa_cons pe_str (pa_cons (pe_callB (id := "isinstance") (k_isX K) (by rfl) T.n_isinstance (by decide +kernel) (pa_cons (pv 0) (pa_cons (k_cls K T.c_Unlike rfl) pa_nil))) pa_nil))) (pa_cons (pe_tup (pa_cons pe_str (pa_cons (pe_callB (id := "isinstance") (k_isX K) (by rfl) T.n_isinstance (by decide +kernel) (pa_cons (pv 0) (pa_cons (k_cls K T.c_NoCover rfl) pa_nil))) pa_nil))) pa_nil)))))
      (pss_cons (ps_set (i := 1) sc_law_kind.nd rfl (Or.inl rfl) (pe_op op_cat (pv 1) (pe_lst (pa_cons (pe_tup (pa_cons pe_str (pa_cons (pe_callB (id := "isinstance") (k_isX K) (by rfl) T.n_isinstance (by decide +kernel) (pa_cons (pv 0) (pa_cons (k_cls K T.c_NothingDone rfl) pa_nil))) pa_nil))) (pa_cons (pe_tup (pa_cons pe_str (pa_cons (pe_callB (id := "isinstance") (k_isX K) (by rfl) T.n_isinstance (by decide +kernel) (pa_cons (pv 0) (pa_cons (pe_ty "ValueError" (by rfl) T.n_ValueError (by decide +kernel)) pa_nil))) pa_nil))) pa_nil)))))
      (pss_one (ps_ret (pe_lc (own := [("_law_word", 2), ("_law_is_one", 3)]) (g := gTup K 2 (gCons (gName 2) (gCons (gName 3) gNil))) rfl sc_law_kind.nd (k_pil K (pv 1)) (blkOk_by (own := [("_law_word", 2), ("_law_is_one", 3)]) (N := N_law_kind) (sc := defScope s_law_kind) (by decide +kernel)) (fun _ _ _ _ _ => (k_pgt K rfl (pgs_cons (pg_name (i := 2) sc_law_kind.nd rfl (Or.inl rfl)) (pgs_cons (pg_name (i := 3) sc_law_kind.nd rfl (Or.inl rfl)) pgs_nil)))) (fun _ _ _ _ _ => (pts_one (pt_val (pv 3)))) (fun _ _ _ _ _ => (pv 2))))))))))), ?_⟩)
  · obtain ⟨e, rfl, _⟩ := h
    rfl
  · obtain ⟨e, rfl, h⟩ := h
    simp only [L2.start, N_law_kind, List.map_cons, List.map_nil, List.length_cons, List.length_nil, List.replicate_succ, List.replicate_zero, Nat.reduceAdd, Nat.reduceSub, List.cons_append, List.nil_append]
    walk_at "rl"
    rcases h with ⟨rfl, q⟩ | ⟨a, C, rfl, hC, ha, q⟩
    · rw [if_pos rfl]
      exact ⟨by decide, fun p np => q p _ np (Ex.new np) upd_same⟩
    · rw [if_neg (by intro z; cases z)]
      refine isx_go T.x hC ha (by decide) ⟨sz_of (by simp), ?_⟩
      intro p1 n1
      generalize hG1 : upd _ p1 _ = G1
      have x1 := upd_ex hG1 n1
      have f1 := upd_at hG1
      have e1 : Ex H G1 := x1
      clear hG1
      refine isx_go T.x hC (e1 _ _ ha) (by decide) ⟨sz_of (by simp), ?_⟩
      intro p2 n2
      generalize hG2 : upd _ p2 _ = G2
      have x2 := upd_ex hG2 n2
      have f2 := upd_at hG2
      have e2 : Ex H G2 := e1.trans x2
      clear hG2
      refine ⟨sz_of (by simp), ?_⟩
      intro p3 n3
      generalize hG3 : upd _ p3 _ = G3
      have x3 := upd_ex hG3 n3
      have f3 := upd_at hG3
      have e3 : Ex H G3 := e2.trans x3
      clear hG3
      refine isx_go T.x hC (e3 _ _ ha) (by decide) ⟨sz_of (by simp), ?_⟩
      intro p4 n4
      generalize hG4 : upd _ p4 _ = G4
      have x4 := upd_ex hG4 n4
      have f4 := upd_at hG4
      have e4 : Ex H G4 := e3.trans x4
      clear hG4
      refine isx_go T.x hC (e4 _ _ ha) (by decide) ⟨sz_of (by simp), ?_⟩
      intro p5 n5
      generalize hG5 : upd _ p5 _ = G5
      have x5 := upd_ex hG5 n5
      have f5 := upd_at hG5
      have e5 : Ex H G5 := e4.trans x5
      clear hG5
      refine ⟨sz_of (by simp), ?_⟩
      intro p6 n6
      generalize hG6 : upd _ p6 _ = G6
      have x6 := upd_ex hG6 n6
      have f6 := upd_at hG6
      have e6 : Ex H G6 := e5.trans x6
      clear hG6
      refine ⟨_, ((x4.trans x5).trans x6) _ _ f3, _, f6, sz_of (by simp), ?_⟩
      intro p7 n7
      generalize hG7 : upd _ p7 _ = G7
      have x7 := upd_ex hG7 n7
      have f7 := upd_at hG7
      have e7 : Ex H G7 := e6.trans x7
      clear hG7
      refine isx_go T.x hC (e7 _ _ ha) (by decide) ⟨sz_of (by simp), ?_⟩
      intro p8 n8
      generalize hG8 : upd _ p8 _ = G8
      have x8 := upd_ex hG8 n8
      have f8 := upd_at hG8
      have e8 : Ex H G8 := e7.trans x8
      clear hG8
      refine isx_go T.x hC (e8 _ _ ha) (by decide) ⟨sz_of (by simp), ?_⟩
      intro p9 n9
      generalize hG9 : upd _ p9 _ = G9
      have x9 := upd_ex hG9 n9
      have f9 := upd_at hG9
      have e9 : Ex H G9 := e8.trans x9
      clear hG9
      refine ⟨sz_of (by simp), ?_⟩
      intro p10 n10
      generalize hG10 : upd _ p10 _ = G10
      have x10 := upd_ex hG10 n10
      have f10 := upd_at hG10
      have e10 : Ex H G10 := e9.trans x10
      clear hG10
      refine ⟨_, ((x8.trans x9).trans x10) _ _ f7, _, f10, sz_of (by simp), ?_⟩
      intro p11 n11
      generalize hG11 : upd _ p11 _ = G11
      have x11 := upd_ex hG11 n11
      have f11 := upd_at hG11
      have e11 : Ex H G11 := e10.trans x11
      clear hG11
      refine isx_go T.x hC (e11 _ _ ha) (by decide) ⟨sz_of (by simp), ?_⟩
      intro p12 n12
      generalize hG12 : upd _ p12 _ = G12
      have x12 := upd_ex hG12 n12
      have f12 := upd_at hG12
      have e12 : Ex H G12 := e11.trans x12
      clear hG12
      refine isx_go T.x hC (e12 _ _ ha) (by decide) ⟨sz_of (by simp), ?_⟩
      intro p13 n13
      generalize hG13 : upd _ p13 _ = G13
      have x13 := upd_ex hG13 n13
      have f13 := upd_at hG13
      have e13 : Ex H G13 := e12.trans x13
      clear hG13
      refine ⟨sz_of (by simp), ?_⟩
      intro p14 n14
      generalize hG14 : upd _ p14 _ = G14
      have x14 := upd_ex hG14 n14
      have f14 := upd_at hG14
      have e14 : Ex H G14 := e13.trans x14
      clear hG14
      refine ⟨_, ((x12.trans x13).trans x14) _ _ f11, _, f14, sz_of (by simp), ?_⟩
      intro p15 n15
      generalize hG15 : upd _ p15 _ = G15
      have x15 := upd_ex hG15 n15
      have f15 := upd_at hG15
      have e15 : Ex H G15 := e14.trans x15
      clear hG15
      refine isx_go T.x hC (e15 _ _ ha) (by decide) ⟨sz_of (by simp), ?_⟩
      intro p16 n16
      generalize hG16 : upd _ p16 _ = G16
      have x16 := upd_ex hG16 n16
      have f16 := upd_at hG16
      have e16 : Ex H G16 := e15.trans x16
      clear hG16
      refine isx_ve T.x hC (e16 _ _ ha) ⟨sz_of (by simp), ?_⟩
      intro p17 n17
      generalize hG17 : upd _ p17 _ = G17
      have x17 := upd_ex hG17 n17
      have f17 := upd_at hG17
      have e17 : Ex H G17 := e16.trans x17
      clear hG17
      refine ⟨sz_of (by simp), ?_⟩
      intro p18 n18
      generalize hG18 : upd _ p18 _ = G18
      have x18 := upd_ex hG18 n18
      have f18 := upd_at hG18
      have e18 : Ex H G18 := e17.trans x18
      clear hG18
      refine ⟨_, ((x16.trans x17).trans x18) _ _ f15, _, f18, sz_of (by simp), ?_⟩
      intro p19 n19
      generalize hG19 : upd _ p19 _ = G19
      have x19 := upd_ex hG19 n19
      have f19 := upd_at hG19
      have e19 : Ex H G19 := e18.trans x19
      clear hG19
      have hxs : SqL K G19 p19 [V.ref p1, V.ref p2, V.ref p4, V.ref p5, V.ref p8, V.ref p9, V.ref p12, V.ref p13, V.ref p16, V.ref p17] := .inl (.inl f19)
      have t0 : SqT K G19 p1 [.str "count", .bl (decide (C = "BadCount"))] := .inl (.inl ((((((((((((((((((x2.trans x3).trans x4).trans x5).trans x6).trans x7).trans x8).trans x9).trans x10).trans x11).trans x12).trans x13).trans x14).trans x15).trans x16).trans x17).trans x18).trans x19) _ _ f1))
      have t1 : SqT K G19 p2 [.str "set", .bl (decide (C = "BadSet"))] := .inl (.inl (((((((((((((((((x3.trans x4).trans x5).trans x6).trans x7).trans x8).trans x9).trans x10).trans x11).trans x12).trans x13).trans x14).trans x15).trans x16).trans x17).trans x18).trans x19) _ _ f2))
      have t2 : SqT K G19 p4 [.str "name", .bl (decide (C = "BadName"))] := .inl (.inl (((((((((((((((x5.trans x6).trans x7).trans x8).trans x9).trans x10).trans x11).trans x12).trans x13).trans x14).trans x15).trans x16).trans x17).trans x18).trans x19) _ _ f4))
      have t3 : SqT K G19 p5 [.str "number", .bl (decide (C = "BadNumber"))] := .inl (.inl ((((((((((((((x6.trans x7).trans x8).trans x9).trans x10).trans x11).trans x12).trans x13).trans x14).trans x15).trans x16).trans x17).trans x18).trans x19) _ _ f5))
      have t4 : SqT K G19 p8 [.str "order", .bl (decide (C = "BadOrder"))] := .inl (.inl (((((((((((x9.trans x10).trans x11).trans x12).trans x13).trans x14).trans x15).trans x16).trans x17).trans x18).trans x19) _ _ f8))
      have t5 : SqT K G19 p9 [.str "table", .bl (decide (C = "BadTable"))] := .inl (.inl ((((((((((x10.trans x11).trans x12).trans x13).trans x14).trans x15).trans x16).trans x17).trans x18).trans x19) _ _ f9))
      have t6 : SqT K G19 p12 [.str "unlike", .bl (decide (C = "Unlike"))] := .inl (.inl (((((((x13.trans x14).trans x15).trans x16).trans x17).trans x18).trans x19) _ _ f12))
      have t7 : SqT K G19 p13 [.str "cover", .bl (decide (C = "NoCover"))] := .inl (.inl ((((((x14.trans x15).trans x16).trans x17).trans x18).trans x19) _ _ f13))
      have t8 : SqT K G19 p16 [.str "nothing", .bl (decide (C = "NothingDone"))] := .inl (.inl (((x17.trans x18).trans x19) _ _ f16))
      have t9 : SqT K G19 p17 [.str "value", .bl true] := .inl (.inl ((x18.trans x19) _ _ f17))
      refine ⟨⟨_, hxs⟩, ?_⟩
      refine wl_pairs (K := K) _ (fun k => .str (nineW.getD k Str.empty)) (fun k => .bl ((nineC.map (fun D => decide (C = D)) ++ [true]).getD k false)) (fun k => (nineC.map (fun D => decide (C = D)) ++ [true]).getD k false) (fun k => .str (nineW.getD k Str.empty)) hxs (by simp) (fun _ _ => rfl) (fun k x hx => ?_) (fun k H1 hk e1 H2 e2 Q2 q2 => ?_) (fun k H1 hk e1 _ H2 e2 Q2 q2 => ?_) (fun p H2 np e2 h2 => q p H2 (fresh_back e19 np) (e19.trans e2) h2)
      · match k, hx with
        | 0, hx => cases hx; exact ⟨p1, rfl, t0⟩
        | 1, hx => cases hx; exact ⟨p2, rfl, t1⟩
        | 2, hx => cases hx; exact ⟨p4, rfl, t2⟩
        | 3, hx => cases hx; exact ⟨p5, rfl, t3⟩
        | 4, hx => cases hx; exact ⟨p8, rfl, t4⟩
        | 5, hx => cases hx; exact ⟨p9, rfl, t5⟩
        | 6, hx => cases hx; exact ⟨p12, rfl, t6⟩
        | 7, hx => cases hx; exact ⟨p13, rfl, t7⟩
        | 8, hx => cases hx; exact ⟨p16, rfl, t8⟩
        | 9, hx => cases hx; exact ⟨p17, rfl, t9⟩
        | k + 10, hx => simp at hx
      · walk_at "rd"
        exact q2 _ (Ex.refl _)
      · walk_at "rd"
        exact q2 _ (Ex.refl _)

def sp_law_bits (K : PySem.W.Frag) : Sp := fun vs H Q _ => ∃ m : Nat, vs = [.int m] ∧ m < 1024 ∧ RetL ((bitsM m).map V.int) H Q
theorem ok_law_bits (T : Txt K mg)  : Has P w K mg base 1 "_law_bits" ["_law_one"] (sp_law_bits K) := by
  refine DefAt.has T.d_law_bits sc_law_bits (fun vs H Q E h => ?_) (fun f cdv A outer s H vs Q E hr h => ⟨_, (pss_cons (ps_set (i := 1) sc_law_bits.nd rfl (Or.inl rfl) (pe_lst pa_nil))
      (pss_cons (ps_set (i := 2) sc_law_bits.nd rfl (Or.inl rfl) pe_int)
      (pss_cons (ps_while (passes_of rfl) (pt_cmpR op_gt (pv 0) pe_int (nomark _))
      (pss_cons (ps_if (pt_cmpR op_eq (pe_op op_mod (pv 0) pe_int) pe_int (nomark _))
      (pss_one (ps_expr (k_bm K PySem.F.plainAttrs_list PySem.F.slot_list_append PySem.F.type_list_append mt_append (pv 1) (pa_cons (pv 2) pa_nil)))) pss_nil)
      (pss_cons (ps_set (i := 0) sc_law_bits.nd rfl (Or.inl rfl) (pe_op op_fdiv (pv 0) pe_int))
      (pss_one (ps_set (i := 2) sc_law_bits.nd rfl (Or.inl rfl) (pe_op op_add (pv 2) pe_int))))))
      (pss_one (ps_ret (pv 1)))))), ?_⟩)
  · obtain ⟨m, rfl, _⟩ := h
    rfl
  · obtain ⟨m, rfl, hm, q⟩ := h
    simp only [L2.start, N_law_bits, List.map_cons, List.map_nil, List.length_cons, List.length_nil, List.replicate_succ, List.replicate_zero, Nat.reduceAdd, Nat.reduceSub, List.cons_append, List.nil_append]
    walk_at "rd"
    refine ⟨by decide, fun p np => ?_⟩
    refine s_while (fun k σ H' => ∃ n, k = 11 - n ∧ n ≤ 10 ∧ σ = [some (.int ((m / 2 ^ n : Nat) : Int)), some (.ref p), some (.int (n : Nat))] ∧ Ex H H' ∧ H' p = some (.lst ((((List.range n).filter fun i => m.testBit i).map fun i : Nat => (i : Int)).map V.int))) 11
      ⟨0, rfl, by decide, by rw [Nat.pow_zero, Nat.div_one] <;> rfl, Ex.new np, upd_same⟩ (fun k σ' H' hW => ?_)
    obtain ⟨n, rfl, hn, rfl, e1, h1⟩ := hW
    refine ⟨decide (0 < m / 2 ^ n), fun H1 e2 Q1 q1 => ?_, fun hb H2 e2 => ?_, fun hb H2 e2 => ?_⟩
    · walk_at "rd"
      have e : decide ((0 : Int) < ((m / 2 ^ n : Nat) : Int)) = decide (0 < m / 2 ^ n) := by
        by_cases h : 0 < m / 2 ^ n
        · rw [decide_eq_true h, decide_eq_true (by omega)]
        · rw [decide_eq_false h, decide_eq_false (by omega)]
      rw [e]
      exact q1 _ (Ex.refl _)
    · have hpos : 0 < m / 2 ^ n := of_decide_eq_true hb
      have hn9 : n ≤ 9 := by
        refine Nat.le_of_not_lt fun h => ?_
        have : n = 10 := by omega
        subst this
        rw [Nat.div_eq_of_lt (by omega)] at hpos
        omega
      have hdiv : m / 2 ^ n / 2 = m / 2 ^ (n + 1) := by rw [Nat.div_div_eq_div_mul, Nat.pow_succ]
      refine ⟨fun σ2 H3 => σ2 = [some (.int ((m / 2 ^ (n + 1) : Nat) : Int)), some (.ref p), some (.int ((n + 1 : Nat) : Int))] ∧ Ex H H3 ∧ H3 p = some (.lst ((((List.range (n + 1)).filter fun i => m.testBit i).map fun i : Nat => (i : Int)).map V.int)), fun σ2 H3 hN => ?_, ?_⟩
      · obtain ⟨rfl, a, b⟩ := hN
        exact ⟨11 - (n + 1), by omega, n + 1, rfl, by omega, rfl, a, b⟩
      · walk_at "rd"
        have hq := e2 p _ h1
        refine ⟨by decide, rfl, ite2 (fun hc => ?_) (fun hc => ?_)⟩
        · have hc' : m / 2 ^ n % 2 = 1 := by omega
          refine ⟨ty_lst (.inl (.inl hq)), ?_⟩
          refine ⟨_, hq, ?_, ⟨by decide, by decide⟩, ⟨by omega, by omega⟩, ex_mut (e1.trans e2) np, ?_⟩
          · rw [List.length_map, List.length_map]
            have h9 := List.length_filter_le (fun i => m.testBit i) (List.range n)
            rw [List.length_range] at h9
            exact sz_lt (by omega)
          · rw [upd_same, bits_step, if_pos hc', List.map_append, List.map_append]
            rfl
        · have hc' : ¬ m / 2 ^ n % 2 = 1 := fun z => hc (by omega)
          refine ⟨⟨by decide, by decide⟩, ⟨by omega, by omega⟩, e1.trans e2, ?_⟩
          rw [bits_step, if_neg hc', List.append_nil]
          exact hq
    · have hz : m / 2 ^ n = 0 := by
        have := of_decide_eq_false hb
        exact Nat.eq_zero_of_not_pos this
      walk_at "rd"
      have hq := e2 p _ h1
      rw [bits_below hn hz] at hq
      exact q p H2 np (e1.trans e2) hq

def sp_law_is_table (K : PySem.W.Frag) : Sp := fun vs H Q _ => ∃ (a b : Addr) (ns ms : List Int), vs = [.ref a, .ref b] ∧ SqL K H a (ns.map V.int) ∧ SqL K H b (ms.map V.int) ∧ ns.length ≤ 40000 ∧ RetV (.bl (decide (ns = ms))) H Q
theorem ok_law_is_table (T : Txt K mg)  : Has P w K mg base 1 "_law_is_table" ["_law_found", "_law_due"] (sp_law_is_table K) := by
  refine DefAt.has T.d_law_is_table sc_law_is_table (fun vs H Q E h => ?_) (fun f cdv A outer s H vs Q E hr h => ⟨_, (pss_cons (ps_if (PW.pt (pw_or (pt_not (pt_val (pe_callB (id := "isinstance") (k_isK K) (by rfl) T.n_isinstance (by decide +kernel) (pa_cons (pv 0) (pa_cons (pe_ty "list" (by rfl) T.n_list (by decide +kernel)) pa_nil))))) (pw_or1 (pt_cmpR (k_neD K hr.units) (pv 0) (pv 1) (nomark _)))))
      (pss_one (ps_ret pe_bl)) pss_nil)
      (pss_one (ps_ret (pe_callB (id := "all") (k_all K rfl) (by rfl) T.n_all (by decide +kernel) (pa_cons (pe_lc (own := [("_law_number", 2)]) (g := gName 2) rfl sc_law_is_table.nd (k_pil K (pv 0)) (blkOk_by (own := [("_law_number", 2)]) (N := N_law_is_table) (sc := defScope s_law_is_table) (by decide +kernel)) (fun _ _ _ _ _ => (pg_name (i := 2) sc_law_is_table.nd rfl (Or.inl rfl))) (fun _ _ _ _ _ => pts_nil) (fun _ _ _ _ _ => (pe_and (pe_callB (id := "isinstance") (k_isK K) (by rfl) T.n_isinstance (by decide +kernel) (pa_cons (pv 2) (pa_cons (pe_ty "int" (by rfl) T.n_int (by decide +kernel)) pa_nil))) (pe_one (pe_not (pe_callB (id := "isinstance") (k_isK K) (by rfl) T.n_isinstance (by decide +kernel) (pa_cons (pv 2) (pa_cons (pe_ty "bool" (by rfl) T.n_bool (by decide +kernel)) pa_nil)))))))) pa_nil))))), ?_⟩)
  · obtain ⟨a, b, ns, ms, rfl, _⟩ := h
    rfl
  · obtain ⟨a, b, ns, ms, rfl, hA, hB, hz, q⟩ := h
    simp only [L2.start, N_law_is_table, List.map_cons, List.map_nil, List.length_cons, List.length_nil, List.replicate_succ, List.replicate_zero, Nat.reduceAdd, Nat.reduceSub, List.cons_append, List.nil_append]
    walk_at "rl"
    refine ⟨.lst, .lst hA, ?_⟩
    refine iteF (ne_ints hA hB ⟨_, rfl, ?_⟩)
    by_cases h : ns = ms
    · rw [decide_eq_true h]
      rw [decide_eq_true h] at q
      refine iteF ⟨⟨_, hA⟩, ?_⟩
      refine wl_ints (K := K) ns (fun _ => true) (fun _ => .bl true) hA hz (fun _ => rfl) (fun _ _ _ _ => yes_ev) (fun n _ H1 e1 _ H2 e2 Q2 q2 => ?_) (fun p H2 np e2 h2 => ?_)
      · walk_at "rd"
        exact ⟨.int, .int n, .int, .int n, q2 _ (Ex.refl _)⟩
      · have eb : ((ns.filter fun _ => true).map fun _ => V.bl true) = (ns.map fun _ => true).map V.bl := by
          rw [List.filter_eq_self.mpr (fun _ _ => rfl), List.map_map]
          rfl
        rw [eb] at h2
        refine ⟨p, rfl, _, .inl (.inl h2), ?_⟩
        have ea : (ns.map fun _ => true).all id = true := by simp
        rw [ea]
        exact q H2 e2
    · rw [decide_eq_false h]
      rw [decide_eq_false h] at q
      exact q H (Ex.refl H)

/-- a deed that must be refused -/
def WrongAt (K : PySem.W.Frag) (H : Hp) (n : Nat) (wd : Str) (x y : V) (due C : Str) : Prop := El K H x ∧ El K H y ∧ C ∈ nineC ∧ ((C = "BadSet" ∧ due = "set") ∨ (C = "BadNumber" ∧ due = "number") ∨ (C = "BadName" ∧ due = "name")) ∧
  ((wd = "put" ∧ C = "BadSet" ∧ amg x 0 (2 ^ n - 1) = false) ∨ (wd = "put" ∧ C = "BadNumber" ∧ amg x 0 (2 ^ n - 1) = true ∧ isI y = false) ∨ (wd = "swap" ∧ C = "BadName" ∧ amg x 0 ((n : Int) - 1) = false) ∨ ((wd = "value" ∨ wd = "under" ∨ wd = "over") ∧ C = "BadSet" ∧ amg x 0 (2 ^ n - 1) = false))
def sp_law_wrong (K : PySem.W.Frag) : Sp := fun vs H Q _ => ∃ n m : Nat, vs = [.int (n : Nat), .int (m : Nat)] ∧ n ≤ 5 ∧ ∀ t H' wd x y due C, H t = none → Ex H H' → H' t = some (.tup [.str wd, x, y, .str due]) → WrongAt K H' n wd x y due C → Q (.ref t) H'
theorem ok_law_wrong (T : Txt K mg)  : Has P w K mg base 1 "_law_wrong" ["_law_many", "_law_number"] (sp_law_wrong K) := by
  refine DefAt.has T.d_law_wrong sc_law_wrong (fun vs H Q E h => ?_) (fun f cdv A outer s H vs Q E hr h => ⟨_, (pss_cons (ps_set (i := 2) sc_law_wrong.nd rfl (Or.inl rfl) (pe_ix (k_ixl K) (pe_lst (pa_cons pe_non (pa_cons (pe_un un_neg pe_int) (pa_cons pe_bl (pa_cons pe_str (pa_cons (pe_lst (pa_cons pe_int pa_nil)) (pa_cons (pe_op op_pw pe_int pe_int) pa_nil))))))) (pe_op op_mod (pv 1) pe_int) (fun _ _ => rfl)))
      (pss_cons (ps_if (pt_cmpR op_eq (pe_op op_mod (pe_op op_fdiv (pv 1) pe_int) pe_int) pe_int (nomark _))
      (pss_one (ps_ret (pe_tup (pa_cons pe_str (pa_cons (pe_ix (k_ixl K) (pe_lst (pa_cons (pv 2) (pa_cons (pe_op op_sh pe_int (pv 0)) pa_nil))) (pe_op op_mod (pe_op op_fdiv (pv 1) pe_int) pe_int) (fun _ _ => rfl)) (pa_cons (pe_ix (k_ixl K) (pe_lst (pa_cons pe_int (pa_cons pe_non pa_nil))) (pe_op op_mod (pe_op op_fdiv (pv 1) pe_int) pe_int) (fun _ _ => rfl)) (pa_cons pe_str pa_nil))))))) pss_nil)
      (pss_cons (ps_if (pt_cmpR op_eq (pe_op op_mod (pe_op op_fdiv (pv 1) pe_int) pe_int) pe_int (nomark _))
      (pss_one (ps_ret (pe_tup (pa_cons pe_str (pa_cons pe_int (pa_cons (pe_ix (k_ixl K) (pe_lst (pa_cons pe_non (pa_cons pe_bl (pa_cons pe_str (pa_cons (pe_lst (pa_cons pe_int pa_nil)) (pa_cons (pe_tup (pa_cons pe_int pa_nil)) pa_nil)))))) (pe_op op_mod (pe_op op_fdiv (pv 1) pe_int) pe_int) (fun _ _ => rfl)) (pa_cons pe_str pa_nil))))))) pss_nil)
      (pss_cons (ps_if (pt_cmpR op_eq (pe_op op_mod (pe_op op_fdiv (pv 1) pe_int) pe_int) pe_int (nomark _))
      (pss_one (ps_ret (pe_tup (pa_cons (pe_ix (k_ixl K) (pe_lst (pa_cons pe_str (pa_cons pe_str (pa_cons pe_str pa_nil)))) (pe_op op_mod (pe_op op_fdiv (pv 1) pe_int) pe_int) (fun _ _ => rfl)) (pa_cons (pe_ix (k_ixl K) (pe_lst (pa_cons (pv 2) (pa_cons (pe_op op_sh pe_int (pv 0)) pa_nil))) (pe_op op_mod (pe_op op_fdiv (pv 1) pe_int) pe_int) (fun _ _ => rfl)) (pa_cons pe_int (pa_cons pe_str pa_nil))))))) pss_nil)
      (pss_one (ps_ret (pe_tup (pa_cons pe_str (pa_cons (pe_ix (k_ixl K) (pe_lst (pa_cons (pv 2) (pa_cons (pv 0) pa_nil))) (pe_op op_mod (pe_op op_fdiv (pv 1) pe_int) pe_int) (fun _ _ => rfl)) (pa_cons (pe_ix (k_ixl K) (pe_lst (pa_cons pe_int (pa_cons pe_non pa_nil))) (pe_op op_mod (pe_op op_fdiv (pv 1) pe_int) pe_int) (fun _ _ => rfl)) (pa_cons pe_str pa_nil))))))))))), ?_⟩)
  · obtain ⟨n, m, rfl, _⟩ := h
    rfl
  · obtain ⟨n, m, rfl, hn, q⟩ := h
    simp only [L2.start, N_law_wrong, List.map_cons, List.map_nil, List.length_cons, List.length_nil, List.replicate_succ, List.replicate_zero, Nat.reduceAdd, Nat.reduceSub, List.cons_append, List.nil_append]
    refine seq_cut1 fun R1 h1 => ?_
    walk_at "rl"
    have h20 : (2000 : Int) ≤ 10 ^ Int.toNat 20 := by decide +kernel
    have hi2 : ∀ (i k : Int), k < i → amg (.int i) 0 k = false := fun i k h => by
      show (decide (0 ≤ i) && decide (i ≤ k)) = false
      rw [decide_eq_false (p := i ≤ k) (by omega), Bool.and_false]
    have hm1 : ∀ k : Int, amg (.int (-1)) 0 k = false := fun k => by unfold amg; simp
    have hp32 : (2 : Int) ^ n - 1 ≤ 1000 := by
      rw [pow2c]
      have := Nat.pow_le_pow_right (n := 2) (by decide) hn
      omega
    refine ⟨sz_of (by simp), ?_⟩
    intro p1 n1; generalize hG1 : upd _ p1 _ = G1; have x1 := upd_ex hG1 n1; have f1 := upd_at hG1; clear hG1; have e1 := x1
    refine ⟨⟨by decide, by decide +kernel⟩, sz_of (by simp), ?_⟩
    intro p2 n2; generalize hG2 : upd _ p2 _ = G2; have x2 := upd_ex hG2 n2; have f2 := upd_at hG2; clear hG2; have e2 := e1.trans x2
    refine ⟨by decide, _, .inl (.inl f2), ?_⟩
    have hw : ∃ w, atI [V.non, V.int (-1), V.bl true, V.str "0", V.ref p1, V.int (10 ^ Int.toNat 20)] ((m : Int) % 6) = some w ∧ El K G2 w ∧ ∀ k : Int, k ≤ 1000 → amg w 0 k = false := by
      have h4 : m % 6 < 6 := Nat.mod_lt _ (by decide)
      have e4 : (m : Int) % 6 = ((m % 6 : Nat) : Int) := by omega
      rw [e4]
      generalize m % 6 = z at h4
      match z, h4 with
      | 0, _ => exact ⟨_, atI_nat rfl, ⟨.non, .non, rfl⟩, fun _ _ => rfl⟩
      | 1, _ => exact ⟨_, atI_nat (j := 1) rfl, .int _, fun k _ => hm1 k⟩
      | 2, _ => exact ⟨_, atI_nat (j := 2) rfl, ⟨.bl, .bl _, rfl⟩, fun _ _ => rfl⟩
      | 3, _ => exact ⟨_, atI_nat (j := 3) rfl, ⟨.str, .str _, rfl⟩, fun _ _ => rfl⟩
      | 4, _ => exact ⟨_, atI_nat (j := 4) rfl, ⟨.lst, .lst (.inl (.inl (x2 _ _ f1))), rfl⟩, fun _ _ => rfl⟩
      | 5, _ => exact ⟨_, atI_nat (j := 5) rfl, .int _, fun k hk => hi2 _ _ (by generalize (10 : Int) ^ Int.toNat 20 = t at h20; omega)⟩
    obtain ⟨od, ho1, ho2, ho3⟩ := hw
    refine ⟨_, ho1, ?_⟩
    clear ho1
    have pair : ∀ (a b : V) (i : Nat), ∃ w, atI [a, b] ((i : Int) % 2) = some w ∧ (w = a ∨ w = b) := fun a b i => by
      have h4 : i % 2 < 2 := Nat.mod_lt _ (by decide)
      have e4 : (i : Int) % 2 = ((i % 2 : Nat) : Int) := by omega
      rw [e4]
      generalize i % 2 = z at h4
      match z, h4 with
      | 0, _ => exact ⟨_, atI_nat rfl, .inl rfl⟩
      | 1, _ => exact ⟨_, atI_nat (j := 1) rfl, .inr rfl⟩
    have top : amg (.int ((2 ^ n : Nat) : Int)) 0 (2 ^ n - 1) = false := hi2 _ _ (by rw [pow2c]; omega)
    have dv : ∀ k : Nat, (m : Int) / (k : Int) = ((m / k : Nat) : Int) := fun k => rfl
    subst h1
    refine seq_cut1 fun R2 h2 => ?_
    walk_at "rl"
    refine ⟨⟨by decide, by decide⟩, by decide, rfl, ite2 (fun hc => ?_) (fun hc => ?_)⟩
    · refine ⟨cpow1 (by omega), sz_of (by simp), ?_⟩
      intro p3 n3; generalize hG3 : upd _ p3 _ = G3; have x3 := upd_ex hG3 n3; have f3 := upd_at hG3; clear hG3; have e3 := e2.trans x3
      obtain ⟨w1, hw1, hc1⟩ := pair od (.int ((2 ^ n : Nat) : Int)) (m / 18)
      refine ⟨⟨by decide, by decide⟩, by decide, _, .inl (.inl f3), w1, hw1, sz_of (by simp), ?_⟩
      intro p4 n4; generalize hG4 : upd _ p4 _ = G4; have x4 := upd_ex hG4 n4; have f4 := upd_at hG4; clear hG4; have e4 := e3.trans x4
      obtain ⟨w2, hw2, hc2⟩ := pair (.int 5) .non (m / 36)
      refine ⟨⟨by decide, by decide⟩, by decide, _, .inl (.inl f4), w2, hw2, sz_of (by simp), fun t nt => ?_⟩
      have x5 := Ex.new (o := HO.tup [V.str "put", w1, w2, V.str "set"]) nt
      refine q t _ "put" w1 w2 "set" "BadSet" (fresh_back e4 nt) (e4.trans x5) upd_same ⟨?_, ?_, by decide, .inl ⟨rfl, rfl⟩, .inl ⟨rfl, rfl, ?_⟩⟩
      · rcases hc1 with rfl | rfl
        · exact ho2.mono ((x3.trans x4).trans x5)
        · exact .int _
      · rcases hc2 with rfl | rfl
        · exact .int _
        · exact ⟨.non, .non, rfl⟩
      · rcases hc1 with rfl | rfl
        · exact ho3 _ hp32
        · exact top
    · subst h2
      refine seq_cut1 fun R3 h3 => ?_
      walk_at "rl"
      refine ⟨⟨by decide, by decide⟩, by decide, rfl, ite2 (fun hc => ?_) (fun hc => ?_)⟩
      · refine ⟨sz_of (by simp), ?_⟩
        intro p3 n3; generalize hG3 : upd _ p3 _ = G3; have x3 := upd_ex hG3 n3; have f3 := upd_at hG3; clear hG3; have e3 := e2.trans x3
        refine ⟨sz_of (by simp), ?_⟩
        intro p4 n4; generalize hG4 : upd _ p4 _ = G4; have x4 := upd_ex hG4 n4; have f4 := upd_at hG4; clear hG4; have e4 := e3.trans x4
        refine ⟨sz_of (by simp), ?_⟩
        intro p5 n5; generalize hG5 : upd _ p5 _ = G5; have x5 := upd_ex hG5 n5; have f5 := upd_at hG5; clear hG5; have e5 := e4.trans x5
        have hw : ∃ w, atI [V.non, V.bl true, V.str "1", V.ref p3, V.ref p4] ((m : Int) / 18 % 5) = some w ∧ El K G5 w ∧ isI w = false := by
          have h4 : m / 18 % 5 < 5 := Nat.mod_lt _ (by decide)
          have e4 : (m : Int) / 18 % 5 = ((m / 18 % 5 : Nat) : Int) := by omega
          rw [e4]
          generalize m / 18 % 5 = z at h4
          match z, h4 with
          | 0, _ => exact ⟨_, atI_nat rfl, ⟨.non, .non, rfl⟩, rfl⟩
          | 1, _ => exact ⟨_, atI_nat (j := 1) rfl, ⟨.bl, .bl _, rfl⟩, rfl⟩
          | 2, _ => exact ⟨_, atI_nat (j := 2) rfl, ⟨.str, .str _, rfl⟩, rfl⟩
          | 3, _ => exact ⟨_, atI_nat (j := 3) rfl, ⟨.lst, .lst (.inl (.inl ((x4.trans x5) _ _ f3))), rfl⟩, rfl⟩
          | 4, _ => exact ⟨_, atI_nat (j := 4) rfl, ⟨.tup, .tup (.inl (.inl (x5 _ _ f4))), rfl⟩, rfl⟩
        obtain ⟨w, hw1, hw2, hw3⟩ := hw
        refine ⟨⟨by decide, by decide⟩, by decide, _, .inl (.inl f5), w, hw1, sz_of (by simp), fun t nt => ?_⟩
        have x6 := Ex.new (o := HO.tup [V.str "put", V.int 0, w, V.str "number"]) nt
        exact q t _ "put" (.int 0) w "number" "BadNumber" (fresh_back e5 nt) (e5.trans x6) upd_same ⟨.int _, hw2.mono x6, by decide, .inr (.inl ⟨rfl, rfl⟩), .inr (.inl ⟨rfl, rfl, amg_nat (s := 0) (by omega) (by rw [pow2c]; have := Nat.two_pow_pos n; omega), hw3⟩)⟩
      · subst h3
        refine seq_cut1 fun R4 h4 => ?_
        walk_at "rl"
        refine ⟨⟨by decide, by decide⟩, by decide, rfl, ite2 (fun hc => ?_) (fun hc => ?_)⟩
        · refine ⟨sz_of (by simp), ?_⟩
          intro p3 n3; generalize hG3 : upd _ p3 _ = G3; have x3 := upd_ex hG3 n3; have f3 := upd_at hG3; clear hG3; have e3 := e2.trans x3
          have hw : ∃ w : Str, atI [V.str "value", V.str "under", V.str "over"] ((m : Int) / 36 % 3) = some (.str w) ∧ (w = "value" ∨ w = "under" ∨ w = "over") := by
            have h4 : m / 36 % 3 < 3 := Nat.mod_lt _ (by decide)
            have e4 : (m : Int) / 36 % 3 = ((m / 36 % 3 : Nat) : Int) := by omega
            rw [e4]
            generalize m / 36 % 3 = z at h4
            match z, h4 with
            | 0, _ => exact ⟨_, atI_nat rfl, .inl rfl⟩
            | 1, _ => exact ⟨_, atI_nat (j := 1) rfl, .inr (.inl rfl)⟩
            | 2, _ => exact ⟨_, atI_nat (j := 2) rfl, .inr (.inr rfl)⟩
          obtain ⟨w, hw1, hw2⟩ := hw
          refine ⟨⟨by decide, by decide⟩, by decide, _, .inl (.inl f3), _, hw1, cpow1 (by omega), sz_of (by simp), ?_⟩
          intro p4 n4; generalize hG4 : upd _ p4 _ = G4; have x4 := upd_ex hG4 n4; have f4 := upd_at hG4; clear hG4; have e4 := e3.trans x4
          obtain ⟨w1, hw3, hc1⟩ := pair od (.int ((2 ^ n : Nat) : Int)) (m / 108)
          refine ⟨⟨by decide, by decide⟩, by decide, _, .inl (.inl f4), w1, hw3, sz_of (by simp), fun t nt => ?_⟩
          have x5 := Ex.new (o := HO.tup [V.str w, w1, V.int 0, V.str "set"]) nt
          refine q t _ w w1 (.int 0) "set" "BadSet" (fresh_back e4 nt) (e4.trans x5) upd_same ⟨?_, .int _, by decide, .inl ⟨rfl, rfl⟩, .inr (.inr (.inr ⟨hw2, rfl, ?_⟩))⟩
          · rcases hc1 with rfl | rfl
            · exact ho2.mono ((x3.trans x4).trans x5)
            · exact .int _
          · rcases hc1 with rfl | rfl
            · exact ho3 _ hp32
            · exact top
        · subst h4
          walk_at "rl"
          refine ⟨sz_of (by simp), ?_⟩
          intro p3 n3; generalize hG3 : upd _ p3 _ = G3; have x3 := upd_ex hG3 n3; have f3 := upd_at hG3; clear hG3; have e3 := e2.trans x3
          obtain ⟨w1, hw1, hc1⟩ := pair od (.int (n : Nat)) (m / 36)
          refine ⟨⟨by decide, by decide⟩, by decide, _, .inl (.inl f3), w1, hw1, sz_of (by simp), ?_⟩
          intro p4 n4; generalize hG4 : upd _ p4 _ = G4; have x4 := upd_ex hG4 n4; have f4 := upd_at hG4; clear hG4; have e4 := e3.trans x4
          obtain ⟨w2, hw2, hc2⟩ := pair (.int 0) .non (m / 72)
          refine ⟨⟨by decide, by decide⟩, by decide, _, .inl (.inl f4), w2, hw2, sz_of (by simp), fun t nt => ?_⟩
          have x5 := Ex.new (o := HO.tup [V.str "swap", w1, w2, V.str "name"]) nt
          refine q t _ "swap" w1 w2 "name" "BadName" (fresh_back e4 nt) (e4.trans x5) upd_same ⟨?_, ?_, by decide, .inr (.inr ⟨rfl, rfl⟩), .inr (.inr (.inl ⟨rfl, rfl, ?_⟩))⟩
          · rcases hc1 with rfl | rfl
            · exact ho2.mono ((x3.trans x4).trans x5)
            · exact .int _
          · rcases hc2 with rfl | rfl
            · exact .int _
            · exact ⟨.non, .non, rfl⟩
          · rcases hc1 with rfl | rfl
            · exact ho3 _ (by omega)
            · exact hi2 _ _ (by omega)

def sp_is_among (K : PySem.W.Frag) : Sp := fun vs H Q _ => ∃ x lo hi, vs = [x, .int lo, .int hi] ∧ El K H x ∧ Q (.bl (amg x lo hi)) H
theorem ok_is_among (T : Txt K mg) (h_is_whole : Has P w K mg base 1 "is_whole" ["thing"] (sp_is_whole K)) : Has P w K mg base 2 "is_among" ["thing", "least", "most"] (sp_is_among K) := by
  refine DefAt.has T.d_is_among sc_is_among (fun vs H Q E h => ?_) (fun f cdv A outer s H vs Q E hr h => ⟨_, (pss_one (ps_ret (pe_and (pe_has h_is_whole (hr.mono (by decide)) rfl passB (pa_cons (pv 0) pa_nil)) (pe_one (pe_chain op_le op_le (pv 1) (pv 0) (pv 2)))))), ?_⟩)
  · obtain ⟨x, lo, hi, rfl, _⟩ := h
    rfl
  · obtain ⟨x, lo, hi, rfl, ⟨t, hk, hi'⟩, q⟩ := h
    simp only [L2.start, N_is_among, List.map_cons, List.map_nil, List.length_cons, List.length_nil, List.replicate_succ, List.replicate_zero, Nat.reduceAdd, Nat.reduceSub, List.cons_append, List.nil_append]
    walk_at "rd"
    refine ⟨x, t, rfl, hk, _, rfl, ?_⟩
    rw [hi']
    cases x with
    | int i =>
      refine iteT ?_
      walk_at "rd"
      unfold amg at q
      refine ite2 (fun h1 => ?_) (fun h1 => ?_)
      · have q' : Q (.bl (decide (lo ≤ i) && decide (i ≤ hi))) H := q
        rw [decide_eq_true h1] at q'
        exact q'
      · have q' : Q (.bl (decide (lo ≤ i) && decide (i ≤ hi))) H := q
        rw [decide_eq_false h1] at q'
        exact q'
    | _ => exact iteF q

def sp_Book_exchange (K : PySem.W.Frag) : Sp := fun vs H Q _ => ∃ (b dx nu lo hi dn : Addr) (n a c : Nat) (ns ls hs : List Int), vs = [.ref b, .int (a : Nat), .int (c : Nat)] ∧ n ≤ 10 ∧ a < n ∧ c < n ∧
  H b = some (.ins (He.ga K "Book") dx (bkF nu lo hi n dn)) ∧ H nu = some (.lst (ns.map V.int)) ∧ H lo = some (.lst (ls.map V.int)) ∧ H hi = some (.lst (hs.map V.int)) ∧ b ≠ nu ∧ b ≠ lo ∧ b ≠ hi ∧ ns.length = 2 ^ n ∧ ls.length = 2 ^ n ∧ hs.length = 2 ^ n ∧
  ∀ H' nu' lo' hi', ExO [b] H H' → H nu' = none → H lo' = none → H hi' = none → [nu', lo', hi'].Nodup → H' b = some (.ins (He.ga K "Book") dx (bkF nu' lo' hi' n dn)) → H' nu' = some (.lst ((swapL a c ns).map V.int)) → H' lo' = some (.lst ((swapL a c ls).map V.int)) → H' hi' = some (.lst ((swapL a c hs).map V.int)) → Q .non H'
theorem ok_Book_exchange (T : Txt K mg) (h_swapped : Has P w K mg base 1 "swapped" ["one", "name", "other"] (sp_swapped K)) : HasM P w K mg base 2 "Book" "exchange" ["self", "name", "other"] (sp_Book_exchange K) := by
  refine MethAt.has T.d_Book_exchange sc_Book_exchange (fun vs H Q E h => ?_) (fun f cdv A outer s H vs Q E hr h => ⟨_, (pss_cons (ps_setLc (i := 3) (own := [("one", 4)]) (g := gName 4) rfl sc_Book_exchange.nd rfl rfl (sw_true rfl rfl rfl (by decide +kernel)) (pi_range1 rfl T.n_range (pa_cons (pe_callB (id := "len") (k_len K) (by rfl) T.n_len (by decide +kernel) (pa_cons (k_fld K (pv 0)) pa_nil)) pa_nil)) (blkOk_by (own := [("one", 4)]) (N := N_Book_exchange) (sc := defScope s_Book_exchange) (by decide +kernel)) (fun _ _ _ _ _ => (pg_name (i := 4) sc_Book_exchange.nd rfl (Or.inl rfl))) (fun _ _ _ _ _ => pts_nil) (fun _ _ _ _ _ => (pe_has h_swapped (hr.mono (by decide)) rfl passL (pa_cons (pv 4) (pa_cons (pv 1) (pa_cons (pv 2) pa_nil))))))
      (pss_cons (k_sfld K (pv 0) (pe_lc (own := [("spot", 5)]) (g := gName 5) rfl sc_Book_exchange.nd (k_pil K (pv 3)) (blkOk_by (own := [("spot", 5)]) (N := N_Book_exchange) (sc := defScope s_Book_exchange) (by decide +kernel)) (fun _ _ _ _ _ => (pg_name (i := 5) sc_Book_exchange.nd rfl (Or.inl rfl))) (fun _ _ _ _ _ => pts_nil) (fun _ _ _ _ _ => (pe_ix (k_ixl K) (k_fld K (pv 0)) (pv 5) (fun _ _ => rfl)))))
      (pss_cons (k_sfld K (pv 0) (pe_lc (own := [("spot", 5)]) (g := gName 5) rfl sc_Book_exchange.nd (k_pil K (pv 3)) (blkOk_by (own := [("spot", 5)]) (N := N_Book_exchange) (sc := defScope s_Book_exchange) (by decide +kernel)) (fun _ _ _ _ _ => (pg_name (i := 5) sc_Book_exchange.nd rfl (Or.inl rfl))) (fun _ _ _ _ _ => pts_nil) (fun _ _ _ _ _ => (pe_ix (k_ixl K) (k_fld K (pv 0)) (pv 5) (fun _ _ => rfl)))))
      (pss_one (k_sfld K (pv 0) (pe_lc (own := [("spot", 5)]) (g := gName 5) rfl sc_Book_exchange.nd (k_pil K (pv 3)) (blkOk_by (own := [("spot", 5)]) (N := N_Book_exchange) (sc := defScope s_Book_exchange) (by decide +kernel)) (fun _ _ _ _ _ => (pg_name (i := 5) sc_Book_exchange.nd rfl (Or.inl rfl))) (fun _ _ _ _ _ => pts_nil) (fun _ _ _ _ _ => (pe_ix (k_ixl K) (k_fld K (pv 0)) (pv 5) (fun _ _ => rfl))))))))), ?_⟩)
  · obtain ⟨b, dx, nu, lo, hi, dn, n, a, c, ns, ls, hs, rfl, _⟩ := h
    rfl
  · obtain ⟨b, dx, nu, lo, hi, dn, n, a, c, ns, ls, hs, rfl, hn, ha, hc, hb, hnu, hlo, hhi, b1, b2, b3, ln, ll, lh, q⟩ := h
    simp only [L2.start, N_Book_exchange, List.map_cons, List.map_nil, List.length_cons, List.length_nil, List.replicate_succ, List.replicate_zero, Nat.reduceAdd, Nat.reduceSub, List.cons_append, List.nil_append]
    refine seq_cut2 fun R1 h1 => ?_
    walk_at "rl"
    generalize hN : 2 ^ n = N at *
    have hN2 : N ≤ 1024 := by rw [← hN]; exact pow_le hn
    have hv : ∀ ms : List Int, ms.length = N → ((ordI ((List.range N).map fun s => swM s a c)).filter fun _ => true).map (fun z => V.int (ms.getD z.toNat 0)) = (swapL a c ms).map V.int := fun ms hm => by
      rw [List.filter_eq_self.mpr (fun _ _ => rfl)]
      unfold swapL ordI
      rw [hm, List.map_map, List.map_map, List.map_map]
      rfl
    refine ⟨_, _, _, hb, T.cl, T.na_numbers, _, lk_numbers, nu, rfl, _, .inl (.inl (.inl hnu)), ?_⟩
    rw [List.length_map, ln]
    refine ⟨by omega, by omega, ?_⟩
    refine wl_rng (n := N) (fun _ => true) (fun s => .int (swM s a c : Nat)) (by omega) (fun _ => rfl) (fun _ _ _ _ => yes_ev) (fun s K1 hs _ _ K2 k2 Q2 q2 => ?_) (fun u G1 n1 x1 f1 => ?_)
    · walk_at "rd"
      exact ⟨s, a, c, rfl, by omega, by omega, q2 _ (Ex.refl _)⟩
    have hu : ((List.range N).filter fun _ => true).map (fun s => V.int (swM s a c : Nat)) = (ordI ((List.range N).map fun s => swM s a c)).map V.int := by
      rw [List.filter_eq_self.mpr (fun _ _ => rfl)]
      unfold ordI
      rw [List.map_map, List.map_map]
      rfl
    rw [hu] at f1
    have hb1 := x1 _ _ hb
    have hnu1 := x1 _ _ hnu
    refine ⟨u, rfl, ⟨_, .inl (.inl f1)⟩, ?_⟩
    refine wl_ints (K := K) (ordI ((List.range N).map fun s => swM s a c)) (fun _ => true) (fun z => .int ((ns).getD z.toNat 0)) (.inl (.inl f1)) (by unfold ordI; rw [List.length_map, List.length_map, List.length_range]; omega) (fun _ => rfl) (fun _ _ _ _ => yes_ev) (fun z hz K1 k1 _ K2 k2 Q2 q2 => ?_) (fun v1 W1 w1 y1 hv1 => ?_)
    · obtain ⟨j, hj, rfl⟩ := List.mem_map.mp hz
      obtain ⟨s, hs, rfl⟩ := List.mem_map.mp hj
      have hlt := sw_lt (a := a) (c := c) (by rw [hN]; exact List.mem_range.mp hs) ha hc
      rw [hN] at hlt
      walk_at "rd"
      rw [Int.toNat_natCast] at q2
      exact ⟨_, _, _, (k1.trans k2) _ _ hb1, T.cl, T.na_numbers, _, lk_numbers, nu, rfl, _, .inl (.inl ((k1.trans k2) _ _ hnu1)), _, at_int (by omega), q2 _ (Ex.refl _)⟩
    rw [hv (ns) ln] at hv1
    refine ⟨_, _, _, y1 _ _ hb1, T.cl, T.na_numbers, (by show 5 < 1000; decide), ?_⟩
    rw [pf_numbers]
    have ub : u ≠ b := fun z => by rw [z, hb] at n1; cases n1
    have v1b : v1 ≠ b := fun z => by rw [z, hb1] at w1; cases w1
    generalize hG2 : upd W1 b _ = G2
    have hb2 := upd_at hG2
    have k2 : ∀ p o, p ≠ b → W1 p = some o → G2 p = some o := fun p o h q => by rw [← hG2, upd_ne h]; exact q
    have o2 : ExO [b] H G2 := by rw [← hG2]; exact (ExO.of (x1.trans y1)).upd (.inl (by simp))
    clear hG2
    have f2 := k2 _ _ ub (y1 _ _ f1)
    have hlo2 := k2 _ _ (fun z => b2 z.symm) ((x1.trans y1) _ _ hlo)
    have hhi2 := k2 _ _ (fun z => b3 z.symm) ((x1.trans y1) _ _ hhi)
    have hv12 := k2 _ _ v1b hv1
    subst h1
    refine seq_cut1 fun R2 h2 => ?_
    walk_at "rl"
    refine ⟨⟨_, .inl (.inl f2)⟩, ?_⟩
    refine wl_ints (K := K) (ordI ((List.range N).map fun s => swM s a c)) (fun _ => true) (fun z => .int ((ls).getD z.toNat 0)) (.inl (.inl f2)) (by unfold ordI; rw [List.length_map, List.length_map, List.length_range]; omega) (fun _ => rfl) (fun _ _ _ _ => yes_ev) (fun z hz K1 k1 _ K2 k2 Q2 q2 => ?_) (fun v2 W2 w2 y2 hv2 => ?_)
    · obtain ⟨j, hj, rfl⟩ := List.mem_map.mp hz
      obtain ⟨s, hs, rfl⟩ := List.mem_map.mp hj
      have hlt := sw_lt (a := a) (c := c) (by rw [hN]; exact List.mem_range.mp hs) ha hc
      rw [hN] at hlt
      walk_at "rd"
      rw [Int.toNat_natCast] at q2
      exact ⟨_, _, _, (k1.trans k2) _ _ hb2, T.cl, T.na_lows, _, lk_lows, lo, rfl, _, .inl (.inl ((k1.trans k2) _ _ hlo2)), _, at_int (by omega), q2 _ (Ex.refl _)⟩
    rw [hv (ls) ll] at hv2
    refine ⟨_, _, _, y2 _ _ hb2, T.cl, T.na_lows, (by show 5 < 1000; decide), ?_⟩
    rw [pf_lows]
    have v2b : v2 ≠ b := fun z => by rw [z, hb2] at w2; cases w2
    have v12 : v1 ≠ v2 := fun z => by rw [← z, hv12] at w2; cases w2
    generalize hG3 : upd W2 b _ = G3
    have hb3 := upd_at hG3
    have k3 : ∀ p o, p ≠ b → W2 p = some o → G3 p = some o := fun p o h q => by rw [← hG3, upd_ne h]; exact q
    have o3 : ExO [b] H G3 := by rw [← hG3]; exact (o2.ex y2).upd (.inl (by simp))
    clear hG3
    have f3 := k3 _ _ ub (y2 _ _ f2)
    have hhi3 := k3 _ _ (fun z => b3 z.symm) (y2 _ _ hhi2)
    have hv13 := k3 _ _ v1b (y2 _ _ hv12)
    have hv23 := k3 _ _ v2b hv2
    subst h2
    walk_at "rl"
    refine ⟨⟨_, .inl (.inl f3)⟩, ?_⟩
    refine wl_ints (K := K) (ordI ((List.range N).map fun s => swM s a c)) (fun _ => true) (fun z => .int ((hs).getD z.toNat 0)) (.inl (.inl f3)) (by unfold ordI; rw [List.length_map, List.length_map, List.length_range]; omega) (fun _ => rfl) (fun _ _ _ _ => yes_ev) (fun z hz K1 k1 _ K2 k2 Q2 q2 => ?_) (fun v3 W3 w3 y3 hv3 => ?_)
    · obtain ⟨j, hj, rfl⟩ := List.mem_map.mp hz
      obtain ⟨s, hs, rfl⟩ := List.mem_map.mp hj
      have hlt := sw_lt (a := a) (c := c) (by rw [hN]; exact List.mem_range.mp hs) ha hc
      rw [hN] at hlt
      walk_at "rd"
      rw [Int.toNat_natCast] at q2
      exact ⟨_, _, _, (k1.trans k2) _ _ hb3, T.cl, T.na_highs, _, lk_highs, hi, rfl, _, .inl (.inl ((k1.trans k2) _ _ hhi3)), _, at_int (by omega), q2 _ (Ex.refl _)⟩
    rw [hv (hs) lh] at hv3
    refine ⟨_, _, _, y3 _ _ hb3, T.cl, T.na_highs, (by show 5 < 1000; decide), ?_⟩
    rw [pf_highs]
    have v3b : v3 ≠ b := fun z => by rw [z, hb3] at w3; cases w3
    have v13 : v1 ≠ v3 := fun z => by rw [← z, hv13] at w3; cases w3
    have v23 : v2 ≠ v3 := fun z => by rw [← z, hv23] at w3; cases w3
    refine q _ v1 v2 v3 ((o3.ex y3).upd (.inl (by simp))) (fresh_back x1 w1) (o2.back _ w2) (o3.back _ w3) (by simp [v12, v13, v23]) upd_same ?_ ?_ ?_
    · rw [upd_ne v1b]; exact y3 _ _ hv13
    · rw [upd_ne v2b]; exact y3 _ _ hv23
    · rw [upd_ne v3b]; exact hv3

def sp_law_mixed (K : PySem.W.Frag) : Sp := fun vs H Q _ => ∃ a ns k, vs = [.ref a, .int (k : Nat)] ∧ SqL K H a (ns.map V.int) ∧ k < 1000 ∧ RetV (.int (mixedM ns k)) H Q
theorem ok_law_mixed (T : Txt K mg) (h_law_cell : Has P w K mg base 1 "_law_cell" ["_law_script", "_law_k"] (sp_law_cell K)) : Has P w K mg base 2 "_law_mixed" ["_law_script", "_law_k"] (sp_law_mixed K) := by
  refine DefAt.has T.d_law_mixed sc_law_mixed (fun vs H Q E h => ?_) (fun f cdv A outer s H vs Q E hr h => ⟨_, (pss_cons (ps_set (i := 2) sc_law_mixed.nd rfl (Or.inl rfl) (pe_op op_add (pe_op op_add (pe_has h_law_cell (hr.mono (by decide)) rfl passB (pa_cons (pv 0) (pa_cons (pe_op op_mod (pv 1) (pe_callB (id := "max") (call_max2 rfl) (by rfl) T.n_max (by decide +kernel) (pa_cons pe_int (pa_cons (pe_callB (id := "len") (k_len K) (by rfl) T.n_len (by decide +kernel) (pa_cons (pv 0) pa_nil)) pa_nil)))) pa_nil))) (pe_op op_mu (pe_op op_mu pe_int (pv 1)) (pv 1))) pe_int))
      (pss_one (ps_ret (pe_op op_fdiv (pe_op op_mod (pe_op op_mu (pe_op op_mod (pe_op op_mu (pv 2) (pv 2)) pe_int) (pe_op op_add pe_int (pe_op op_mu pe_int (pv 1)))) pe_int) pe_int)))), ?_⟩)
  · obtain ⟨a, ns, k, rfl, _⟩ := h
    rfl
  · obtain ⟨a, ns, k, rfl, hA, hk, q⟩ := h
    simp only [L2.start, N_law_mixed, List.map_cons, List.map_nil, List.length_cons, List.length_nil, List.replicate_succ, List.replicate_zero, Nat.reduceAdd, Nat.reduceSub, List.cons_append, List.nil_append]
    walk_at "rd"
    have em : (if ((ns.map V.int).length : Int) > 1 then ((ns.map V.int).length : Int) else 1) = ((max 1 ns.length : Nat) : Int) := by
      rw [List.length_map]
      split <;> omega
    refine ⟨_, .inl hA, _, _, ⟨rfl, rfl⟩, by rw [em]; omega, a, ns, k % max 1 ns.length, by rw [em]; rfl, hA, fun H1 e1 => ?_⟩
    have h0 := cellM_nn ns (k % max 1 ns.length)
    have h1 := cellM_lt ns (k % max 1 ns.length)
    have hkk : (0 : Int) ≤ 7919 * (k : Int) * (k : Int) ∧ 7919 * (k : Int) * (k : Int) ≤ 7919 * 1000 * 1000 := by
      have hh : k * k ≤ 1000 * 1000 := Nat.mul_le_mul (by omega) (by omega)
      rw [Int.mul_assoc, ← Int.natCast_mul]
      omega
    have hb : (cellM ns (k % max 1 ns.length) + 7919 * (k : Int) * (k : Int) + 104729).natAbs < 2 ^ 300 := by omega
    refine ⟨cmu_l (by decide), cmu_r (by omega), _, rfl, cmu_w hb hb (by decide) (by decide) (by decide), by decide, cmu_l (by decide), cmu_r (by omega), by decide, ⟨by decide, by decide⟩, ?_⟩
    exact q H1 e1

def sp_law_turned (K : PySem.W.Frag) : Sp := fun vs H Q _ => ∃ s a c : Nat, vs = [.int (s : Nat), .int (a : Nat), .int (c : Nat)] ∧ s < 1024 ∧ a < 10 ∧ c < 10 ∧ RetV (.int (turnM s a c : Nat)) H Q
theorem ok_law_turned (T : Txt K mg) (h_law_bits : Has P w K mg base 1 "_law_bits" ["_law_one"] (sp_law_bits K)) : Has P w K mg base 2 "_law_turned" ["_law_one", "_law_name", "_law_other"] (sp_law_turned K) := by
  refine DefAt.has T.d_law_turned sc_law_turned (fun vs H Q E h => ?_) (fun f cdv A outer s H vs Q E hr h => ⟨_, (pss_cons (ps_set (i := 3) sc_law_turned.nd rfl (Or.inl rfl) (pe_has h_law_bits (hr.mono (by decide)) rfl passB (pa_cons (pv 0) pa_nil)))
      (pss_cons (ps_setLc (i := 4) (own := [("_law_this", 5)]) (g := gName 5) rfl sc_law_turned.nd rfl rfl (sw_true rfl rfl rfl (by decide +kernel)) (k_pil K (pv 3)) (blkOk_by (own := [("_law_this", 5)]) (N := N_law_turned) (sc := defScope s_law_turned) (by decide +kernel)) (fun _ _ _ _ _ => (pg_name (i := 5) sc_law_turned.nd rfl (Or.inl rfl))) (fun _ _ _ _ _ => pts_nil) (fun _ _ _ _ _ => (pe_ifExp (pt_cmpR (k_in K) (pv 5) (pe_tup (pa_cons (pv 1) (pa_cons (pv 2) pa_nil))) (by rfl)) (pe_ix (k_ixl K) (pe_lst (pa_cons (pv 1) (pa_cons (pv 2) pa_nil))) (pe_callTy (T := "int") call_int1 (by rfl) T.n_int (by decide +kernel) (pa_cons (pe_cmpR op_eq (pv 5) (pv 1) (nomark _)) pa_nil)) (fun _ _ => rfl)) (pv 5))))
      (pss_one (ps_ret (pe_callB (id := "sum") (k_sum K rfl) (by rfl) T.n_sum (by decide +kernel) (pa_cons (pe_lc (own := [("_law_this", 5)]) (g := gName 5) rfl sc_law_turned.nd (k_pil K (pv 4)) (blkOk_by (own := [("_law_this", 5)]) (N := N_law_turned) (sc := defScope s_law_turned) (by decide +kernel)) (fun _ _ _ _ _ => (pg_name (i := 5) sc_law_turned.nd rfl (Or.inl rfl))) (fun _ _ _ _ _ => pts_nil) (fun _ _ _ _ _ => (pe_op op_sh pe_int (pv 5)))) pa_nil)))))), ?_⟩)
  · obtain ⟨s, a, c, rfl, _⟩ := h
    rfl
  · obtain ⟨s, a, c, rfl, hs, ha, hc, q⟩ := h
    simp only [L2.start, N_law_turned, List.map_cons, List.map_nil, List.length_cons, List.length_nil, List.replicate_succ, List.replicate_zero, Nat.reduceAdd, Nat.reduceSub, List.cons_append, List.nil_append]
    walk_at "rl"
    have hb10 : ∀ k ∈ bitsN s, k < 10 := fun k hk => by
      unfold bitsN at hk
      exact List.mem_range.mp (List.mem_filter.mp hk).1
    have hbl : (bitsM s).length ≤ 10 := bitsM_len s
    refine ⟨s, rfl, hs, fun p1 G1 n1 x1 f1 => ⟨p1, rfl, ⟨_, .inl (.inl f1)⟩, ?_⟩⟩
    refine wl_ints (K := K) (bitsM s) (fun _ => true) (fun z => .int (tau a c z.toNat : Nat)) (.inl (.inl f1)) (by omega) (fun _ => rfl) (fun _ _ _ _ => yes_ev) (fun z hz K1 k1 _ K2 k2 Q2 q2 => ?_) (fun u G2 n2 x2 f2 => ?_)
    · obtain ⟨k, hk, rfl⟩ := List.mem_map.mp hz
      rw [Int.toNat_natCast] at q2
      walk_at "rd"
      refine ⟨sz_of (by simp), fun p np => ?_⟩
      refine ⟨p, [V.int (a : Nat), V.int (c : Nat)], rfl, .inr (.inl (.inl upd_same)), rfl, rfl, ?_⟩
      have e : inV (.int (k : Nat)) [V.int (a : Nat), V.int (c : Nat)] = decide ((k : Int) ∈ [(a : Int), (c : Int)]) := inV_int (k : Int) [(a : Int), (c : Int)]
      rw [e]
      have x3 := Ex.new (o := HO.tup [V.int (a : Nat), V.int (c : Nat)]) np
      refine ⟨_, rfl, ?_⟩
      by_cases hm : (k : Int) ∈ [(a : Int), (c : Int)]
      · rw [decide_eq_true hm]
        refine iteT ⟨sz_of (by simp), fun p2 np2 => ⟨rfl, [V.int (a : Nat), V.int (c : Nat)], .inl (.inl upd_same), ?_⟩⟩
        have x4 := Ex.new (o := HO.lst [V.int (a : Nat), V.int (c : Nat)]) np2
        by_cases hk1 : k = a
        · rw [if_pos (by omega)]
          refine ⟨_, atI_nat (j := 1) rfl, ?_⟩
          have ht : tau a c k = c := by unfold tau; rw [if_pos hk1]
          rw [ht] at q2
          exact q2 _ (x3.trans x4)
        · rw [if_neg (by omega)]
          have hk2 : k = c := by
            simp only [List.mem_cons, List.mem_nil_iff, or_false] at hm
            omega
          refine ⟨_, atI_nat (j := 0) rfl, ?_⟩
          have ht : tau a c k = a := by unfold tau; rw [if_neg hk1, if_pos hk2]
          rw [ht] at q2
          exact q2 _ (x3.trans x4)
      · rw [decide_eq_false hm]
        simp only [List.mem_cons, List.mem_nil_iff, or_false, not_or] at hm
        have ht : tau a c k = k := by unfold tau; rw [if_neg (by omega), if_neg (by omega)]
        rw [ht] at q2
        exact iteF (q2 _ x3)
    have hv : ((bitsM s).filter fun _ => true).map (fun z => V.int (tau a c z.toNat : Nat)) = (ordI ((bitsN s).map (tau a c))).map V.int := by
      rw [List.filter_eq_self.mpr (fun _ _ => rfl)]
      unfold bitsM ordI
      rw [List.map_map, List.map_map, List.map_map]
      rfl
    rw [hv] at f2
    refine ⟨u, rfl, ⟨_, .inl (.inl f2)⟩, ?_⟩
    refine wl_ints (K := K) (ordI ((bitsN s).map (tau a c))) (fun _ => true) (fun z => .int ((2 ^ z.toNat : Nat) : Int)) (.inl (.inl f2)) (by unfold ordI; rw [List.length_map, List.length_map]; unfold bitsM at hbl; rw [List.length_map] at hbl; omega) (fun _ => rfl) (fun _ _ _ _ => yes_ev) (fun z hz K1 k1 _ K2 k2 Q2 q2 => ?_) (fun v G3 n3 x3 f3 => ?_)
    · obtain ⟨i, hi, rfl⟩ := List.mem_map.mp hz
      obtain ⟨k, hk, rfl⟩ := List.mem_map.mp hi
      have hk10 := hb10 k hk
      have ht : tau a c k < 10 := by
        unfold tau
        split
        · exact hc
        · split
          · exact ha
          · exact hk10
      rw [Int.toNat_natCast] at q2
      walk_at "rd"
      exact ⟨cpow1 (by omega), q2 _ (Ex.refl _)⟩
    have hg : ((ordI ((bitsN s).map (tau a c))).filter fun _ => true).map (fun z => V.int ((2 ^ z.toNat : Nat) : Int)) = ((((bitsN s).map fun k => 2 ^ tau a c k)).map fun i : Nat => (i : Int)).map V.int := by
      rw [List.filter_eq_self.mpr (fun _ _ => rfl)]
      unfold ordI
      rw [List.map_map, List.map_map, List.map_map, List.map_map]
      rfl
    rw [hg] at f3
    refine ⟨v, rfl, _, .inl (.inl f3), ?_⟩
    rw [show (((bitsN s).map fun k => 2 ^ tau a c k).map fun i : Nat => (i : Int)).sum = ((turnM s a c : Nat) : Int) from sum_cast _]
    exact q G3 (x1.trans (x2.trans x3))

def sp_need_count (K : PySem.W.Frag) : Sp := fun vs H Q E => ∃ x, vs = [x] ∧ El K H x ∧ (amg x 0 10 = true → Q .non H) ∧ (amg x 0 10 = false → E (.ref (He.ga K "BadCount")) none H)
theorem ok_need_count (T : Txt K mg) (h_is_among : Has P w K mg base 2 "is_among" ["thing", "least", "most"] (sp_is_among K)) : Has P w K mg base 3 "need_count" ["many"] (sp_need_count K) := by
  refine DefAt.has T.d_need_count sc_need_count (fun vs H Q E h => ?_) (fun f cdv A outer s H vs Q E hr h => ⟨_, (pss_one (ps_if (pt_not (pt_val (pe_has h_is_among (hr.mono (by decide)) rfl passB (pa_cons (pv 0) (pa_cons pe_int (pa_cons (pe_kint T.k_MOST_NAMES rfl) pa_nil))))))
      (pss_one (k_rz K rfl takesB T.c_BadCount rfl)) pss_nil)), ?_⟩)
  · obtain ⟨x, rfl, _⟩ := h
    rfl
  · obtain ⟨x, rfl, hE, q1, q2⟩ := h
    simp only [L2.start, N_need_count, List.map_cons, List.map_nil, List.length_cons, List.length_nil, List.replicate_succ, List.replicate_zero, Nat.reduceAdd, Nat.reduceSub, List.cons_append, List.nil_append]
    walk_at "rd"
    refine ⟨x, 0, 10, rfl, hE, _, rfl, ?_⟩
    cases hb : amg x 0 10 with
    | true => exact iteF (q1 hb)
    | false => exact iteT (q2 hb)

def sp_need_set (K : PySem.W.Frag) : Sp := fun vs H Q E => ∃ x n, vs = [x, .int (n : Nat)] ∧ n ≤ 10 ∧ El K H x ∧ (amg x 0 (2 ^ n - 1) = true → Q .non H) ∧ (amg x 0 (2 ^ n - 1) = false → E (.ref (He.ga K "BadSet")) none H)
theorem ok_need_set (T : Txt K mg) (h_is_among : Has P w K mg base 2 "is_among" ["thing", "least", "most"] (sp_is_among K)) : Has P w K mg base 3 "need_set" ["one", "many"] (sp_need_set K) := by
  refine DefAt.has T.d_need_set sc_need_set (fun vs H Q E h => ?_) (fun f cdv A outer s H vs Q E hr h => ⟨_, (pss_one (ps_if (pt_not (pt_val (pe_has h_is_among (hr.mono (by decide)) rfl passB (pa_cons (pv 0) (pa_cons pe_int (pa_cons (pe_op op_sub (pe_op op_sh pe_int (pv 1)) pe_int) pa_nil))))))
      (pss_one (k_rz K rfl takesB T.c_BadSet rfl)) pss_nil)), ?_⟩)
  · obtain ⟨x, n, rfl, _⟩ := h
    rfl
  · obtain ⟨x, n, rfl, hn, hE, q1, q2⟩ := h
    simp only [L2.start, N_need_set, List.map_cons, List.map_nil, List.length_cons, List.length_nil, List.replicate_succ, List.replicate_zero, Nat.reduceAdd, Nat.reduceSub, List.cons_append, List.nil_append]
    walk_at "rd"
    refine ⟨cpow1 (by omega), x, 0, _, rfl, hE, _, rfl, ?_⟩
    have e : ((2 ^ n : Nat) : Int) - 1 = 2 ^ n - 1 := by rw [← pow2c]
    rw [e]
    cases hb : amg x 0 (2 ^ n - 1) with
    | true => exact iteF (q1 hb)
    | false => exact iteT (q2 hb)

def sp_Book_swap (K : PySem.W.Frag) : Sp := fun vs H Q E => ∃ (b : Addr) (O : List Addr) (n : Nat) (ns : List Int) (ds : List Deed) (x y : V), vs = [.ref b, x, y] ∧ BookAt K H b O n ns ds ∧ El K H x ∧ El K H y ∧ ds.length ≤ 1000 ∧
  ((∃ a c : Nat, x = .int (a : Nat) ∧ y = .int (c : Nat) ∧ a < n ∧ c < n ∧ ∀ H' O', ExO O H H' → Grow O O' H → BookAt K H' b O' n (actM (false, a, (c : Int)) ns) (ds ++ [(false, a, (c : Int))]) → Q .non H') ∨
  (amg x 0 ((n : Int) - 1) = false ∧ ∀ H', Ex H H' → E (.ref (He.ga K "BadName")) none H'))
theorem ok_Book_swap (T : Txt K mg) (h_Book_exchange : HasM P w K mg base 2 "Book" "exchange" ["self", "name", "other"] (sp_Book_exchange K)) (h_is_among : Has P w K mg base 2 "is_among" ["thing", "least", "most"] (sp_is_among K)) : HasM P w K mg base 3 "Book" "swap" ["self", "name", "other"] (sp_Book_swap K) := by
  refine MethAt.has T.d_Book_swap sc_Book_swap (fun vs H Q E h => ?_) (fun f cdv A outer s H vs Q E hr h => ⟨_, (pss_cons (ps_if (PW.pt (pw_or (pt_not (pt_val (pe_has h_is_among (hr.mono (by decide)) rfl passB (pa_cons (pv 1) (pa_cons pe_int (pa_cons (pe_op op_sub (k_fld K (pv 0)) pe_int) pa_nil)))))) (pw_or1 (pt_not (pt_val (pe_has h_is_among (hr.mono (by decide)) rfl passB (pa_cons (pv 2) (pa_cons pe_int (pa_cons (pe_op op_sub (k_fld K (pv 0)) pe_int) pa_nil)))))))))
      (pss_one (k_rz K rfl takesB T.c_BadName rfl)) pss_nil)
      (pss_cons (ps_expr (k_meth K h_Book_exchange (pv 0) T.cl (hr.mono (by decide)) passB (pa_cons (pv 1) (pa_cons (pv 2) pa_nil))))
      (pss_one (ps_expr (k_bm K PySem.F.plainAttrs_list PySem.F.slot_list_append PySem.F.type_list_append mt_append (k_fld K (pv 0)) (pa_cons (pe_tup (pa_cons pe_str (pa_cons (pv 1) (pa_cons (pv 2) pa_nil)))) pa_nil)))))), ?_⟩)
  · obtain ⟨b, O, n, ns, ds, x, y, rfl, _⟩ := h
    rfl
  · obtain ⟨b, O, n, ns, ds, x, y, rfl, B, hE1, hE2, hd, h⟩ := h
    simp only [L2.start, N_Book_swap, List.map_cons, List.map_nil, List.length_cons, List.length_nil, List.replicate_succ, List.replicate_zero, Nat.reduceAdd, Nat.reduceSub, List.cons_append, List.nil_append]
    obtain ⟨dx, nu, lo, hi, dn, xs, h0, hnd, hb, hnu, hlo, hhi, hdn, hds⟩ := B.ex
    have ln := B.ln
    have hn := B.hn
    subst h0
    have nd := hnd
    simp only [List.nodup_cons, List.mem_cons, List.mem_nil_iff, or_false, not_or, not_false_eq_true, List.nodup_nil, and_true] at nd
    obtain ⟨⟨b1, b2, b3, b4⟩, ⟨n1, n2, n3⟩, ⟨l1, l2⟩, i1⟩ := nd
    walk_at "rl"
    refine ⟨_, _, _, hb, T.cl, T.na_names, _, lk_names, _, rfl, x, 0, _, rfl, hE1, _, rfl, ?_⟩
    rcases h with ⟨a, c, rfl, rfl, ha, hc, q⟩ | ⟨hbad, q⟩
    · rw [amg_nat (by omega) (by omega)]
      refine iteF ⟨_, _, _, hb, T.cl, T.na_names, _, lk_names, _, rfl, _, 0, _, rfl, hE2, _, rfl, ?_⟩
      rw [amg_nat (by omega) (by omega)]
      refine iteF ⟨dx, _, hb, rfl, b, dx, nu, lo, hi, dn, n, a, c, ns, lowM n ns, highM n ns, rfl, by omega, ha, hc, hb, hnu, hlo, hhi, b1, b2, b3, ln, lowM_length _ _, highM_length _ _, fun H1 nu' lo' hi' o1 w1 w2 w3 hnd' hb1 f1 f2 f3 => ?_⟩
      have hd1 : H1 dn = some (.lst xs) := o1.keep _ _ hdn (by simp; exact fun z => b4 z.symm)
      have mono1 : ∀ a ys, H a = some (.tup ys) → H1 a = some (.tup ys) := fun a ys h => o1.keep a _ h (by
        rw [List.mem_singleton]
        rintro rfl
        rw [hb] at h; cases h)
      refine ⟨_, _, _, hb1, T.cl, T.na_done, _, lk_done, ty_lst (.inl (.inl hd1)), sz_of (by simp), fun p np => ⟨dn, rfl, xs, ?_⟩⟩
      have x2 := Ex.new (o := HO.tup [.str "swap", .int (a : Nat), .int (c : Nat)]) np
      have f4 : (upd H1 p (.tup [.str "swap", .int (a : Nat), .int (c : Nat)])) p = some (.tup [.str "swap", .int (a : Nat), .int (c : Nat)]) := upd_same
      have o2 := o1.ex x2
      have hb2 := x2 _ _ hb1
      have hd2 := x2 _ _ hd1
      have g1 := x2 _ _ f1
      have g2 := x2 _ _ f2
      have g3 := x2 _ _ f3
      have mono : ∀ a' ys, H a' = some (.tup ys) → (upd H1 p (.tup [.str "swap", .int (a : Nat), .int (c : Nat)])) a' = some (.tup ys) := fun a' ys h => x2 _ _ (mono1 a' ys h)
      have d1 : nu' ≠ dn := fun z => by rw [z, hdn] at w1; cases w1
      have d2 : lo' ≠ dn := fun z => by rw [z, hdn] at w2; cases w2
      have d3 : hi' ≠ dn := fun z => by rw [z, hdn] at w3; cases w3
      have c1 : nu' ≠ b := fun z => by rw [z, hb] at w1; cases w1
      have c2 : lo' ≠ b := fun z => by rw [z, hb] at w2; cases w2
      have c3 : hi' ≠ b := fun z => by rw [z, hb] at w3; cases w3
      generalize upd H1 p _ = G2 at *
      refine ⟨hd2, sz_lt (by rw [hds.len]; omega), ?_⟩
      have nd2 : ∀ {a ys}, G2 a = some (.tup ys) → a ≠ dn := fun h z => by rw [z, hd2] at h; cases h
      simp only [List.nodup_cons, List.mem_cons, List.mem_nil_iff, or_false, not_or, not_false_eq_true, List.nodup_nil, and_true] at hnd'
      refine q _ [b, nu', lo', hi', dn] ((o2.wide (by simp)).upd (.inl (by simp))) ?_ ⟨⟨dx, nu', lo', hi', dn, xs ++ [.ref p], rfl, ?_, ?_, ?_, ?_, ?_, upd_same, ?_⟩, ?_, hn⟩
      · intro z hz
        simp only [List.mem_cons, List.mem_nil_iff, or_false] at hz
        rcases hz with rfl | rfl | rfl | rfl | rfl
        · exact .inl (by simp)
        · exact .inr w1
        · exact .inr w2
        · exact .inr w3
        · exact .inl (by simp)
      · simp only [List.nodup_cons, List.mem_cons, List.mem_nil_iff, or_false, not_or, not_false_eq_true, List.nodup_nil, and_true]
        exact ⟨⟨fun z => c1 z.symm, fun z => c2 z.symm, fun z => c3 z.symm, b4⟩, ⟨hnd'.1.1, hnd'.1.2, d1⟩, ⟨hnd'.2, d2⟩, d3⟩
      · rw [upd_ne b4]; exact hb2
      · rw [upd_ne d1]; exact g1
      · rw [upd_ne d2]
        show G2 lo' = some (.lst ((lowM n (swapL a c ns)).map V.int))
        rw [low_swap ha hc ln]
        exact g2
      · rw [upd_ne d3]
        show G2 hi' = some (.lst ((highM n (swapL a c ns)).map V.int))
        rw [high_swap ha hc ln]
        exact g3
      · refine DeedsAt.snoc (d := (false, a, (c : Int))) ?_ (hds.mono fun a ys h => ?_)
        · rw [upd_ne (nd2 f4)]; exact f4
        · rw [upd_ne (nd2 (mono a ys h))]; exact mono a ys h
      · rw [actM_length]; exact ln
    · rw [hbad]
      exact iteT (q H (Ex.refl H))

def sp_Book_undo (K : PySem.W.Frag) : Sp := fun vs H Q E => ∃ (b : Addr) (O : List Addr) (n : Nat) (ns : List Int) (ds : List Deed), vs = [.ref b] ∧ BookAt K H b O n ns ds ∧
  ((∃ ds' d, ds = ds' ++ [d] ∧ DeedOk n d ∧ ∀ H' O', ExO O H H' → Grow O O' H → BookAt K H' b O' n (undoM d ns) ds' → Q .non H') ∨
  (ds = [] ∧ ∀ H', Ex H H' → E (.ref (He.ga K "NothingDone")) none H'))
theorem ok_Book_undo (T : Txt K mg) (h_Book_add_at : HasM P w K mg base 1 "Book" "add_at" ["self", "one", "number"] (sp_Book_add_at K)) (h_Book_exchange : HasM P w K mg base 2 "Book" "exchange" ["self", "name", "other"] (sp_Book_exchange K)) : HasM P w K mg base 3 "Book" "undo" ["self"] (sp_Book_undo K) := by
  refine MethAt.has T.d_Book_undo sc_Book_undo (fun vs H Q E h => ?_) (fun f cdv A outer s H vs Q E hr h => ⟨_, (pss_cons (ps_if (pt_cmpR (k_eqD K hr.units) (k_fld K (pv 0)) (pe_lst pa_nil) (nomark _))
      (pss_one (k_rz K rfl takesB T.c_NothingDone rfl)) pss_nil)
      (pss_cons (ps_asg (g := gTup K 3 (gCons (gName 1) (gCons (gName 2) (gCons (gName 3) gNil)))) (k_bm0 K PySem.F.plainAttrs_list PySem.F.slot_list_pop PySem.F.type_list_pop mt_pop (k_fld K (pv 0))) (k_pgt K rfl (pgs_cons (pg_name (i := 1) sc_Book_undo.nd rfl (Or.inl rfl)) (pgs_cons (pg_name (i := 2) sc_Book_undo.nd rfl (Or.inl rfl)) (pgs_cons (pg_name (i := 3) sc_Book_undo.nd rfl (Or.inl rfl)) pgs_nil)))))
      (pss_one (ps_if (pt_cmpR op_eq (pv 1) pe_str (nomark _))
      (pss_one (ps_expr (k_meth K h_Book_add_at (pv 0) T.cl (hr.mono (by decide)) passB (pa_cons (pv 2) (pa_cons (pe_un un_neg (pv 3)) pa_nil))))) (pss_one (ps_expr (k_meth K h_Book_exchange (pv 0) T.cl (hr.mono (by decide)) passB (pa_cons (pv 2) (pa_cons (pv 3) pa_nil))))))))), ?_⟩)
  · obtain ⟨b, O, n, ns, ds, rfl, _⟩ := h
    rfl
  · obtain ⟨b, O, n, ns, ds, rfl, B, h⟩ := h
    simp only [L2.start, N_Book_undo, List.map_cons, List.map_nil, List.length_cons, List.length_nil, List.replicate_succ, List.replicate_zero, Nat.reduceAdd, Nat.reduceSub, List.cons_append, List.nil_append]
    obtain ⟨dx, nu, lo, hi, dn, xs, h0, hnd, hb, hnu, hlo, hhi, hdn, hds⟩ := B.ex
    have ln := B.ln
    have hn := B.hn
    subst h0
    have nd := hnd
    simp only [List.nodup_cons, List.mem_cons, List.mem_nil_iff, or_false, not_or, not_false_eq_true, List.nodup_nil, and_true] at nd
    obtain ⟨⟨b1, b2, b3, b4⟩, ⟨n1, n2, n3⟩, ⟨l1, l2⟩, i1⟩ := nd
    refine seq_cut1 fun R1 h1 => ?_
    walk_at "rl"
    refine ⟨_, _, _, hb, T.cl, T.na_done, _, lk_done, by decide, fun p np => ?_⟩
    have x1 := Ex.new (o := HO.lst ([] : List V)) np
    refine eq_noDeeds (x1 _ _ hdn) (hds.mono fun a ys h => x1 _ _ h) upd_same ⟨_, rfl, ?_⟩
    have hb1 := x1 _ _ hb
    have hnu1 := x1 _ _ hnu
    have hlo1 := x1 _ _ hlo
    have hhi1 := x1 _ _ hhi
    have hdn1 := x1 _ _ hdn
    have hds1 : DeedsAt _ xs ds := hds.mono fun a ys h => x1 _ _ h
    generalize upd H p _ = G1 at *
    rcases h with ⟨ds', d, rfl, hok, q⟩ | ⟨rfl, q⟩
    · rw [show (ds' ++ [d]).isEmpty = false from by cases ds' <;> rfl]
      refine iteF ?_
      obtain ⟨ys, t, rfl, hys, ht⟩ := hds1.split
      subst h1
      refine seq_cut1 fun R2 h2 => ?_
      walk_at "rl"
      have td : t ≠ dn := fun z => by rw [z, hdn1] at ht; cases ht
      have hlast : (ys ++ [V.ref t])[(ys ++ [V.ref t]).length - 1]? = some (.ref t) := by simp
      refine ⟨_, _, _, hb1, T.cl, T.na_done, _, lk_done, ty_lst (.inl (.inl hdn1)), dn, rfl, _, hdn1, _, hlast, ?_⟩
      rw [List.dropLast_concat]
      have o2 : ExO [b, nu, lo, hi, dn] H (upd G1 dn (.lst ys)) := (ExO.of x1).upd (.inl (by simp))
      have hb2 : (upd G1 dn (.lst ys)) b = _ := (upd_ne b4).trans hb1
      have hnu2 : (upd G1 dn (.lst ys)) nu = _ := (upd_ne n3).trans hnu1
      have hlo2 : (upd G1 dn (.lst ys)) lo = _ := (upd_ne l2).trans hlo1
      have hhi2 : (upd G1 dn (.lst ys)) hi = _ := (upd_ne i1).trans hhi1
      have hdn2 : (upd G1 dn (.lst ys)) dn = some (.lst ys) := upd_same
      have ht2 : (upd G1 dn (.lst ys)) t = _ := (upd_ne td).trans ht
      have hys2 : DeedsAt (upd G1 dn (.lst ys)) ys ds' := hys.mono fun a zs h => by
        rw [upd_ne (fun z => by rw [z, hdn1] at h; cases h)]
        exact h
      generalize upd G1 dn (.lst ys) = G2 at *
      refine ⟨t, [.str (wordM d), .int (d.2.1 : Nat), .int d.2.2], rfl, .inl (.inl ht2), rfl, .str (wordM d), [.int (d.2.1 : Nat), .int d.2.2], rfl, .int (d.2.1 : Nat), [.int d.2.2], rfl, .int d.2.2, [], rfl, rfl, ?_⟩
      subst h2
      obtain ⟨pt, one, z⟩ := d
      cases pt with
      | true =>
        have ho : one < 2 ^ n := hok.1 rfl
        walk_at "rl"
        refine ⟨rfl, ?_⟩
        rw [if_pos (show V.str (wordM (true, one, z)) = V.str "put" from rfl)]
        refine ⟨dx, _, hb2, rfl, b, dx, nu, lo, hi, dn, n, one, -z, ns, lowM n ns, highM n ns, rfl, ?_, by omega, ho, hb2, hnu2, hlo2, hhi2, ln, lowM_length _ _, highM_length _ _, fun H3 kk f1 f2 f3 => ?_⟩
        · simp only [List.nodup_cons, List.mem_cons, List.mem_nil_iff, or_false, not_or, not_false_eq_true, List.nodup_nil, and_true]
          exact ⟨⟨b1, b2, b3⟩, ⟨n1, n2⟩, l1⟩
        refine q H3 [b, nu, lo, hi, dn] ⟨fun a o h n => ?_, fun a h => ?_⟩ (Grow.refl _ _) ⟨⟨dx, nu, lo, hi, dn, ys, rfl, hnd, ?_, f1, ?_, ?_, ?_, hys2.mono fun a zs h => ?_⟩, ?_, hn⟩
        · have h2 := o2.keep a o h n
          simp only [List.mem_cons, List.mem_nil_iff, or_false, not_or] at n
          rw [kk a n.2.1 n.2.2.1 n.2.2.2.1]
          exact h2
        · by_cases e1 : a = nu
          · rw [e1, f1] at h; cases h
          by_cases e2 : a = lo
          · rw [e2, f2] at h; cases h
          by_cases e3 : a = hi
          · rw [e3, f3] at h; cases h
          rw [kk a e1 e2 e3] at h
          exact o2.back a h
        · rw [kk b b1 b2 b3]; exact hb2
        · show H3 lo = some (.lst ((lowM n (putL one (-z) ns)).map V.int))
          rw [low_put ln ho]
          exact f2
        · show H3 hi = some (.lst ((highM n (putL one (-z) ns)).map V.int))
          rw [high_put ln ho]
          exact f3
        · rw [kk dn (fun z => n3 z.symm) (fun z => l2 z.symm) (fun z => i1 z.symm)]; exact hdn2
        · rw [kk a (fun z => by rw [z, hnu2] at h; cases h) (fun z => by rw [z, hlo2] at h; cases h) (fun z => by rw [z, hhi2] at h; cases h)]
          exact h
        · show (putL one (-z) ns).length = 2 ^ n
          rw [putL_length]; exact ln
      | false =>
        obtain ⟨ha, hz, hc⟩ := hok.2 rfl
        obtain ⟨c, rfl⟩ : ∃ c : Nat, z = (c : Int) := ⟨z.toNat, (Int.toNat_of_nonneg hz).symm⟩
        have hc : c < n := by simpa using hc
        have ha : one < n := ha
        walk_at "rl"
        refine ⟨rfl, ?_⟩
        rw [if_neg (show ¬ V.str (wordM (false, one, (c : Int))) = V.str "put" from by show ¬ V.str "swap" = V.str "put"; decide)]
        refine ⟨dx, _, hb2, rfl, b, dx, nu, lo, hi, dn, n, one, c, ns, lowM n ns, highM n ns, rfl, by omega, ha, hc, hb2, hnu2, hlo2, hhi2, b1, b2, b3, ln, lowM_length _ _, highM_length _ _, fun H3 nu' lo' hi' o3 w1 w2 w3 hnd' hb3 f1 f2 f3 => ?_⟩
        have hd3 : H3 dn = some (.lst ys) := o3.keep _ _ hdn2 (by simp; exact fun z => b4 z.symm)
        have v1 := o2.back _ w1
        have v2 := o2.back _ w2
        have v3 := o2.back _ w3
        simp only [List.nodup_cons, List.mem_cons, List.mem_nil_iff, or_false, not_or, not_false_eq_true, List.nodup_nil, and_true] at hnd'
        refine q H3 [b, nu', lo', hi', dn] (o2.trans o3 fun a h => .inl (by simp at h; simp [h])) ?_ ⟨⟨dx, nu', lo', hi', dn, ys, rfl, ?_, hb3, ?_, ?_, ?_, hd3, hys2.mono fun a zs h => o3.keep a _ h ?_⟩, ?_, hn⟩
        · intro z hz
          simp only [List.mem_cons, List.mem_nil_iff, or_false] at hz
          rcases hz with rfl | rfl | rfl | rfl | rfl
          · exact .inl (by simp)
          · exact .inr v1
          · exact .inr v2
          · exact .inr v3
          · exact .inl (by simp)
        · simp only [List.nodup_cons, List.mem_cons, List.mem_nil_iff, or_false, not_or, not_false_eq_true, List.nodup_nil, and_true]
          refine ⟨⟨fun z => ?_, fun z => ?_, fun z => ?_, b4⟩, ⟨hnd'.1.1, hnd'.1.2, fun z => ?_⟩, ⟨hnd'.2, fun z => ?_⟩, fun z => ?_⟩
          · rw [← z, hb] at v1; cases v1
          · rw [← z, hb] at v2; cases v2
          · rw [← z, hb] at v3; cases v3
          · rw [z, hdn] at v1; cases v1
          · rw [z, hdn] at v2; cases v2
          · rw [z, hdn] at v3; cases v3
        · show H3 nu' = some (.lst ((swapL one (c : Int).toNat ns).map V.int))
          exact f1
        · show H3 lo' = some (.lst ((lowM n (swapL one c ns)).map V.int))
          rw [low_swap ha hc ln]
          exact f2
        · show H3 hi' = some (.lst ((highM n (swapL one c ns)).map V.int))
          rw [high_swap ha hc ln]
          exact f3
        · rw [List.mem_singleton]
          rintro rfl
          rw [hb2] at h; cases h
        · show (swapL one (c : Int).toNat ns).length = 2 ^ n
          rw [swapL_length]; exact ln
    · exact iteT (q G1 x1)

def sp_law_behind (K : PySem.W.Frag) : Sp := fun vs H Q _ => ∃ (a : Addr) (n : Nat) (ns : List Int) (d : Deed), vs = [.ref a, .str (wordM d), .int (d.2.1 : Nat), .int d.2.2] ∧ SqL K H a (ns.map V.int) ∧ n ≤ 5 ∧ ns.length = 2 ^ n ∧ DeedOk n d ∧ RetL ((actM d ns).map V.int) H Q
theorem ok_law_behind (T : Txt K mg) (h_law_turned : Has P w K mg base 2 "_law_turned" ["_law_one", "_law_name", "_law_other"] (sp_law_turned K)) : Has P w K mg base 3 "_law_behind" ["_law_numbers", "_law_word", "_law_one", "_law_other"] (sp_law_behind K) := by
  refine DefAt.has T.d_law_behind sc_law_behind (fun vs H Q E h => ?_) (fun f cdv A outer s H vs Q E hr h => ⟨_, (pss_cons (ps_set (i := 4) sc_law_behind.nd rfl (Or.inr rfl) (pe_callTy (T := "list") (k_list K) (by rfl) T.n_list (by decide +kernel) (pa_cons (pv 0) pa_nil)))
      (pss_cons (ps_if (pt_cmpR op_eq (pv 1) pe_str (nomark _))
      (pss_cons (ps_asg (pe_op op_add (pe_ix (k_ixl K) (pv 4) (pv 2) (fun _ _ => rfl)) (pv 3)) (pg_sub (pv 4) (pv 2) set_list))
      (pss_one (ps_ret (pv 4)))) pss_nil)
      (pss_one (ps_ret (pe_lc (own := [("_law_spot", 5)]) (g := gName 5) rfl sc_law_behind.nd (pi_range1 rfl T.n_range (pa_cons (pe_callB (id := "len") (k_len K) (by rfl) T.n_len (by decide +kernel) (pa_cons (pv 4) pa_nil)) pa_nil)) (blkOk_by (own := [("_law_spot", 5)]) (N := N_law_behind) (sc := defScope s_law_behind) (by decide +kernel)) (fun _ _ _ _ _ => (pg_name (i := 5) sc_law_behind.nd rfl (Or.inl rfl))) (fun _ _ _ _ _ => pts_nil) (fun _ _ _ _ _ => (pe_ix (k_ixl K) (pv 4) (pe_has h_law_turned (hr.mono (by decide)) rfl passL (pa_cons (pv 5) (pa_cons (pv 2) (pa_cons (pv 3) pa_nil)))) (fun _ _ => rfl)))))))), ?_⟩)
  · obtain ⟨a, n, ns, d, rfl, _⟩ := h
    rfl
  · obtain ⟨a, n, ns, d, rfl, hA, hn, ln, hok, q⟩ := h
    simp only [L2.start, N_law_behind, List.map_cons, List.map_nil, List.length_cons, List.length_nil, List.replicate_succ, List.replicate_zero, Nat.reduceAdd, Nat.reduceSub, List.cons_append, List.nil_append]
    have h32 : 2 ^ n ≤ 32 := Nat.pow_le_pow_right (n := 2) (by decide) hn
    refine seq_cut1 fun R1 h1 => ?_
    walk_at "rl"
    refine ⟨_, .inl hA, ?_⟩
    intro p1 n1; generalize hG1 : upd _ p1 _ = G1; have x1 := upd_ex hG1 n1; have f1 := upd_at hG1; clear hG1; have e1 := x1
    subst h1
    obtain ⟨pt, one, z⟩ := d
    cases pt with
    | true =>
      have ho : one < 2 ^ n := hok.1 rfl
      walk_at "rl"
      refine ⟨rfl, ?_⟩
      rw [if_pos (show V.str (wordM (true, one, z)) = V.str "put" from rfl)]
      refine ⟨_, .inl (.inl f1), _, at_int (by omega), _, rfl, _, f1, _, ix_int (by omega), ?_⟩
      rw [set_int]
      refine q p1 _ n1 (ex_mut e1 n1) ?_
      rw [upd_same]
      rfl
    | false =>
      obtain ⟨ha, hz, hc⟩ := hok.2 rfl
      obtain ⟨c, rfl⟩ : ∃ c : Nat, z = (c : Int) := ⟨z.toNat, (Int.toNat_of_nonneg hz).symm⟩
      have hc : c < n := by simpa using hc
      have ha : one < n := ha
      walk_at "rl"
      refine ⟨rfl, ?_⟩
      rw [if_neg (show ¬ V.str (wordM (false, one, (c : Int))) = V.str "put" from by show ¬ V.str "swap" = V.str "put"; decide)]
      refine ⟨_, .inl (.inl (.inl f1)), ?_⟩
      rw [List.length_map, ln]
      refine ⟨by omega, by omega, ?_⟩
      refine wl_rng (n := 2 ^ n) (fun _ => true) (fun s => .int (at0 ns (swM s one c))) (by omega) (fun _ => rfl) (fun _ _ _ _ => yes_ev) (fun s K1 hs k1 _ K2 k2 Q2 q2 => ?_) (fun u G2 n2 x2 f2 => ?_)
      · walk_at "rd"
        refine ⟨s, one, c, rfl, by omega, by omega, by omega, fun K3 k3 => ?_⟩
        rw [turn_sw hn hs ha hc]
        exact ⟨_, _, rfl, .inl (.inl ((k1.trans (k2.trans k3)) _ _ f1)), _, at_int (by rw [ln]; exact sw_lt hs ha hc), q2 _ k3⟩
      · have hv : ((List.range (2 ^ n)).filter fun _ => true).map (fun s => V.int (at0 ns (swM s one c))) = (actM (false, one, (c : Int)) ns).map V.int := by
          rw [List.filter_eq_self.mpr (fun _ _ => rfl)]
          show _ = (swapL one c ns).map V.int
          unfold swapL
          rw [List.map_map, ln]
          rfl
        rw [hv] at f2
        exact q u G2 (fresh_back e1 n2) (e1.trans x2) f2

def sp_blank (K : PySem.W.Frag) : Sp := fun vs H Q E => ∃ x, vs = [x] ∧ El K H x ∧ ((∃ n : Nat, x = .int n ∧ n ≤ 10 ∧ RetL ((List.replicate (2 ^ n) (0 : Int)).map V.int) H Q) ∨ (amg x 0 10 = false ∧ E (.ref (He.ga K "BadCount")) none H))
theorem ok_blank (T : Txt K mg) (h_need_count : Has P w K mg base 3 "need_count" ["many"] (sp_need_count K)) : Has P w K mg base 4 "blank" ["many"] (sp_blank K) := by
  refine DefAt.has T.d_blank sc_blank (fun vs H Q E h => ?_) (fun f cdv A outer s H vs Q E hr h => ⟨_, (pss_cons (ps_expr (pe_has h_need_count (hr.mono (by decide)) rfl passB (pa_cons (pv 0) pa_nil)))
      (pss_one (ps_ret (pe_op op_rep (pe_lst (pa_cons pe_int pa_nil)) (pe_op op_sh pe_int (pv 0)))))), ?_⟩)
  · obtain ⟨x, rfl, _⟩ := h
    rfl
  · obtain ⟨x, rfl, hE, h⟩ := h
    simp only [L2.start, N_blank, List.map_cons, List.map_nil, List.length_cons, List.length_nil, List.replicate_succ, List.replicate_zero, Nat.reduceAdd, Nat.reduceSub, List.cons_append, List.nil_append]
    walk_at "rd"
    refine ⟨x, rfl, hE, fun hb => ?_, fun hb => ?_⟩
    · rcases h with ⟨n, rfl, hn, q⟩ | ⟨hb2, _⟩
      · have hp := pow_le hn
        refine ⟨by decide, fun o no => ⟨_, rfl, cpow1 (by omega), _, upd_same, ?_⟩⟩
        rw [Int.toNat_natCast]
        generalize hN : 2 ^ n = N at *
        refine ⟨by omega, by omega, sz_of (by simp; omega), fun p np => ?_⟩
        have e1 : Ex H (upd H o (.lst [.int 0])) := Ex.new no
        refine q p _ (fresh_back e1 np) (e1.trans (Ex.new np)) ?_
        rw [upd_same, rep0]
      · rw [hb] at hb2
        cases hb2
    · rcases h with ⟨n, rfl, hn, q⟩ | ⟨_, q⟩
      · rw [amg_nat (by omega) (by omega)] at hb
        cases hb
      · exact q

def sp_Book_put (K : PySem.W.Frag) : Sp := fun vs H Q E => ∃ (b : Addr) (O : List Addr) (n : Nat) (ns : List Int) (ds : List Deed) (x y : V), vs = [.ref b, x, y] ∧ BookAt K H b O n ns ds ∧ El K H x ∧ El K H y ∧ ds.length ≤ 1000 ∧
  ((∃ (one : Nat) (z : Int), x = .int (one : Nat) ∧ y = .int z ∧ one < 2 ^ n ∧ ∀ H', ExO O H H' → BookAt K H' b O n (actM (true, one, z) ns) (ds ++ [(true, one, z)]) → Q .non H') ∨
  (amg x 0 (2 ^ n - 1) = false ∧ ∀ H', Ex H H' → E (.ref (He.ga K "BadSet")) none H') ∨ (amg x 0 (2 ^ n - 1) = true ∧ isI y = false ∧ ∀ H', Ex H H' → E (.ref (He.ga K "BadNumber")) none H'))
theorem ok_Book_put (T : Txt K mg) (h_Book_add_at : HasM P w K mg base 1 "Book" "add_at" ["self", "one", "number"] (sp_Book_add_at K)) (h_is_whole : Has P w K mg base 1 "is_whole" ["thing"] (sp_is_whole K)) (h_need_set : Has P w K mg base 3 "need_set" ["one", "many"] (sp_need_set K)) : HasM P w K mg base 4 "Book" "put" ["self", "one", "number"] (sp_Book_put K) := by
  refine MethAt.has T.d_Book_put sc_Book_put (fun vs H Q E h => ?_) (fun f cdv A outer s H vs Q E hr h => ⟨_, (pss_cons (ps_expr (pe_has h_need_set (hr.mono (by decide)) rfl passB (pa_cons (pv 1) (pa_cons (k_fld K (pv 0)) pa_nil))))
      (pss_cons (ps_if (pt_not (pt_val (pe_has h_is_whole (hr.mono (by decide)) rfl passB (pa_cons (pv 2) pa_nil))))
      (pss_one (k_rz K rfl takesB T.c_BadNumber rfl)) pss_nil)
      (pss_cons (ps_expr (k_meth K h_Book_add_at (pv 0) T.cl (hr.mono (by decide)) passB (pa_cons (pv 1) (pa_cons (pv 2) pa_nil))))
      (pss_one (ps_expr (k_bm K PySem.F.plainAttrs_list PySem.F.slot_list_append PySem.F.type_list_append mt_append (k_fld K (pv 0)) (pa_cons (pe_tup (pa_cons pe_str (pa_cons (pv 1) (pa_cons (pv 2) pa_nil)))) pa_nil))))))), ?_⟩)
  · obtain ⟨b, O, n, ns, ds, x, y, rfl, _⟩ := h
    rfl
  · obtain ⟨b, O, n, ns, ds, x, y, rfl, B, hE1, hE2, hd, h⟩ := h
    simp only [L2.start, N_Book_put, List.map_cons, List.map_nil, List.length_cons, List.length_nil, List.replicate_succ, List.replicate_zero, Nat.reduceAdd, Nat.reduceSub, List.cons_append, List.nil_append]
    obtain ⟨dx, nu, lo, hi, dn, xs, h0, hnd, hb, hnu, hlo, hhi, hdn, hds⟩ := B.ex
    have ln := B.ln
    have hn := B.hn
    subst h0
    have nd := hnd
    simp only [List.nodup_cons, List.mem_cons, List.mem_nil_iff, or_false, not_or, not_false_eq_true, List.nodup_nil, and_true] at nd
    obtain ⟨⟨b1, b2, b3, b4⟩, ⟨n1, n2, n3⟩, ⟨l1, l2⟩, i1⟩ := nd
    walk_at "rl"
    obtain ⟨ty, hk, hi'⟩ := hE2
    refine ⟨_, _, _, hb, T.cl, T.na_names, _, lk_names, x, n, rfl, by omega, hE1, fun hok => ⟨y, ty, rfl, hk, _, rfl, ?_⟩, fun hbad => ?_⟩
    · rw [hi']
      rcases h with ⟨one, z, rfl, rfl, ho, q⟩ | ⟨hb2, _⟩ | ⟨_, hy, q⟩
      · refine iteF ⟨dx, _, hb, rfl, b, dx, nu, lo, hi, dn, n, one, z, ns, lowM n ns, highM n ns, rfl, ?_, by omega, ho, hb, hnu, hlo, hhi, ln, lowM_length _ _, highM_length _ _, fun H1 kk f1 f2 f3 => ?_⟩
        · simp only [List.nodup_cons, List.mem_cons, List.mem_nil_iff, or_false, not_or, not_false_eq_true, List.nodup_nil, and_true]
          exact ⟨⟨b1, b2, b3⟩, ⟨n1, n2⟩, l1⟩
        have hb1 : H1 b = some (.ins (He.ga K "Book") dx (bkF nu lo hi n dn)) := by rw [kk b b1 b2 b3]; exact hb
        have hd1 : H1 dn = some (.lst xs) := by rw [kk dn (fun z => n3 z.symm) (fun z => l2 z.symm) (fun z => i1 z.symm)]; exact hdn
        have o1 : ExO [b, nu, lo, hi, dn] H H1 := by
          refine ⟨fun a o h n => ?_, fun a h => ?_⟩
          · simp only [List.mem_cons, List.mem_nil_iff, or_false, not_or] at n
            rw [kk a n.2.1 n.2.2.1 n.2.2.2.1]
            exact h
          · by_cases e1 : a = nu
            · rw [e1, f1] at h; cases h
            by_cases e2 : a = lo
            · rw [e2, f2] at h; cases h
            by_cases e3 : a = hi
            · rw [e3, f3] at h; cases h
            rw [kk a e1 e2 e3] at h
            exact h
        refine ⟨_, _, _, hb1, T.cl, T.na_done, _, lk_done, ty_lst (.inl (.inl hd1)), sz_of (by simp), fun p np => ⟨dn, rfl, xs, ?_⟩⟩
        have x2 := Ex.new (o := HO.tup [.str "put", .int (one : Nat), .int z]) np
        have f4 : (upd H1 p (.tup [.str "put", .int (one : Nat), .int z])) p = some (.tup [.str "put", .int (one : Nat), .int z]) := upd_same
        have o2 := o1.ex x2
        have hb2 := x2 _ _ hb1
        have hd2 := x2 _ _ hd1
        have g1 := x2 _ _ f1
        have g2 := x2 _ _ f2
        have g3 := x2 _ _ f3
        have hdnp : dn ≠ p := fun z => by rw [← z, hd1] at np; cases np
        have mono : ∀ a ys, H a = some (.tup ys) → (upd H1 p (.tup [.str "put", .int (one : Nat), .int z])) a = some (.tup ys) := fun a ys h => by
          refine o2.keep a _ h ?_
          simp only [List.mem_cons, List.mem_nil_iff, or_false, not_or]
          refine ⟨fun z => ?_, fun z => ?_, fun z => ?_, fun z => ?_, fun z => ?_⟩
          · rw [z, hb] at h; cases h
          · rw [z, hnu] at h; cases h
          · rw [z, hlo] at h; cases h
          · rw [z, hhi] at h; cases h
          · rw [z, hdn] at h; cases h
        generalize upd H1 p _ = G2 at *
        refine ⟨hd2, sz_lt (by rw [hds.len]; omega), ?_⟩
        have nd2 : ∀ {a ys}, G2 a = some (.tup ys) → a ≠ dn := fun h z => by rw [z, hd2] at h; cases h
        refine q _ (o2.upd (.inl (by simp))) ⟨⟨dx, nu, lo, hi, dn, xs ++ [.ref p], rfl, hnd, ?_, ?_, ?_, ?_, upd_same, ?_⟩, ?_, hn⟩
        · rw [upd_ne b4]; exact hb2
        · rw [upd_ne n3]; exact g1
        · rw [upd_ne l2]
          show G2 lo = some (.lst ((lowM n (putL one z ns)).map V.int))
          rw [low_put ln ho]
          exact g2
        · rw [upd_ne i1]
          show G2 hi = some (.lst ((highM n (putL one z ns)).map V.int))
          rw [high_put ln ho]
          exact g3
        · refine DeedsAt.snoc (d := (true, one, z)) ?_ (hds.mono fun a ys h => ?_)
          · rw [upd_ne (nd2 f4)]; exact f4
          · rw [upd_ne (nd2 (mono a ys h))]; exact mono a ys h
        · rw [actM_length]; exact ln
      · rw [hok] at hb2
        cases hb2
      · rw [hy]
        exact iteT (q H (Ex.refl H))
    · rcases h with ⟨one, z, rfl, rfl, ho, q⟩ | ⟨_, q⟩ | ⟨hok, _⟩
      · rw [amg_nat (by omega) (by rw [pow2c]; omega)] at hbad
        cases hbad
      · exact q H (Ex.refl H)
      · rw [hok] at hbad
        cases hbad

def sp_Book_value (K : PySem.W.Frag) : Sp := fun vs H Q E => ∃ (b : Addr) (O : List Addr) (n : Nat) (ns : List Int) (ds : List Deed) (x : V), vs = [.ref b, x] ∧ BookAt K H b O n ns ds ∧ El K H x ∧ ((∃ one : Nat, x = .int (one : Nat) ∧ one < 2 ^ n ∧ ∀ H', Ex H H' → Q (.int (at0 ns one)) H') ∨ (amg x 0 (2 ^ n - 1) = false ∧ ∀ H', Ex H H' → E (.ref (He.ga K "BadSet")) none H'))
theorem ok_Book_value (T : Txt K mg) (h_need_set : Has P w K mg base 3 "need_set" ["one", "many"] (sp_need_set K)) : HasM P w K mg base 4 "Book" "value" ["self", "one"] (sp_Book_value K) := by
  refine MethAt.has T.d_Book_value sc_Book_value (fun vs H Q E h => ?_) (fun f cdv A outer s H vs Q E hr h => ⟨_, (pss_cons (ps_expr (pe_has h_need_set (hr.mono (by decide)) rfl passB (pa_cons (pv 1) (pa_cons (k_fld K (pv 0)) pa_nil))))
      (pss_one (ps_ret (pe_ix (k_ixl K) (k_fld K (pv 0)) (pv 1) (fun _ _ => rfl))))), ?_⟩)
  · obtain ⟨b, O, n, ns, ds, x, rfl, _⟩ := h
    rfl
  · obtain ⟨b, O, n, ns, ds, x, rfl, B, hE1, h⟩ := h
    simp only [L2.start, N_Book_value, List.map_cons, List.map_nil, List.length_cons, List.length_nil, List.replicate_succ, List.replicate_zero, Nat.reduceAdd, Nat.reduceSub, List.cons_append, List.nil_append]
    obtain ⟨dx, nu, lo, hi, dn, xs, h0, hnd, hb, hnu, hlo, hhi, hdn, hds⟩ := B.ex
    have ln := B.ln
    have hn := B.hn
    rcases h with ⟨one, rfl, ho, q⟩ | ⟨hbad, q⟩
    · walk_at "rl"
      refine ⟨_, _, _, hb, T.cl, T.na_names, _, lk_names, _, n, rfl, by omega, hE1, fun _ => ⟨_, _, _, hb, T.cl, T.na_numbers, _, lk_numbers, nu, rfl, _, .inl (.inl hnu), _, at_int (by omega), q H (Ex.refl H)⟩, fun hbad => ?_⟩
      rw [amg_nat (by omega) (by rw [pow2c]; omega)] at hbad
      cases hbad
    · walk_at "rl"
      refine ⟨_, _, _, hb, T.cl, T.na_names, _, lk_names, x, n, rfl, by omega, hE1, fun hok => ?_, fun _ => q H (Ex.refl H)⟩
      rw [hbad] at hok
      cases hok

def sp_Book_under (K : PySem.W.Frag) : Sp := fun vs H Q E => ∃ (b : Addr) (O : List Addr) (n : Nat) (ns : List Int) (ds : List Deed) (x : V), vs = [.ref b, x] ∧ BookAt K H b O n ns ds ∧ El K H x ∧ ((∃ one : Nat, x = .int (one : Nat) ∧ one < 2 ^ n ∧ ∀ H', Ex H H' → Q (.int (at0 (lowM n ns) one)) H') ∨ (amg x 0 (2 ^ n - 1) = false ∧ ∀ H', Ex H H' → E (.ref (He.ga K "BadSet")) none H'))
theorem ok_Book_under (T : Txt K mg) (h_need_set : Has P w K mg base 3 "need_set" ["one", "many"] (sp_need_set K)) : HasM P w K mg base 4 "Book" "under" ["self", "one"] (sp_Book_under K) := by
  refine MethAt.has T.d_Book_under sc_Book_under (fun vs H Q E h => ?_) (fun f cdv A outer s H vs Q E hr h => ⟨_, (pss_cons (ps_expr (pe_has h_need_set (hr.mono (by decide)) rfl passB (pa_cons (pv 1) (pa_cons (k_fld K (pv 0)) pa_nil))))
      (pss_one (ps_ret (pe_ix (k_ixl K) (k_fld K (pv 0)) (pv 1) (fun _ _ => rfl))))), ?_⟩)
  · obtain ⟨b, O, n, ns, ds, x, rfl, _⟩ := h
    rfl
  · obtain ⟨b, O, n, ns, ds, x, rfl, B, hE1, h⟩ := h
    simp only [L2.start, N_Book_under, List.map_cons, List.map_nil, List.length_cons, List.length_nil, List.replicate_succ, List.replicate_zero, Nat.reduceAdd, Nat.reduceSub, List.cons_append, List.nil_append]
    obtain ⟨dx, nu, lo, hi, dn, xs, h0, hnd, hb, hnu, hlo, hhi, hdn, hds⟩ := B.ex
    have ln := B.ln
    have hn := B.hn
    rcases h with ⟨one, rfl, ho, q⟩ | ⟨hbad, q⟩
    · walk_at "rl"
      refine ⟨_, _, _, hb, T.cl, T.na_names, _, lk_names, _, n, rfl, by omega, hE1, fun _ => ⟨_, _, _, hb, T.cl, T.na_lows, _, lk_lows, lo, rfl, _, .inl (.inl hlo), _, at_int (by rw [lowM_length]; exact ho), q H (Ex.refl H)⟩, fun hbad => ?_⟩
      rw [amg_nat (by omega) (by rw [pow2c]; omega)] at hbad
      cases hbad
    · walk_at "rl"
      refine ⟨_, _, _, hb, T.cl, T.na_names, _, lk_names, x, n, rfl, by omega, hE1, fun hok => ?_, fun _ => q H (Ex.refl H)⟩
      rw [hbad] at hok
      cases hok

def sp_Book_over (K : PySem.W.Frag) : Sp := fun vs H Q E => ∃ (b : Addr) (O : List Addr) (n : Nat) (ns : List Int) (ds : List Deed) (x : V), vs = [.ref b, x] ∧ BookAt K H b O n ns ds ∧ El K H x ∧ ((∃ one : Nat, x = .int (one : Nat) ∧ one < 2 ^ n ∧ ∀ H', Ex H H' → Q (.int (at0 (highM n ns) one)) H') ∨ (amg x 0 (2 ^ n - 1) = false ∧ ∀ H', Ex H H' → E (.ref (He.ga K "BadSet")) none H'))
theorem ok_Book_over (T : Txt K mg) (h_need_set : Has P w K mg base 3 "need_set" ["one", "many"] (sp_need_set K)) : HasM P w K mg base 4 "Book" "over" ["self", "one"] (sp_Book_over K) := by
  refine MethAt.has T.d_Book_over sc_Book_over (fun vs H Q E h => ?_) (fun f cdv A outer s H vs Q E hr h => ⟨_, (pss_cons (ps_expr (pe_has h_need_set (hr.mono (by decide)) rfl passB (pa_cons (pv 1) (pa_cons (k_fld K (pv 0)) pa_nil))))
      (pss_one (ps_ret (pe_ix (k_ixl K) (k_fld K (pv 0)) (pv 1) (fun _ _ => rfl))))), ?_⟩)
  · obtain ⟨b, O, n, ns, ds, x, rfl, _⟩ := h
    rfl
  · obtain ⟨b, O, n, ns, ds, x, rfl, B, hE1, h⟩ := h
    simp only [L2.start, N_Book_over, List.map_cons, List.map_nil, List.length_cons, List.length_nil, List.replicate_succ, List.replicate_zero, Nat.reduceAdd, Nat.reduceSub, List.cons_append, List.nil_append]
    obtain ⟨dx, nu, lo, hi, dn, xs, h0, hnd, hb, hnu, hlo, hhi, hdn, hds⟩ := B.ex
    have ln := B.ln
    have hn := B.hn
    rcases h with ⟨one, rfl, ho, q⟩ | ⟨hbad, q⟩
    · walk_at "rl"
      refine ⟨_, _, _, hb, T.cl, T.na_names, _, lk_names, _, n, rfl, by omega, hE1, fun _ => ⟨_, _, _, hb, T.cl, T.na_highs, _, lk_highs, hi, rfl, _, .inl (.inl hhi), _, at_int (by rw [highM_length]; exact ho), q H (Ex.refl H)⟩, fun hbad => ?_⟩
      rw [amg_nat (by omega) (by rw [pow2c]; omega)] at hbad
      cases hbad
    · walk_at "rl"
      refine ⟨_, _, _, hb, T.cl, T.na_names, _, lk_names, x, n, rfl, by omega, hE1, fun hok => ?_, fun _ => q H (Ex.refl H)⟩
      rw [hbad] at hok
      cases hok

def sp_Book___init__ (K : PySem.W.Frag) : Sp := fun vs H Q E => ∃ (b dx : Addr) (x : V), vs = [.ref b, x] ∧ H b = some (.ins (He.ga K "Book") dx []) ∧ El K H x ∧ ((∃ n : Nat, x = .int (n : Nat) ∧ n ≤ 5 ∧ ∀ H' O, ExO [b] H H' → Grow [b] O H → BookAt K H' b O n (List.replicate (2 ^ n) 0) [] → Q .non H') ∨ (amg x 0 10 = false ∧ ∀ H', Ex H H' → E (.ref (He.ga K "BadCount")) none H'))
theorem ok_Book___init__ (T : Txt K mg) (h_blank : Has P w K mg base 4 "blank" ["many"] (sp_blank K)) : HasI P w K mg base 5 "Book" ["self", "many"] (sp_Book___init__ K) := by
  refine InitAt.has T.d_Book___init__ sc_Book___init__ (fun vs H Q E h => ?_) (fun f cdv A outer s H vs Q E hr h => ⟨_, (pss_cons (k_sfld K (pv 0) (pe_has h_blank (hr.mono (by decide)) rfl passB (pa_cons (pv 1) pa_nil)))
      (pss_cons (k_sfld K (pv 0) (pe_has h_blank (hr.mono (by decide)) rfl passB (pa_cons (pv 1) pa_nil)))
      (pss_cons (k_sfld K (pv 0) (pe_has h_blank (hr.mono (by decide)) rfl passB (pa_cons (pv 1) pa_nil)))
      (pss_cons (k_sfld K (pv 0) (pv 1))
      (pss_one (k_sfld K (pv 0) (pe_lst pa_nil))))))), ?_⟩)
  · obtain ⟨b, dx, x, rfl, _⟩ := h
    rfl
  · obtain ⟨b, dx, x, rfl, hb, hE, h⟩ := h
    simp only [L2.start, N_Book___init__, List.map_cons, List.map_nil, List.length_cons, List.length_nil, List.replicate_succ, List.replicate_zero, Nat.reduceAdd, Nat.reduceSub, List.cons_append, List.nil_append]
    refine seq_cut1 fun R1 h1 => ?_
    walk_at "rl"
    rcases h with ⟨n, rfl, hn, q⟩ | ⟨hbad, q⟩
    · have step : ∀ {G : Hp} {v : Addr} {o : HO}, G v = none → G b = some o → v ≠ b := fun h1 h2 z => by rw [z, h2] at h1; cases h1
      refine ⟨_, rfl, hE, .inl ⟨n, rfl, by omega, fun p1 G1 n1 x1 f1 => ?_⟩⟩
      have p1b := step n1 hb
      refine ⟨_, _, _, x1 _ _ hb, T.cl, T.na_numbers, by decide, ?_⟩
      generalize hG2 : upd G1 b _ = G2
      have hb2 := upd_at hG2
      have k2 : ∀ p o, p ≠ b → G1 p = some o → G2 p = some o := fun p o h q => by rw [← hG2, upd_ne h]; exact q
      have o2 : ExO [b] H G2 := by rw [← hG2]; exact (ExO.of x1).upd (.inl (by simp))
      clear hG2
      have f12 := k2 _ _ p1b f1
      subst h1
      refine seq_cut1 fun R2 h2 => ?_
      walk_at "rl"
      refine ⟨_, rfl, El.int _, .inl ⟨n, rfl, by omega, fun p2 G3 n2 x3 f2 => ?_⟩⟩
      have p2b := step n2 hb2
      have p12 : p1 ≠ p2 := fun z => by rw [← z, f12] at n2; cases n2
      refine ⟨_, _, _, x3 _ _ hb2, T.cl, T.na_lows, (by show 1 < 1000; decide), ?_⟩
      generalize hG4 : upd G3 b _ = G4
      have hb4 := upd_at hG4
      have k4 : ∀ p o, p ≠ b → G3 p = some o → G4 p = some o := fun p o h q => by rw [← hG4, upd_ne h]; exact q
      have o4 : ExO [b] H G4 := by rw [← hG4]; exact (o2.ex x3).upd (.inl (by simp))
      clear hG4
      have f14 := k4 _ _ p1b (x3 _ _ f12)
      have f24 := k4 _ _ p2b f2
      subst h2
      refine seq_cut1 fun R3 h3 => ?_
      walk_at "rl"
      refine ⟨_, rfl, El.int _, .inl ⟨n, rfl, by omega, fun p3 G5 n3 x5 f3 => ?_⟩⟩
      have p3b := step n3 hb4
      have p13 : p1 ≠ p3 := fun z => by rw [← z, f14] at n3; cases n3
      have p23 : p2 ≠ p3 := fun z => by rw [← z, f24] at n3; cases n3
      refine ⟨_, _, _, x5 _ _ hb4, T.cl, T.na_highs, (by show 2 < 1000; decide), ?_⟩
      generalize hG6 : upd G5 b _ = G6
      have hb6 := upd_at hG6
      have k6 : ∀ p o, p ≠ b → G5 p = some o → G6 p = some o := fun p o h q => by rw [← hG6, upd_ne h]; exact q
      have o6 : ExO [b] H G6 := by rw [← hG6]; exact (o4.ex x5).upd (.inl (by simp))
      clear hG6
      have f16 := k6 _ _ p1b (x5 _ _ f14)
      have f26 := k6 _ _ p2b (x5 _ _ f24)
      have f36 := k6 _ _ p3b f3
      subst h3
      walk_at "rl"
      refine ⟨_, _, _, hb6, T.cl, T.na_names, (by show 3 < 1000; decide), by decide, fun p4 n4 => ?_⟩
      generalize hG7 : upd G6 b _ = G7 at *
      have hb7 := upd_at hG7
      have k7 : ∀ p o, p ≠ b → G6 p = some o → G7 p = some o := fun p o h q => by rw [← hG7, upd_ne h]; exact q
      have o7 : ExO [b] H G7 := by rw [← hG7]; exact o6.upd (.inl (by simp))
      clear hG7
      have p4b := step n4 hb7
      have f17 := k7 _ _ p1b f16
      have f27 := k7 _ _ p2b f26
      have f37 := k7 _ _ p3b f36
      have x8 := Ex.new (o := HO.lst ([] : List V)) n4
      have f48 : (upd G7 p4 (.lst [])) p4 = some (.lst []) := upd_same
      have f18 := x8 _ _ f17
      have f28 := x8 _ _ f27
      have f38 := x8 _ _ f37
      have hb8 := x8 _ _ hb7
      have o8 := o7.ex x8
      have p14 : p1 ≠ p4 := fun z => by rw [← z, f17] at n4; cases n4
      have p24 : p2 ≠ p4 := fun z => by rw [← z, f27] at n4; cases n4
      have p34 : p3 ≠ p4 := fun z => by rw [← z, f37] at n4; cases n4
      generalize upd G7 p4 _ = G8 at *
      refine ⟨_, _, _, hb8, T.cl, T.na_done, (by show 4 < 1000; decide), ?_⟩
      rw [pf_all]
      refine q _ [b, p1, p2, p3, p4] (o8.upd (.inl (by simp))) ?_ ⟨⟨dx, p1, p2, p3, p4, [], rfl, ?_, upd_same, ?_, ?_, ?_, ?_, .nil⟩, List.length_replicate, hn⟩
      · intro a ha
        simp only [List.mem_cons, List.mem_nil_iff, or_false] at ha
        rcases ha with rfl | rfl | rfl | rfl | rfl
        · exact .inl (by simp)
        · exact .inr n1
        · exact .inr (o2.back _ n2)
        · exact .inr (o4.back _ n3)
        · exact .inr (o7.back _ n4)
      · simp only [List.nodup_cons, List.mem_cons, List.mem_nil_iff, or_false, not_or, not_false_eq_true, List.nodup_nil, and_true]
        exact ⟨⟨fun z => p1b z.symm, fun z => p2b z.symm, fun z => p3b z.symm, fun z => p4b z.symm⟩, ⟨p12, p13, p14⟩, ⟨p23, p24⟩, p34⟩
      · rw [upd_ne p1b]; exact f18
      · rw [upd_ne p2b, low_zero]; exact f28
      · rw [upd_ne p3b, high_zero]; exact f38
      · rw [upd_ne p4b]; exact f48
    · exact ⟨x, rfl, hE, .inr ⟨hbad, q H (Ex.refl H)⟩⟩

def sp_law_caught (K : PySem.W.Frag) : Sp := fun vs H Q _ => ∃ (b : Addr) (O : List Addr) (n : Nat) (ns : List Int) (ds : List Deed) (wd : Str) (x y : V), vs = [.ref b, .str wd, x, y] ∧ BookAt K H b O n ns ds ∧ El K H x ∧ El K H y ∧ ds.length ≤ 1000 ∧
  ((∃ ns' ds', ((∃ (one : Nat) (z : Int), wd = "put" ∧ x = .int (one : Nat) ∧ y = .int z ∧ one < 2 ^ n ∧ ns' = actM (true, one, z) ns ∧ ds' = ds ++ [(true, one, z)]) ∨ (∃ a c : Nat, wd = "swap" ∧ x = .int (a : Nat) ∧ y = .int (c : Nat) ∧ a < n ∧ c < n ∧ ns' = actM (false, a, (c : Int)) ns ∧ ds' = ds ++ [(false, a, (c : Int))]) ∨
    (∃ d, wd = "undo" ∧ ds = ds' ++ [d] ∧ DeedOk n d ∧ ns' = undoM d ns)) ∧ ∀ t H' O', ExO O H H' → Grow O O' H → BookAt K H' b O' n ns' ds' → H t = none → H' t = some (.tup [.non, .non]) → Q (.ref t) H') ∨
  (∃ C : Str, C ∈ nineC ∧ ((wd = "put" ∧ C = "BadSet" ∧ amg x 0 (2 ^ n - 1) = false) ∨ (wd = "put" ∧ C = "BadNumber" ∧ amg x 0 (2 ^ n - 1) = true ∧ isI y = false) ∨ (wd = "swap" ∧ C = "BadName" ∧ amg x 0 ((n : Int) - 1) = false) ∨ (wd = "undo" ∧ C = "NothingDone" ∧ ds = []) ∨ ((wd = "value" ∨ wd = "under" ∨ wd = "over") ∧ C = "BadSet" ∧ amg x 0 (2 ^ n - 1) = false)) ∧
    ∀ t e H', H t = none → H e = none → Ex H H' → H' t = some (.tup [.ref e, .non]) → H' e = some (ExK (.ref (He.ga K C)) e) → Q (.ref t) H'))
theorem ok_law_caught (T : Txt K mg) (h_Book_over : HasM P w K mg base 4 "Book" "over" ["self", "one"] (sp_Book_over K)) (h_Book_put : HasM P w K mg base 4 "Book" "put" ["self", "one", "number"] (sp_Book_put K)) (h_Book_swap : HasM P w K mg base 3 "Book" "swap" ["self", "name", "other"] (sp_Book_swap K)) (h_Book_under : HasM P w K mg base 4 "Book" "under" ["self", "one"] (sp_Book_under K)) (h_Book_undo : HasM P w K mg base 3 "Book" "undo" ["self"] (sp_Book_undo K)) (h_Book_value : HasM P w K mg base 4 "Book" "value" ["self", "one"] (sp_Book_value K)) : Has P w K mg base 5 "_law_caught" ["_law_book", "_law_word", "_law_one", "_law_other"] (sp_law_caught K) := by
  refine DefAt.has T.d_law_caught sc_law_caught (fun vs H Q E h => ?_) (fun f cdv A outer s H vs Q E hr h => ⟨_, (pss_cons (ps_set (i := 4) sc_law_caught.nd rfl (Or.inl rfl) pe_non)
      (pss_cons (ps_set (i := 5) sc_law_caught.nd rfl (Or.inl rfl) pe_non)
      (pss_cons (k_tryk K (i := 6) (j := 4) rfl rfl rfl sc_law_caught.nd rfl rfl rfl rfl T.c_SetError rfl takesB (fun W pn xe tk po =>
      (pss_one (ps_if (pt_cmpR op_eq (pv 1) pe_str (nomark _))
      (pss_one (ps_set (i := 5) sc_law_caught.nd rfl (Or.inl rfl) (k_methS K h_Book_put (pv 0) T.cl (hr.mono (by decide)) tk (pa_cons (pv 2) (pa_cons (pv 3) pa_nil))))) (pss_one (ps_if (pt_cmpR op_eq (pv 1) pe_str (nomark _))
      (pss_one (ps_set (i := 5) sc_law_caught.nd rfl (Or.inl rfl) (k_methS K h_Book_swap (pv 0) T.cl (hr.mono (by decide)) tk (pa_cons (pv 2) (pa_cons (pv 3) pa_nil))))) (pss_one (ps_if (pt_cmpR op_eq (pv 1) pe_str (nomark _))
      (pss_one (ps_set (i := 5) sc_law_caught.nd rfl (Or.inl rfl) (k_methS0 K h_Book_undo (pv 0) T.cl (hr.mono (by decide)) tk))) (pss_one (ps_if (pt_cmpR op_eq (pv 1) pe_str (nomark _))
      (pss_one (ps_set (i := 5) sc_law_caught.nd rfl (Or.inl rfl) (k_methS K h_Book_value (pv 0) T.cl (hr.mono (by decide)) tk (pa_cons (pv 2) pa_nil)))) (pss_one (ps_if (pt_cmpR op_eq (pv 1) pe_str (nomark _))
      (pss_one (ps_set (i := 5) sc_law_caught.nd rfl (Or.inl rfl) (k_methS K h_Book_under (pv 0) T.cl (hr.mono (by decide)) tk (pa_cons (pv 2) pa_nil)))) (pss_one (ps_set (i := 5) sc_law_caught.nd rfl (Or.inl rfl) (k_methS K h_Book_over (pv 0) T.cl (hr.mono (by decide)) tk (pa_cons (pv 2) pa_nil))))))))))))))))
      (pss_one (ps_ret (pe_tup (pa_cons (pv 4) (pa_cons (pv 5) pa_nil)))))))), ?_⟩)
  · obtain ⟨b, O, n, ns, ds, wd, x, y, rfl, _⟩ := h
    rfl
  · obtain ⟨b, O, n, ns, ds, wd, x, y, rfl, B, hE1, hE2, hd, h⟩ := h
    simp only [L2.start, N_law_caught, List.map_cons, List.map_nil, List.length_cons, List.length_nil, List.replicate_succ, List.replicate_zero, Nat.reduceAdd, Nat.reduceSub, List.cons_append, List.nil_append]
    obtain ⟨dx, nu, lo, hi, dn, xs, h0, hnd, hb, hnu, hlo, hhi, hdn, hds⟩ := B.ex
    walk_at "rl"
    have bad : ∀ C : Str, C ∈ nineC → (∀ t e H', H t = none → H e = none → Ex H H' → H' t = some (.tup [.ref e, .non]) → H' e = some (ExK (.ref (He.ga K C)) e) → Q (.ref t) H') → ∀ H', Ex H H' →
        WE (wK K (.ref (He.ga K "SetError")) 6 4 (fun cls d x H => E cls d H) { nx := tRet (tTup (tCons (tVar 4) (tCons (tVar 5) tNil))) { nx := fun x H' => Q V.non H', rt := Q }, rt := Q }) [some (.ref b), some (.str wd), some x, some y, some .non, some .non, none] (.ref (He.ga K C)) none H' := fun C hC q H' e => we_go T.x hC fun a na => by
      walk_at "rd"
      refine ⟨sz_of (by simp), fun t nt => ?_⟩
      have x1 := Ex.new (o := ExK (.ref (He.ga K C)) a) na
      exact q t a _ (fresh_back (e.trans x1) nt) (fresh_back e na) ((e.trans x1).trans (Ex.new nt)) upd_same ((Ex.new nt) _ _ upd_same)
    rcases h with ⟨ns', ds', h, q⟩ | ⟨C, hC, h, q⟩
    · have fin : ∀ H' O', ExO O H H' → Grow O O' H → BookAt K H' b O' n ns' ds' → [V.non, V.non].length ≤ sizeLine ∧ ∀ p, H' p = none → Q (.ref p) (upd H' p (.tup [.non, .non])) := fun H' O' o g B' => ⟨sz_of (by simp), fun t nt => q t _ O' (o.ex (Ex.new nt)) g (B'.mono (Ex.new nt)) (o.back _ nt) upd_same⟩
      rcases h with ⟨one, z, rfl, rfl, rfl, ho, rfl, rfl⟩ | ⟨a, c, rfl, rfl, rfl, ha, hc, rfl, rfl⟩ | ⟨d, rfl, rfl, hok, rfl⟩
      · refine ⟨rfl, ?_⟩
        rw [if_pos rfl]
        exact ⟨dx, _, hb, rfl, b, O, n, ns, ds, _, _, rfl, B, hE1, hE2, hd, .inl ⟨one, z, rfl, rfl, ho, fun H' o B' => fin H' O o (Grow.refl _ _) B'⟩⟩
      · refine ⟨rfl, ?_⟩
        rw [if_neg (by decide)]
        refine ⟨rfl, ?_⟩
        rw [if_pos rfl]
        exact ⟨dx, _, hb, rfl, b, O, n, ns, ds, _, _, rfl, B, hE1, hE2, hd, .inl ⟨a, c, rfl, rfl, ha, hc, fin⟩⟩
      · refine ⟨rfl, ?_⟩
        rw [if_neg (by decide)]
        refine ⟨rfl, ?_⟩
        rw [if_neg (by decide)]
        refine ⟨rfl, ?_⟩
        rw [if_pos rfl]
        exact ⟨dx, _, hb, rfl, b, O, n, ns, _, rfl, B, .inl ⟨ds', d, rfl, hok, fin⟩⟩
    · have bad := bad C hC q
      rcases h with ⟨rfl, rfl, hx⟩ | ⟨rfl, rfl, hx, hy⟩ | ⟨rfl, rfl, hx⟩ | ⟨rfl, rfl, rfl⟩ | ⟨rfl | rfl | rfl, rfl, hx⟩
      · refine ⟨rfl, ?_⟩
        rw [if_pos rfl]
        exact ⟨dx, _, hb, rfl, b, O, n, ns, ds, _, _, rfl, B, hE1, hE2, hd, .inr (.inl ⟨hx, bad⟩)⟩
      · refine ⟨rfl, ?_⟩
        rw [if_pos rfl]
        exact ⟨dx, _, hb, rfl, b, O, n, ns, ds, _, _, rfl, B, hE1, hE2, hd, .inr (.inr ⟨hx, hy, bad⟩)⟩
      · refine ⟨rfl, ?_⟩
        rw [if_neg (by decide)]
        refine ⟨rfl, ?_⟩
        rw [if_pos rfl]
        exact ⟨dx, _, hb, rfl, b, O, n, ns, ds, _, _, rfl, B, hE1, hE2, hd, .inr ⟨hx, bad⟩⟩
      · refine ⟨rfl, ?_⟩
        rw [if_neg (by decide)]
        refine ⟨rfl, ?_⟩
        rw [if_neg (by decide)]
        refine ⟨rfl, ?_⟩
        rw [if_pos rfl]
        exact ⟨dx, _, hb, rfl, b, O, n, ns, _, rfl, B, .inr ⟨rfl, bad⟩⟩
      · refine ⟨rfl, ?_⟩
        rw [if_neg (by decide)]
        refine ⟨rfl, ?_⟩
        rw [if_neg (by decide)]
        refine ⟨rfl, ?_⟩
        rw [if_neg (by decide)]
        refine ⟨rfl, ?_⟩
        rw [if_pos rfl]
        exact ⟨dx, _, hb, rfl, b, O, n, ns, ds, _, rfl, B, hE1, .inr ⟨hx, bad⟩⟩
      · refine ⟨rfl, ?_⟩
        rw [if_neg (by decide)]
        refine ⟨rfl, ?_⟩
        rw [if_neg (by decide)]
        refine ⟨rfl, ?_⟩
        rw [if_neg (by decide)]
        refine ⟨rfl, ?_⟩
        rw [if_neg (by decide)]
        refine ⟨rfl, ?_⟩
        rw [if_pos rfl]
        exact ⟨dx, _, hb, rfl, b, O, n, ns, ds, _, rfl, B, hE1, .inr ⟨hx, bad⟩⟩
      · refine ⟨rfl, ?_⟩
        rw [if_neg (by decide)]
        refine ⟨rfl, ?_⟩
        rw [if_neg (by decide)]
        refine ⟨rfl, ?_⟩
        rw [if_neg (by decide)]
        refine ⟨rfl, ?_⟩
        rw [if_neg (by decide)]
        refine ⟨rfl, ?_⟩
        rw [if_neg (by decide)]
        exact ⟨dx, _, hb, rfl, b, O, n, ns, ds, _, rfl, B, hE1, .inr ⟨hx, bad⟩⟩

/-- two told tables alike, new over B -/
def PairsF (B H : Hp) (xs : List V) : Prop := ∀ x ∈ xs, ∃ t u v, ∃ ns : List Int, x = .ref t ∧ B t = none ∧ B u = none ∧ B v = none ∧ H t = some (.tup [.ref u, .ref v]) ∧ H u = some (.lst (ns.map V.int)) ∧ H v = some (.lst (ns.map V.int))
def sp_law_seen (K : PySem.W.Frag) : Sp := fun vs H Q _ => ∃ (b r h : Addr) (O : List Addr) (n m : Nat) (ns : List Int) (ds : List Deed) (xs hs : List V), vs = [.ref b, .ref r, .int (m : Nat), .ref h] ∧ BookAt K H b O n ns ds ∧ h ∉ O ∧ SqL K H r xs ∧ r ≠ h ∧ xs.length = ds.length + 1 ∧ (∃ a, xs.getLast? = some (.ref a) ∧ H a = some (.lst (ns.map V.int)) ∧ a ≠ h) ∧ H h = some (.lst hs) ∧ hs.length ≤ 10000 ∧ m < 2 ^ 40 ∧
  ∀ H' ys, ExO [h] H H' → H' h = some (.lst (hs ++ ys)) → ys.length ≤ 4 → PairsF H H' ys → Q (.bl true) H'
theorem ok_law_seen (T : Txt K mg) (h_Book_many_done : HasM P w K mg base 1 "Book" "many_done" ["self"] (sp_Book_many_done K)) (h_Book_over : HasM P w K mg base 4 "Book" "over" ["self", "one"] (sp_Book_over K)) (h_Book_table : HasM P w K mg base 1 "Book" "table" ["self"] (sp_Book_table K)) (h_Book_under : HasM P w K mg base 4 "Book" "under" ["self", "one"] (sp_Book_under K)) (h_Book_value : HasM P w K mg base 4 "Book" "value" ["self", "one"] (sp_Book_value K)) (h_law_is_table : Has P w K mg base 1 "_law_is_table" ["_law_found", "_law_due"] (sp_law_is_table K)) : Has P w K mg base 5 "_law_seen" ["_law_book", "_law_rows", "_law_number", "_law_held"] (sp_law_seen K) := by
  refine DefAt.has T.d_law_seen sc_law_seen (fun vs H Q E h => ?_) (fun f cdv A outer s H vs Q E hr h => ⟨_, (pss_cons (ps_set (i := 4) sc_law_seen.nd rfl (Or.inr rfl) (pe_ix (k_ixl K) (pv 1) (pe_un un_neg pe_int) (fun _ _ => rfl)))
      (pss_cons (ps_set (i := 5) sc_law_seen.nd rfl (Or.inl rfl) (pe_callB (id := "len") (k_len K) (by rfl) T.n_len (by decide +kernel) (pa_cons (pv 4) pa_nil)))
      (pss_cons (ps_set (i := 6) sc_law_seen.nd rfl (Or.inr rfl) (pe_op op_mod (pe_op op_fdiv (pv 2) pe_int) (pv 5)))
      (pss_cons (ps_set (i := 7) sc_law_seen.nd rfl (Or.inl rfl) (pe_callB (id := "sum") (k_sum K rfl) (by rfl) T.n_sum (by decide +kernel) (pa_cons (pe_lc (own := [("_law_other", 8)]) (g := gName 8) rfl sc_law_seen.nd (pi_range1 rfl T.n_range (pa_cons (pv 5) pa_nil)) (blkOk_by (own := [("_law_other", 8)]) (N := N_law_seen) (sc := defScope s_law_seen) (by decide +kernel)) (fun _ _ _ _ _ => (pg_name (i := 8) sc_law_seen.nd rfl (Or.inl rfl))) (fun _ _ _ _ _ => (pts_one (pt_cmpR op_eq (pe_op op_and (pv 8) (pv 6)) (pv 8) (nomark _)))) (fun _ _ _ _ _ => (pe_ix (k_ixl K) (pv 4) (pv 8) (fun _ _ => rfl)))) pa_nil)))
      (pss_cons (ps_set (i := 9) sc_law_seen.nd rfl (Or.inl rfl) (pe_callB (id := "sum") (k_sum K rfl) (by rfl) T.n_sum (by decide +kernel) (pa_cons (pe_lc (own := [("_law_other", 8)]) (g := gName 8) rfl sc_law_seen.nd (pi_range1 rfl T.n_range (pa_cons (pv 5) pa_nil)) (blkOk_by (own := [("_law_other", 8)]) (N := N_law_seen) (sc := defScope s_law_seen) (by decide +kernel)) (fun _ _ _ _ _ => (pg_name (i := 8) sc_law_seen.nd rfl (Or.inl rfl))) (fun _ _ _ _ _ => (pts_one (pt_cmpR op_eq (pe_op op_and (pv 8) (pv 6)) (pv 6) (nomark _)))) (fun _ _ _ _ _ => (pe_ix (k_ixl K) (pv 4) (pv 8) (fun _ _ => rfl)))) pa_nil)))
      (pss_cons (ps_for (passes_of rfl) rfl (pi_range1 rfl T.n_range (pa_cons pe_int pa_nil)) (pg_name (i := 10) sc_law_seen.nd rfl (Or.inl rfl))
      (pss_cons (ps_set (i := 11) sc_law_seen.nd rfl (Or.inl rfl) (pe_op op_mod (pe_op op_add (pv 2) (pe_op op_mu (pv 10) (pe_op op_add pe_int (pe_op op_mu pe_int (pe_op op_mod (pe_op op_fdiv (pv 2) pe_int) pe_int))))) pe_int))
      (pss_cons (ps_if (PW.pt (pw_and (pt_cmpR op_eq (pv 11) pe_int (nomark _)) (pw_and1 (PW.pt (pw_or (pt_cmpR op_ne (k_meth K h_Book_value (pv 0) T.cl (hr.mono (by decide)) passB (pa_cons (pv 6) pa_nil)) (pe_ix (k_ixl K) (pv 4) (pv 6) (fun _ _ => rfl)) (nomark _)) (pw_or1 (pt_cmpR op_ne (k_meth K h_Book_under (pv 0) T.cl (hr.mono (by decide)) passB (pa_cons (pv 6) pa_nil)) (pv 7) (nomark _))))))))
      (pss_one (ps_ret pe_bl)) pss_nil)
      (pss_cons (ps_if (PW.pt (pw_and (pt_cmpR op_eq (pv 11) pe_int (nomark _)) (pw_and1 (PW.pt (pw_or (pt_cmpR op_ne (k_meth K h_Book_over (pv 0) T.cl (hr.mono (by decide)) passB (pa_cons (pv 6) pa_nil)) (pv 9) (nomark _)) (pw_or1 (pt_cmpR op_ne (k_meth0 K h_Book_many_done (pv 0) T.cl (hr.mono (by decide)) passB) (pe_op op_sub (pe_callB (id := "len") (k_len K) (by rfl) T.n_len (by decide +kernel) (pa_cons (pv 1) pa_nil)) pe_int) (nomark _))))))))
      (pss_one (ps_ret pe_bl)) pss_nil)
      (pss_cons (ps_if (PW.pt (pw_and (pt_cmpR op_eq (pv 11) pe_int (nomark _)) (pw_and1 (PW.pt (pw_or (pt_cmpR op_ne (k_meth K h_Book_under (pv 0) T.cl (hr.mono (by decide)) passB (pa_cons (pv 6) pa_nil)) (pv 7) (nomark _)) (pw_or1 (pt_cmpR op_ne (k_meth K h_Book_over (pv 0) T.cl (hr.mono (by decide)) passB (pa_cons (pv 6) pa_nil)) (pv 9) (nomark _))))))))
      (pss_one (ps_ret pe_bl)) pss_nil)
      (pss_one (ps_if (pt_cmpR op_eq (pv 11) pe_int (nomark _))
      (pss_cons (ps_set (i := 12) sc_law_seen.nd rfl (Or.inl rfl) (k_meth0 K h_Book_table (pv 0) T.cl (hr.mono (by decide)) passB))
      (pss_cons (ps_if (pt_not (pt_val (pe_has h_law_is_table (hr.mono (by decide)) rfl passB (pa_cons (pv 12) (pa_cons (pv 4) pa_nil)))))
      (pss_one (ps_ret pe_bl)) pss_nil)
      (pss_cons (ps_expr (k_bm K PySem.F.plainAttrs_list PySem.F.slot_list_append PySem.F.type_list_append mt_append (pv 12) (pa_cons (pv 2) pa_nil)))
      (pss_one (ps_expr (k_bm K PySem.F.plainAttrs_list PySem.F.slot_list_append PySem.F.type_list_append mt_append (pv 3) (pa_cons (pe_tup (pa_cons (pv 12) (pa_cons (pe_op op_cat (pv 4) (pe_lst (pa_cons (pv 2) pa_nil))) pa_nil))) pa_nil))))))) pss_nil)))))))
      (pss_one (ps_ret pe_bl)))))))), ?_⟩)
  · obtain ⟨b, r, h, O, n, m, ns, ds, xs, hs, rfl, _⟩ := h
    rfl
  · obtain ⟨b, r, h, O, n, m, ns, ds, xs, hs, rfl, B, hO, hR, rh, hxl, ⟨a, hlast, hAt, ah⟩, hh, hhl, hm, q⟩ := h
    simp only [L2.start, N_law_seen, List.map_cons, List.map_nil, List.length_cons, List.length_nil, List.replicate_succ, List.replicate_zero, Nat.reduceAdd, Nat.reduceSub, List.cons_append, List.nil_append]
    have hA : SqL K H a (ns.map V.int) := .inl (.inl hAt)
    refine seq_cut4 fun R1 h1 => ?_
    walk_at "rl"
    have ln := B.ln
    have hn := B.hn
    have h32 : 2 ^ n ≤ 32 := Nat.pow_le_pow_right (n := 2) (by decide) hn
    have hpos := Nat.two_pow_pos n
    have hatl : atI xs (-1) = some (.ref a) := by
      have hne : xs ≠ [] := fun z => by rw [z] at hlast; cases hlast
      have e : xs = xs.dropLast ++ [.ref a] := by
        have h1 := List.dropLast_concat_getLast hne
        rw [List.getLast?_eq_some_getLast hne] at hlast
        rw [← Option.some.inj hlast]
        exact h1.symm
      rw [e]
      exact atI_last _ _
    refine ⟨_, hR, _, hatl, a, rfl, _, .inl hA, ?_⟩
    rw [List.length_map, ln]
    refine ⟨⟨by decide, by decide⟩, by omega, by omega, by omega, ?_⟩
    obtain ⟨one, ho, hone⟩ : ∃ one : Nat, (m : Int) / 7 % ((2 ^ n : Nat) : Int) = (one : Int) ∧ one < 2 ^ n := ⟨m / 7 % 2 ^ n, rfl, Nat.mod_lt _ hpos⟩
    rw [ho]
    refine wl_rng (n := 2 ^ n) (fun s => decide (s &&& one = s)) (fun s => .int (at0 ns s)) (by omega) (fun _ => rfl) (fun s K1 hs k1 K2 k2 Q2 q2 => ?_) (fun s K1 hs k1 _ K2 k2 Q2 q2 => ?_) (fun u G1 n1 x1 f1 => ?_)
    · walk_at "rd"
      refine ⟨rfl, ?_⟩
      exact (congrArg (fun b => Q2 b K2) (dec_castI _ _ _)).mpr (q2 _ (Ex.refl _))
    · walk_at "rd"
      exact ⟨_, ex_l (k1.trans k2) hA, _, at_int (by omega), q2 _ (Ex.refl _)⟩
    have hlow : ((List.range (2 ^ n)).filter fun s => decide (s &&& one = s)).map (fun s => V.int (at0 ns s)) = (((List.range (2 ^ n)).filter fun s => decide (s &&& one = s)).map (at0 ns)).map V.int := by
      rw [List.map_map]
      rfl
    rw [hlow] at f1
    refine ⟨u, rfl, _, .inl (.inl f1), ?_⟩
    rw [low_sum hone]
    subst h1
    refine seq_cut1 fun R2 h2 => ?_
    walk_at "rl"
    refine ⟨by omega, by omega, ?_⟩
    refine wl_rng (n := 2 ^ n) (fun s => decide (s &&& one = one)) (fun s => .int (at0 ns s)) (by omega) (fun _ => rfl) (fun s K1 hs k1 K2 k2 Q2 q2 => ?_) (fun s K1 hs k1 _ K2 k2 Q2 q2 => ?_) (fun v G2 n2 x2 f2 => ?_)
    · walk_at "rd"
      refine ⟨rfl, ?_⟩
      exact (congrArg (fun b => Q2 b K2) (dec_castI _ _ _)).mpr (q2 _ (Ex.refl _))
    · walk_at "rd"
      exact ⟨_, ex_l (x1.trans (k1.trans k2)) hA, _, at_int (by omega), q2 _ (Ex.refl _)⟩
    have hhigh : ((List.range (2 ^ n)).filter fun s => decide (s &&& one = one)).map (fun s => V.int (at0 ns s)) = (((List.range (2 ^ n)).filter fun s => decide (s &&& one = one)).map (at0 ns)).map V.int := by
      rw [List.map_map]
      rfl
    rw [hhigh] at f2
    refine ⟨v, rfl, _, .inl (.inl f2), ?_⟩
    rw [high_sum hone]
    subst h2
    walk_at "rl"
    have e2 := x1.trans x2
    refine ⟨by decide, by decide, ?_⟩
    refine w_rng0 (n := 4) (fun i σ H'' => ∃ z10 z11 z12 ys, σ = [some (.ref b), some (.ref r), some (.int (m : Nat)), some (.ref h), some (.ref a), some (.int ((2 ^ n : Nat) : Int)), some (.int (one : Nat)), some (.int (at0 (lowM n ns) one)), none, some (.int (at0 (highM n ns) one)), z10, z11, z12] ∧ ExO [h] H H'' ∧ H'' h = some (.lst (hs ++ ys)) ∧ ys.length ≤ i ∧ PairsF H H'' ys)
      ⟨_, _, _, [], rfl, .of e2, by rw [List.append_nil]; exact e2 _ _ hh, Nat.le_refl 0, fun x hx => by cases hx⟩ (fun i σ H'' hi hP => ?_) (fun σ H'' hP => ?_)
    · obtain ⟨z10, z11, z12, ys, rfl, o, fh, hyl, hyp⟩ := hP
      have B' : BookAt K H'' b O n ns ds := B.other o (fun a ha => by rw [List.mem_singleton]; rintro rfl; exact hO ha) (fun a ha xs => by rw [List.mem_singleton.mp ha, hh]; exact fun z => nomatch z)
      have hA' := sq_keep o (by simpa using ah) hA
      have hR' := sq_keep o (by simpa using rh) hR
      have hlen : (xs.length : Int) - 1 = (ds.length : Nat) := by rw [hxl]; omega
      refine seq_cut1 fun R3 h3 => ?_
      walk_at "rl"
      have hmi : (m : Int) < 2 ^ 40 := by omega
      have cm : ∀ x y : Int, 0 ≤ x → x < 2 ^ 60 → CMu x y := fun x y h1 h2 => .inl (.inl ⟨by omega, by omega⟩)
      refine ⟨⟨by decide, by decide⟩, by decide, cm _ _ (by omega) (by omega), cm _ _ (by omega) (by omega), by decide, ?_⟩
      obtain ⟨w, hw, hw4⟩ : ∃ w : Nat, ((m : Int) + (i : Int) * (1 + 2 * ((m : Int) / 4 % 2))) % 4 = (w : Int) ∧ w < 4 := by
        generalize ((m : Int) + (i : Int) * (1 + 2 * ((m : Int) / 4 % 2))) = t
        exact ⟨(t % 4).toNat, by omega, by omega⟩
      rw [hw]
      obtain ⟨dx, nu, lo, hi2, dn, xs2, _, _, hb, _⟩ := B'.ex
      generalize hD : ({ nx := _, rt := Q, bk := _, ct := _ } : Ends) = D
      have hrt : D.rt = Q := by rw [← hD]
      have hnx : ∀ H3 z12' ys', ExO [h] H H3 → H3 h = some (.lst (hs ++ ys')) → ys'.length ≤ i + 1 → PairsF H H3 ys' → D.nx [some (.ref b), some (.ref r), some (.int (m : Nat)), some (.ref h), some (.ref a), some (.int ((2 ^ n : Nat) : Int)), some (.int (one : Nat)), some (.int (at0 (lowM n ns) one)), none, some (.int (at0 (highM n ns) one)), some (.int (i : Nat)), some (.int (w : Nat)), z12'] H3 := fun H3 z12' ys' h1 h2 h3 h4 => by
        rw [← hD]
        exact ⟨_, _, _, rfl, h1, ys', h2, h3, h4⟩
      clear hD hw hw4
      subst h3
      refine seq_cut1 fun R4 h4 => ?_
      have r4 : ∀ H3, Ex H'' H3 → R4 D [some (.ref b), some (.ref r), some (.int (m : Nat)), some (.ref h), some (.ref a), some (.int ((2 ^ n : Nat) : Int)), some (.int (one : Nat)), some (.int (at0 (lowM n ns) one)), none, some (.int (at0 (highM n ns) one)), some (.int (i : Nat)), some (.int (w : Nat)), z12] H3 := by
        intro H3 k3
        subst h4
        refine seq_cut1 fun R5 h5 => ?_
        have r5 : ∀ H4, Ex H'' H4 → R5 D [some (.ref b), some (.ref r), some (.int (m : Nat)), some (.ref h), some (.ref a), some (.int ((2 ^ n : Nat) : Int)), some (.int (one : Nat)), some (.int (at0 (lowM n ns) one)), none, some (.int (at0 (highM n ns) one)), some (.int (i : Nat)), some (.int (w : Nat)), z12] H4 := by
          intro H4 k4
          subst h5
          refine seq_cut1 fun R6 h6 => ?_
          have r6 : ∀ H5, Ex H'' H5 → R6 D [some (.ref b), some (.ref r), some (.int (m : Nat)), some (.ref h), some (.ref a), some (.int ((2 ^ n : Nat) : Int)), some (.int (one : Nat)), some (.int (at0 (lowM n ns) one)), none, some (.int (at0 (highM n ns) one)), some (.int (i : Nat)), some (.int (w : Nat)), z12] H5 := by
            intro H5 k5
            subst h6
            walk_at "rl"
            refine ⟨rfl, ite2 (fun _ => ?_) (fun _ => hnx H5 _ ys (o.ex k5) (k5 _ _ fh) (by omega) (fun x hx => ?_))⟩
            · refine ⟨_, _, k5 _ _ hb, rfl, b, O, n, ns, ds, rfl, B'.mono k5, fun p6 H6 n6 x6 f6 => ?_⟩
              have hh5 := k5 _ _ fh
              have ha5 := (o.ex k5).keep _ _ hAt (by simpa using ah)
              have p6h : p6 ≠ h := fun z => by rw [z, hh5] at n6; cases n6
              have p6a : p6 ≠ a := fun z => by rw [z, ha5] at n6; cases n6
              refine ⟨p6, a, ns, ns, rfl, .inl (.inl f6), .inl (.inl (x6 _ _ ha5)), by omega, fun H7 x7 => ⟨_, rfl, ?_⟩⟩
              rw [decide_eq_true rfl]
              have f7 := x7 _ _ f6
              have e7 : Ex H5 (upd H7 p6 (.lst (ns.map V.int ++ [.int (m : Nat)]))) := ex_mut (x6.trans x7) n6
              refine iteF ⟨ty_lst (.inl (.inl f7)), p6, rfl, _, f7, sz_lt (by rw [List.length_map]; omega), ?_⟩
              have g8 : (upd H7 p6 (.lst (ns.map V.int ++ [.int (m : Nat)]))) p6 = some (.lst ((ns ++ [(m : Int)]).map V.int)) := by rw [upd_same, List.map_append] <;> rfl
              generalize upd H7 p6 _ = G8 at *
              refine ⟨ty_lst (.inl (.inl (e7 _ _ hh5))), sz_of (by simp), fun p9 n9 => ?_⟩
              have x9 := Ex.new (o := HO.lst [V.int (m : Nat)]) n9
              have g9 : (upd G8 p9 (.lst [V.int (m : Nat)])) p9 = some (.lst [V.int (m : Nat)]) := upd_same
              have e9 := e7.trans x9
              have g89 := x9 _ _ g8
              generalize upd G8 p9 _ = G9 at *
              refine ⟨_, e9 _ _ ha5, _, g9, sz_of (by rw [List.length_map]; simp; omega), fun p10 n10 => ?_⟩
              have x10 := Ex.new (o := HO.lst (ns.map V.int ++ [V.int (m : Nat)])) n10
              have g10 : (upd G9 p10 (.lst (ns.map V.int ++ [V.int (m : Nat)]))) p10 = some (.lst ((ns ++ [(m : Int)]).map V.int)) := by rw [upd_same, List.map_append] <;> rfl
              have e10 := e9.trans x10
              have g810 := x10 _ _ g89
              have w10 := ex_back e9 n10
              generalize upd G9 p10 _ = G10 at *
              refine ⟨sz_of (by simp), fun p11 n11 => ?_⟩
              have x11 := Ex.new (o := HO.tup [V.ref p6, V.ref p10]) n11
              have g11 : (upd G10 p11 (.tup [V.ref p6, V.ref p10])) p11 = some (.tup [V.ref p6, V.ref p10]) := upd_same
              have e11 := e10.trans x11
              have g811 := x11 _ _ g810
              have g1011 := x11 _ _ g10
              have w11 := ex_back e10 n11
              generalize upd G10 p11 _ = G11 at *
              have hh11 := e11 _ _ hh5
              have p10h : p10 ≠ h := fun z => by rw [z, hh5] at w10; cases w10
              have p11h : p11 ≠ h := fun z => by rw [z, hh5] at w11; cases w11
              have o5 := o.ex k5
              refine ⟨_, hh11, sz_lt (by rw [List.length_append]; omega), hnx _ _ (ys ++ [.ref p11]) ((o5.ex e11).upd (.inl (by simp))) (by rw [upd_same, List.append_assoc]) (by rw [List.length_append]; simp; omega) (fun x hx => ?_)⟩
              rcases List.mem_append.mp hx with hx | hx
              · obtain ⟨t, u, v, ns', h1, h2, h3, h4, h5, h6, h7⟩ := hyp x hx
                have ne : ∀ {p}, H p = none → p ≠ h := fun q z => by rw [z, hh] at q; cases q
                exact ⟨t, u, v, ns', h1, h2, h3, h4, by rw [upd_ne (ne h2)]; exact (k5.trans e11) _ _ h5, by rw [upd_ne (ne h3)]; exact (k5.trans e11) _ _ h6, by rw [upd_ne (ne h4)]; exact (k5.trans e11) _ _ h7⟩
              · rw [List.mem_singleton.mp hx]
                exact ⟨p11, p6, p10, ns ++ [(m : Int)], rfl, o5.back _ w11, o5.back _ n6, o5.back _ w10, by rw [upd_ne p11h]; exact g11, by rw [upd_ne p6h]; exact g811, by rw [upd_ne p10h]; exact g1011⟩
            · obtain ⟨t, u, v, ns', h1, h2, h3, h4, h5, h6, h7⟩ := hyp x hx
              exact ⟨t, u, v, ns', h1, h2, h3, h4, k5 _ _ h5, k5 _ _ h6, k5 _ _ h7⟩
          walk_at "rl"
          refine ⟨rfl, ite2 (fun _ => ?_) (fun _ => r6 _ k4)⟩
          refine ⟨_, _, k4 _ _ hb, rfl, b, O, n, ns, ds, _, rfl, B'.mono k4, El.int _, .inl ⟨one, rfl, hone, fun H5 k5 => ⟨rfl, ?_⟩⟩⟩
          rw [decide_eq_true rfl]
          have e5 := k4.trans k5
          refine iteF ⟨_, _, e5 _ _ hb, rfl, b, O, n, ns, ds, _, rfl, B'.mono e5, El.int _, .inl ⟨one, rfl, hone, fun H6 k6 => ⟨rfl, ?_⟩⟩⟩
          rw [decide_eq_true rfl]
          exact iteF (r6 _ (e5.trans k6))
        walk_at "rl"
        refine ⟨rfl, ite2 (fun _ => ?_) (fun _ => r5 _ k3)⟩
        refine ⟨_, _, k3 _ _ hb, rfl, b, O, n, ns, ds, _, rfl, B'.mono k3, El.int _, .inl ⟨one, rfl, hone, fun H5 k5 => ⟨rfl, ?_⟩⟩⟩
        rw [decide_eq_true rfl]
        have e5 := k3.trans k5
        refine iteF ⟨_, _, e5 _ _ hb, rfl, b, O, n, ns, ds, rfl, B'.mono e5, _, .inl (ex_l e5 hR'), rfl, ?_⟩
        rw [decide_eq_true (show V.int (ds.length : Nat) = V.int ((xs.length : Int) - 1) from congrArg V.int hlen.symm)]
        exact iteF (r5 _ e5)
      walk_at "rl"
      refine ⟨rfl, ite2 (fun _ => ?_) (fun _ => r4 _ (Ex.refl _))⟩
      refine ⟨_, _, hb, rfl, b, O, n, ns, ds, _, rfl, B', El.int _, .inl ⟨one, rfl, hone, fun H5 k5 => ⟨_, ex_l k5 hA', _, at_int (by omega), rfl, ?_⟩⟩⟩
      rw [decide_eq_true (show V.int (at0 ns one) = V.int (ns.getD one 0) from rfl)]
      refine iteF ⟨_, _, k5 _ _ hb, rfl, b, O, n, ns, ds, _, rfl, B'.mono k5, El.int _, .inl ⟨one, rfl, hone, fun H6 k6 => ⟨rfl, ?_⟩⟩⟩
      rw [decide_eq_true rfl]
      exact iteF (r4 _ (k5.trans k6))
    · obtain ⟨z10, z11, z12, ys, rfl, o, fh, hyl, hyp⟩ := hP
      dsimp only
      walk_at "rd"
      exact q H'' ys o fh hyl hyp

theorem or_ite {s1 s2 s3 c1 c2 c3 A B : Prop} [Decidable c1] [Decidable c2] [Decidable c3] (h1 : s1) (h2 : s2) (h3 : s3) (hA : (c1 ∨ (c2 ∧ c3)) → A) (hB : ¬ c1 → ¬ (c2 ∧ c3) → B) : s1 ∧ if c1 then A else s2 ∧ if c2 then s3 ∧ if c3 then A else B else B :=
  ⟨h1, ite2 (fun h => hA (.inl h)) fun h => ⟨h2, ite2 (fun h' => ⟨h3, ite2 (fun h'' => hA (.inr ⟨h', h''⟩)) fun h'' => hB h fun z => h'' z.2⟩) fun h' => hB h fun z => h' z.1⟩⟩
abbrev N0 : Hp := fun _ => none
def sp_law_deed (K : PySem.W.Frag) : Sp := fun vs H Q _ => ∃ (b r : Addr) (O : List Addr) (n m : Nat) (g : Int) (S : Hp) (ns : List Int) (ds : List Deed) (xs : List V) (pre : List (List Int)), vs = [.ref b, .int (n : Nat), .ref r, .int (m : Nat), .int g] ∧ BookAt K H b O n ns ds ∧ Hist n (pre ++ [ns]) ds ∧ Ex S H ∧ (∀ a ∈ r :: O, S a = none) ∧ r ∉ O ∧ H r = some (.lst xs) ∧ RowsF N0 S xs (pre ++ [ns]) ∧ pre.length ≤ 900 ∧ m < 2 ^ 40 ∧
  ∀ H' O' S' ns' ds' xs' pre', ExO (r :: O) H H' → Grow O O' H → BookAt K H' b O' n ns' ds' → Hist n (pre' ++ [ns']) ds' → Ex S S' → Ex S' H' → (∀ a ∈ r :: O', S' a = none) → (∀ a, S a = none → S' a = none ∨ H a = none) → H' r = some (.lst xs') → RowsF N0 S' xs' (pre' ++ [ns']) → pre'.length ≤ pre.length + 1 → Q (.bl true) H'
theorem ok_law_deed (T : Txt K mg) (h_law_behind : Has P w K mg base 3 "_law_behind" ["_law_numbers", "_law_word", "_law_one", "_law_other"] (sp_law_behind K)) (h_law_caught : Has P w K mg base 5 "_law_caught" ["_law_book", "_law_word", "_law_one", "_law_other"] (sp_law_caught K)) (h_law_kind : Has P w K mg base 1 "_law_kind" ["_law_caught_here"] (sp_law_kind K)) (h_law_wrong : Has P w K mg base 1 "_law_wrong" ["_law_many", "_law_number"] (sp_law_wrong K)) : Has P w K mg base 6 "_law_deed" ["_law_book", "_law_many", "_law_rows", "_law_number", "_law_great"] (sp_law_deed K) := by
  refine DefAt.has T.d_law_deed sc_law_deed (fun vs H Q E h => ?_) (fun f cdv A outer s H vs Q E hr h => ⟨_, (pss_cons (ps_set (i := 5) sc_law_deed.nd rfl (Or.inl rfl) (pe_op op_mod (pv 3) pe_int))
      (pss_cons (ps_if (pt_cmpR op_eq (pv 5) pe_int (nomark _))
      (pss_cons (ps_asg (g := gTup K 4 (gCons (gName 6) (gCons (gName 7) (gCons (gName 8) (gCons (gName 9) gNil))))) (pe_has h_law_wrong (hr.mono (by decide)) rfl passB (pa_cons (pv 1) (pa_cons (pe_op op_fdiv (pv 3) pe_int) pa_nil))) (k_pgt K rfl (pgs_cons (pg_name (i := 6) sc_law_deed.nd rfl (Or.inl rfl)) (pgs_cons (pg_name (i := 7) sc_law_deed.nd rfl (Or.inl rfl)) (pgs_cons (pg_name (i := 8) sc_law_deed.nd rfl (Or.inl rfl)) (pgs_cons (pg_name (i := 9) sc_law_deed.nd rfl (Or.inl rfl)) pgs_nil))))))
      (pss_one (ps_ret (pe_cmpR (k_eqD K hr.units) (pe_has h_law_kind (hr.mono (by decide)) rfl passB (pa_cons (pe_ix (k_ixt K) (pe_has h_law_caught (hr.mono (by decide)) rfl passB (pa_cons (pv 0) (pa_cons (pv 6) (pa_cons (pv 7) (pa_cons (pv 8) pa_nil))))) pe_int (fun _ _ => rfl)) pa_nil)) (pe_lst (pa_cons (pv 9) (pa_cons pe_str pa_nil))) (nomark _))))) pss_nil)
      (pss_cons (ps_if (PW.pt (pw_or (pt_cmpR op_eq (pv 5) pe_int (nomark _)) (pw_or1 (PW.pt (pw_and (pt_cmpR op_eq (pv 5) pe_int (nomark _)) (pw_and1 (pt_cmpR op_eq (pv 1) pe_int (nomark _))))))))
      (pss_cons (ps_asg (g := gTup K 2 (gCons (gName 10) (gCons (gName 11) gNil))) (pe_has h_law_caught (hr.mono (by decide)) rfl passB (pa_cons (pv 0) (pa_cons pe_str (pa_cons pe_int (pa_cons pe_int pa_nil))))) (k_pgt K rfl (pgs_cons (pg_name (i := 10) sc_law_deed.nd rfl (Or.inl rfl)) (pgs_cons (pg_name (i := 11) sc_law_deed.nd rfl (Or.inl rfl)) pgs_nil))))
      (pss_cons (ps_if (pt_cmpR op_eq (pe_callB (id := "len") (k_len K) (by rfl) T.n_len (by decide +kernel) (pa_cons (pv 2) pa_nil)) pe_int (nomark _))
      (pss_one (ps_ret (pe_cmpR (k_eqD K hr.units) (pe_has h_law_kind (hr.mono (by decide)) rfl passB (pa_cons (pv 10) pa_nil)) (pe_lst (pa_cons pe_str (pa_cons pe_str pa_nil))) (nomark _)))) pss_nil)
      (pss_cons (ps_expr (k_bm0 K PySem.F.plainAttrs_list PySem.F.slot_list_pop PySem.F.type_list_pop mt_pop (pv 2)))
      (pss_one (ps_ret (pe_and (pe_cmp (pc_isN (pv 10)) rfl) (pe_one (pe_cmp (pc_isN (pv 11)) rfl)))))))) pss_nil)
      (pss_cons (ps_if (pt_cmpR op_eq (pv 5) pe_int (nomark _))
      (pss_one (ps_set (i := 12) sc_law_deed.nd rfl (Or.inl rfl) (pe_tup (pa_cons pe_str (pa_cons (pe_op op_mod (pe_op op_fdiv (pv 3) pe_int) (pv 1)) (pa_cons (pe_op op_mod (pe_op op_fdiv (pv 3) pe_int) (pv 1)) pa_nil)))))) (pss_one (ps_set (i := 12) sc_law_deed.nd rfl (Or.inl rfl) (pe_tup (pa_cons pe_str (pa_cons (pe_op op_mod (pe_op op_fdiv (pv 3) pe_int) (pe_op op_sh pe_int (pv 1))) (pa_cons (pe_ix (k_ixl K) (pe_lst (pa_cons (pv 4) (pa_cons (pe_op op_sub pe_int (pv 4)) (pa_cons (pe_op op_mod (pv 3) pe_int) (pa_cons pe_int pa_nil))))) (pv 5) (fun _ _ => rfl)) pa_nil)))))))
      (pss_cons (ps_asg (g := gTup K 2 (gCons (gName 10) (gCons (gName 11) gNil))) (pe_has h_law_caught (hr.mono (by decide)) rfl passB (pa_cons (pv 0) (pa_cons (pe_ix (k_ixt K) (pv 12) pe_int (fun _ _ => rfl)) (pa_cons (pe_ix (k_ixt K) (pv 12) pe_int (fun _ _ => rfl)) (pa_cons (pe_ix (k_ixt K) (pv 12) pe_int (fun _ _ => rfl)) pa_nil))))) (k_pgt K rfl (pgs_cons (pg_name (i := 10) sc_law_deed.nd rfl (Or.inl rfl)) (pgs_cons (pg_name (i := 11) sc_law_deed.nd rfl (Or.inl rfl)) pgs_nil))))
      (pss_cons (ps_expr (k_bm K PySem.F.plainAttrs_list PySem.F.slot_list_append PySem.F.type_list_append mt_append (pv 2) (pa_cons (pe_has h_law_behind (hr.mono (by decide)) rfl passB (pa_cons (pe_ix (k_ixl K) (pv 2) (pe_un un_neg pe_int) (fun _ _ => rfl)) (pa_cons (pe_ix (k_ixt K) (pv 12) pe_int (fun _ _ => rfl)) (pa_cons (pe_ix (k_ixt K) (pv 12) pe_int (fun _ _ => rfl)) (pa_cons (pe_ix (k_ixt K) (pv 12) pe_int (fun _ _ => rfl)) pa_nil))))) pa_nil)))
      (pss_one (ps_ret (pe_and (pe_cmp (pc_isN (pv 10)) rfl) (pe_one (pe_cmp (pc_isN (pv 11)) rfl))))))))))), ?_⟩)
  · obtain ⟨b, r, O, n, m, g, S, ns, ds, xs, pre, rfl, _⟩ := h
    rfl
  · obtain ⟨b, r, O, n, m, g, S, ns, ds, xs, pre, rfl, B, hist, hS, hSM, rO, hr, hrw, hpl, hm, q⟩ := h
    simp only [L2.start, N_law_deed, List.map_cons, List.map_nil, List.length_cons, List.length_nil, List.replicate_succ, List.replicate_zero, Nat.reduceAdd, Nat.reduceSub, List.cons_append, List.nil_append]
    have ln := B.ln
    have hn := B.hn
    have h32 : 2 ^ n ≤ 32 := Nat.pow_le_pow_right (n := 2) (by decide) hn
    have hpos := Nat.two_pow_pos n
    have hdl : ds.length ≤ 1000 := by have := hist.len; rw [List.length_append] at this; simp at this; omega
    have hxl : xs.length = pre.length + 1 := by have := hrw.len; rw [List.length_append] at this; exact this
    -- nothing was changed
    have same : ∀ H', Ex H H' → Q (.bl true) H' := fun H' e => q H' O S ns ds xs pre (.of e) (Grow.refl _ _) (B.mono e) hist (Ex.refl _) (hS.trans e) hSM (fun a h => .inl h) (e _ _ hr) hrw (by omega)
    obtain ⟨w, hw, hw7⟩ : ∃ w : Nat, (m : Int) % 7 = (w : Int) ∧ w < 7 := ⟨m % 7, rfl, Nat.mod_lt _ (by decide)⟩
    refine seq_cut2 fun R1 h1 => ?_
    walk_at "rl"
    rw [hw]
    refine ⟨by decide, rfl, ite2 (fun hc => ?_) (fun hc => ?_)⟩
    · refine ⟨⟨by decide, by decide⟩, n, m / 7, rfl, hn, fun t H1 wd x y due C nt e1 ht W => ?_⟩
      obtain ⟨hE1, hE2, hC, hdue, hcs⟩ := W
      refine ⟨t, [.str wd, x, y, .str due], rfl, .inl (.inl ht), rfl, .str wd, [x, y, .str due], rfl, x, [y, .str due], rfl, y, [.str due], rfl, .str due, [], rfl, rfl, ?_⟩
      walk_at "rl"
      refine ⟨b, O, n, ns, ds, wd, x, y, rfl, B.mono e1, hE1, hE2, hdl, .inr ⟨C, hC, ?_, fun t2 e H2 nt2 ne2 x2 ht2 he => ?_⟩⟩
      · rcases hcs with h | h | h | h
        · exact .inl h
        · exact .inr (.inl h)
        · exact .inr (.inr (.inl h))
        · exact .inr (.inr (.inr (.inr h)))
      · refine ⟨t2, rfl, _, .inl (.inl ht2), _, atI_nat (j := 0) rfl, _, rfl, .inr ⟨e, C, rfl, hC, he, fun w1 G nw1 x3 hw1 => ?_⟩⟩
        rcases hdue with ⟨rfl, rfl⟩ | ⟨rfl, rfl⟩ | ⟨rfl, rfl⟩
        · exact kind_eq (by decide +kernel) (by decide +kernel) hw1 fun G' x' => same _ (e1.trans (x2.trans (x3.trans x')))
        · exact kind_eq (by decide +kernel) (by decide +kernel) hw1 fun G' x' => same _ (e1.trans (x2.trans (x3.trans x')))
        · exact kind_eq (by decide +kernel) (by decide +kernel) hw1 fun G' x' => same _ (e1.trans (x2.trans (x3.trans x')))
    · subst h1
      refine seq_cut1 fun R2 h2 => ?_
      walk_at "rl"
      refine or_ite rfl rfl rfl (fun hu => ?_) (fun h5 h40 => ?_)
      · rcases hist.back with ⟨rfl, rfl⟩ | ⟨pre', ns', ds', d, rfl, rfl, hist', hok, hact⟩
        · refine ⟨b, O, n, ns, [], "undo", _, _, rfl, B, El.int _, El.int _, by simp, .inr ⟨"NothingDone", by decide, .inr (.inr (.inr (.inl ⟨rfl, rfl, rfl⟩))), fun t2 e H2 nt2 ne2 x2 ht2 he => ?_⟩⟩
          refine ⟨t2, [.ref e, .non], rfl, .inl (.inl ht2), rfl, .ref e, [.non], rfl, .non, [], rfl, rfl, ?_⟩
          walk_at "rl"
          refine ⟨_, .inl (.inl (.inl (x2 _ _ hr))), rfl, ?_⟩
          rw [hxl]
          refine (if_pos rfl).mpr ?_
          refine ⟨_, rfl, .inr ⟨e, "NothingDone", rfl, by decide, he, fun w1 G nw1 x3 hw1 => ?_⟩⟩
          exact kind_eq (by decide +kernel) (by decide +kernel) hw1 fun G' x' => same _ (x2.trans (x3.trans x'))
        · refine ⟨b, O, n, ns, _, "undo", _, _, rfl, B, El.int _, El.int _, hdl, .inl ⟨undoM d ns, ds', .inr (.inr ⟨d, rfl, rfl, hok, rfl⟩), fun t2 H2 O' o2 g2 B2 nt2 ht2 => ?_⟩⟩
          refine ⟨t2, [.non, .non], rfl, .inl (.inl ht2), rfl, .non, [.non], rfl, .non, [], rfl, rfl, ?_⟩
          have hr2 := o2.keep _ _ hr rO
          walk_at "rl"
          refine ⟨_, .inl (.inl (.inl hr2)), rfl, ?_⟩
          have ln' := hist'.ln
          rw [if_neg (by rw [hxl]; simp; omega)]
          obtain ⟨ys, a, rfl, hys, _, ha⟩ := hrw.split
          have hS2 : Ex S H2 := fun a o h => o2.keep a o (hS a o h) fun z => by rw [hSM a (List.mem_cons_of_mem _ z)] at h; cases h
          refine ⟨ty_lst (.inl (.inl hr2)), _, hr2, .ref a, by simp, ?_⟩
          rw [List.dropLast_concat, decide_eq_true trivial]
          have hun : undoM d ns = ns' := by rw [hact]; exact undo_act hok ln'
          rw [hun] at B2
          have rO' : r ∉ O' := fun z => (g2 r z).elim rO fun q => by rw [hr] at q; cases q
          have B3 : BookAt K (upd H2 r (.lst ys)) b O' n ns' ds' := B2.other (O2 := [r]) ((ExO.refl [r] H2).upd (.inl (by simp))) (fun a ha => by rw [List.mem_singleton]; rintro rfl; exact rO' ha) (fun a ha xs => by rw [List.mem_singleton.mp ha, hr2]; exact fun z => nomatch z)
          refine q _ O' S ns' ds' ys pre' ((o2.wide fun a h => List.mem_cons_of_mem _ h).upd (.inl (by simp))) g2 B3 hist' (Ex.refl _) (ex_mut hS2 (hSM r (by simp))) (fun a ha => ?_) (fun a h => .inl h) upd_same hys (by simp; omega)
          rcases List.mem_cons.mp ha with rfl | ha
          · exact hSM _ (by simp)
          · rcases g2 a ha with h | h
            · exact hSM a (List.mem_cons_of_mem _ h)
            · exact ex_back hS h
      · subst h2
        refine seq_cut1 fun R3 h3 => ?_
        walk_at "rl"
        have act : ∀ (d : Deed) (p : Addr) (G : Hp), Ex H G → DeedOk n d → G p = some (.tup [.str (wordM d), .int (d.2.1 : Nat), .int d.2.2]) → R3 { nx := fun x H' => Q V.non H', rt := Q } [some (.ref b), some (.int (n : Nat)), some (.ref r), some (.int (m : Nat)), some (.int g), some (.int (w : Nat)), none, none, none, none, none, none, some (.ref p)] G := by
          intro d p G e1 hok hp
          have sp : SqT K G p [.str (wordM d), .int (d.2.1 : Nat), .int d.2.2] := .inl (.inl hp)
          subst h3
          refine seq_cut1 fun R4 h4 => ?_
          walk_at "rl"
          refine ⟨_, sp, _, atI_nat (j := 0) rfl, _, sp, _, atI_nat (j := 1) rfl, _, sp, _, atI_nat (j := 2) rfl, ?_⟩
          have good : ∀ t2 H2 O', ExO O G H2 → Grow O O' G → BookAt K H2 b O' n (actM d ns) (ds ++ [d]) → G t2 = none → H2 t2 = some (.tup [.non, .non]) → R4 { nx := fun x H' => Q V.non H', rt := Q } [some (.ref b), some (.int (n : Nat)), some (.ref r), some (.int (m : Nat)), some (.int g), some (.int (w : Nat)), none, none, none, none, some .non, some .non, some (.ref p)] H2 := by
            intro t2 H2 O' o2 g2 B2 nt2 ht2
            have hrG := e1 _ _ hr
            have hr2 := o2.keep _ _ hrG rO
            have hp2 : H2 p = _ := o2.keep _ _ hp fun z => B.mono e1 |>.noTup p z _ hp
            have sp2 : ∀ {H3}, Ex H2 H3 → SqT K H3 p [.str (wordM d), .int (d.2.1 : Nat), .int d.2.2] := fun e => .inl (.inl (e _ _ hp2))
            have hSG := hS.trans e1
            have hS2 : Ex S H2 := fun a o h => o2.keep a o (hSG a o h) fun z => by rw [hSM a (List.mem_cons_of_mem _ z)] at h; cases h
            obtain ⟨ys, a, hxs, hys, _, ha⟩ := hrw.split
            subst h4
            walk_at "rl"
            refine ⟨ty_lst (.inl (.inl hr2)), _, .inl (.inl hr2), .ref a, by rw [hxs]; exact atI_last _ _, _, sp2 (Ex.refl _), _, atI_nat (j := 0) rfl, _, sp2 (Ex.refl _), _, atI_nat (j := 1) rfl, _, sp2 (Ex.refl _), _, atI_nat (j := 2) rfl, a, n, ns, d, rfl, .inl (.inl (hS2 _ _ ha)), hn, ln, hok, fun u G3 nu x3 f3 => ?_⟩
            have e2r := x3 _ _ hr2
            have xl : xs.length ≤ 1000 := by omega
            refine ⟨_, e2r, sz_lt (by omega), ?_⟩
            rw [decide_eq_true trivial]
            have nHu : H2 u = none := nu
            have nGu : G u = none := o2.back _ nu
            have nSu : S u = none := ex_back hSG nGu
            have ur : u ≠ r := fun z => by rw [z, hr2] at nu; cases nu
            have rO' : r ∉ O' := fun z => (g2 r z).elim rO fun q => by rw [hrG] at q; cases q
            have B3 : BookAt K (upd G3 r (.lst (xs ++ [.ref u]))) b O' n (actM d ns) (ds ++ [d]) := (B2.mono x3).other (O2 := [r]) ((ExO.refl [r] G3).upd (.inl (by simp))) (fun a ha => by rw [List.mem_singleton]; rintro rfl; exact rO' ha) (fun a ha xs => by rw [List.mem_singleton.mp ha, e2r]; exact fun z => nomatch z)
            have hS3 : Ex (upd S u (.lst ((actM d ns).map V.int))) (upd G3 r (.lst (xs ++ [.ref u]))) := by
              intro a o h
              by_cases e : a = u
              · rw [e, upd_same] at h
                rw [e, upd_ne ur, ← h]
                exact f3
              · rw [upd_ne e] at h
                have : a ≠ r := fun z => by rw [z, hSM r (by simp)] at h; cases h
                rw [upd_ne this]
                exact x3 _ _ (hS2 _ _ h)
            have oH : ExO (r :: O) H (upd G3 r (.lst (xs ++ [.ref u]))) := (((ExO.of (O := r :: O) e1).trans (o2.wide fun a h => List.mem_cons_of_mem _ h) (Grow.refl _ _)).ex x3).upd (.inl (by simp))
            refine q _ O' _ (actM d ns) (ds ++ [d]) (xs ++ [.ref u]) (pre ++ [ns]) oH (fun a h => (g2 a h).imp id fun z => ex_back e1 z) B3 (.snoc hist hok) (Ex.new nSu) hS3 (fun a ha => ?_) (fun a h => ?_) upd_same ((hrw.mono (Ex.new nSu)).snoc rfl upd_same) (by simp)
            · have hSa : S a = none := by
                rcases List.mem_cons.mp ha with rfl | ha
                · exact hSM _ (by simp)
                · rcases g2 a ha with h | h
                  · exact hSM a (List.mem_cons_of_mem _ h)
                  · exact ex_back hSG h
              have : a ≠ u := by
                rintro rfl
                rcases List.mem_cons.mp ha with h | h
                · exact ur h
                · exact B2.there _ h nu
              rw [upd_ne this]
              exact hSa
            · by_cases e : a = u
              · exact .inr (by rw [e]; exact ex_back e1 nGu)
              · exact .inl (by rw [upd_ne e]; exact h)
          refine ⟨b, O, n, ns, ds, wordM d, _, _, rfl, B.mono e1, El.int _, El.int _, hdl, .inl ⟨actM d ns, ds ++ [d], ?_, fun t2 H2 O' o2 g2 B2 nt2 ht2 => ⟨t2, [.non, .non], rfl, .inl (.inl ht2), rfl, .non, [.non], rfl, .non, [], rfl, rfl, good t2 H2 O' o2 g2 B2 nt2 ht2⟩⟩⟩
          obtain ⟨pt, one, z⟩ := d
          cases pt with
          | true => exact .inl ⟨one, z, rfl, rfl, rfl, hok.1 rfl, rfl, rfl⟩
          | false =>
            obtain ⟨ha, hz, hc⟩ := hok.2 rfl
            obtain ⟨c, rfl⟩ : ∃ c : Nat, z = (c : Int) := ⟨z.toNat, (Int.toNat_of_nonneg hz).symm⟩
            exact .inr (.inl ⟨one, c, rfl, rfl, rfl, ha, by simpa using hc, rfl, rfl⟩)
        refine ⟨rfl, ite2 (fun h4 => ?_) (fun h4 => ?_)⟩
        · have hn0 : 0 < n := by
            have : ¬ (n : Int) = 0 := fun z => h40 ⟨h4, z⟩
            omega
          refine ⟨⟨by decide, by decide⟩, by omega, ⟨by decide, by decide⟩, by omega, sz_of (by simp), fun p np => ?_⟩
          refine act (false, m / 7 % n, ((m / 49 % n : Nat) : Int)) p _ (Ex.new np) ⟨(fun z => nomatch z), fun _ => ⟨Nat.mod_lt _ hn0, Int.natCast_nonneg _, by show Int.toNat _ < n; rw [Int.toNat_natCast]; exact Nat.mod_lt _ hn0⟩⟩ ?_
          rw [upd_same]
          rfl
        · refine ⟨⟨by decide, by decide⟩, cpow1 (by omega), by omega, by decide, sz_of (by simp), fun p np => ⟨_, .inl (.inl upd_same), ?_⟩⟩
          have hw4 : w < 4 := by omega
          have hz : ∃ z : Int, atI [V.int g, V.int (0 - g), V.int ((m : Int) % 9), V.int 0] (w : Int) = some (.int z) := by
            clear hw hc h5 h40 h4 act
            match w, hw4 with
            | 0, _ => exact ⟨_, atI_nat rfl⟩
            | 1, _ => exact ⟨_, atI_nat (j := 1) rfl⟩
            | 2, _ => exact ⟨_, atI_nat (j := 2) rfl⟩
            | 3, _ => exact ⟨_, atI_nat (j := 3) rfl⟩
          obtain ⟨z, hz⟩ := hz
          refine ⟨_, hz, sz_of (by simp), fun p1 np1 => ?_⟩
          refine act (true, m / 7 % 2 ^ n, z) p1 _ ((Ex.new np).trans (Ex.new np1)) ⟨fun _ => Nat.mod_lt _ hpos, (fun z => nomatch z)⟩ ?_
          rw [upd_same]
          rfl

def sp_law_made (K : PySem.W.Frag) : Sp := fun vs H Q _ => ∃ x, vs = [x] ∧ El K H x ∧ amg x 0 10 = false ∧ ∀ a H', H a = none → Ex H H' → H' a = some (ExK (.ref (He.ga K "BadCount")) a) → Q (.ref a) H'
theorem ok_law_made (T : Txt K mg) (h_Book___init__ : HasI P w K mg base 5 "Book" ["self", "many"] (sp_Book___init__ K)) : Has P w K mg base 7 "_law_made" ["_law_many"] (sp_law_made K) := by
  refine DefAt.has T.d_law_made sc_law_made (fun vs H Q E h => ?_) (fun f cdv A outer s H vs Q E hr h => ⟨_, (pss_cons (ps_set (i := 1) sc_law_made.nd rfl (Or.inl rfl) pe_non)
      (pss_cons (k_tryk K (i := 2) (j := 1) rfl rfl rfl sc_law_made.nd rfl rfl rfl rfl T.c_SetError rfl takesB (fun W pn xe tk po =>
      (pss_one (ps_expr (k_makeS K h_Book___init__ (hr.mono (by decide)) rfl T.gB tk (pa_cons (pv 0) pa_nil))))))
      (pss_one (ps_ret (pv 1))))), ?_⟩)
  · obtain ⟨x, rfl, _⟩ := h
    rfl
  · obtain ⟨x, rfl, hE, hx, q⟩ := h
    simp only [L2.start, N_law_made, List.map_cons, List.map_nil, List.length_cons, List.length_nil, List.replicate_succ, List.replicate_zero, Nat.reduceAdd, Nat.reduceSub, List.cons_append, List.nil_append]
    walk_at "rl"
    intro b dx nb nd hne
    have x1 := Ex.new (o := HO.own b) nd
    have nb2 : (upd H dx (.own b)) b = none := by rw [upd_ne (fun z => hne z.symm)]; exact nb
    have x2 := Ex.new (o := HO.ins (He.ga K "Book") dx []) nb2
    refine ⟨b, dx, x, rfl, upd_same, hE.mono (x1.trans x2), .inr ⟨hx, fun H' e => ?_⟩⟩
    have e2 := (x1.trans x2).trans e
    refine we_go T.x (by decide) fun a na => ?_
    walk_at "rd"
    exact q a _ (fresh_back e2 na) (e2.trans (Ex.new na)) upd_same

/-- a book and the numbers behind its deeds, M: what of them changes -/
def Side (K : PySem.W.Frag) (H S : Hp) (b r : Addr) (n k : Nat) (M : List Addr) : Prop := ∃ O ns ds xs pre, M = r :: O ∧ BookAt K H b O n ns ds ∧ Hist n (pre ++ [ns]) ds ∧ H r = some (.lst xs) ∧ RowsF N0 S xs (pre ++ [ns]) ∧ (∀ a ∈ M, S a = none) ∧ r ∉ O ∧ pre.length ≤ k
/-- two books, the told tables at h -/
def TwoB (K : PySem.W.Frag) (H SB : Hp) (b r : Addr) (n : Nat) (b' r' : Addr) (n' : Nat) (h : Addr) (k c : Nat) : Prop := ∃ S M M' hs, Ex SB S ∧ Ex S H ∧ Side K H S b r n k M ∧ Side K H S b' r' n' k M' ∧ (∀ a ∈ M, a ∉ M') ∧ h ∉ M ∧ h ∉ M' ∧ S h = none ∧ H h = some (.lst hs) ∧ PairsF N0 S hs ∧ hs.length ≤ c
theorem Side.there {K : PySem.W.Frag} {H S : Hp} {b r : Addr} {n k : Nat} {M : List Addr} (s : Side K H S b r n k M) : ∀ a ∈ M, H a ≠ none := by
  obtain ⟨O, ns, ds, xs, pre, rfl, B, _, hr, _⟩ := s
  intro a ha
  rcases List.mem_cons.mp ha with rfl | ha
  · rw [hr]; exact fun z => nomatch z
  · exact B.there a ha
theorem Side.noTup {K : PySem.W.Frag} {H S : Hp} {b r : Addr} {n k : Nat} {M : List Addr} (s : Side K H S b r n k M) : NoTup M H := by
  obtain ⟨O, ns, ds, xs, pre, rfl, B, _, hr, _⟩ := s
  intro a ha ys
  rcases List.mem_cons.mp ha with rfl | ha
  · rw [hr]; exact fun z => nomatch z
  · exact B.noTup a ha ys
/-- another's change -/
theorem Side.other {K : PySem.W.Frag} {H S H' S' : Hp} {b r : Addr} {n k k' : Nat} {M O2 : List Addr} (s : Side K H S b r n k M) (x : ExO O2 H H') (dj : ∀ a ∈ M, a ∉ O2) (nt : NoTup O2 H) (e : Ex S S') (hS : ∀ a ∈ M, S' a = none) (hk : k ≤ k') : Side K H' S' b r n k' M := by
  obtain ⟨O, ns, ds, xs, pre, rfl, B, hist, hr, hrw, hSM, rO, hpl⟩ := s
  exact ⟨O, ns, ds, xs, pre, rfl, B.other x (fun a ha => dj a (List.mem_cons_of_mem _ ha)) nt, hist, x.keep _ _ hr (dj _ (by simp)), hrw.mono e, hS, rO, by omega⟩
theorem PairsF.mono {B H H' : Hp} {xs : List V} (e : Ex H H') (h : PairsF B H xs) : PairsF B H' xs := fun x hx => by
  obtain ⟨t, u, v, ns, h1, h2, h3, h4, h5, h6, h7⟩ := h x hx
  exact ⟨t, u, v, ns, h1, h2, h3, h4, e _ _ h5, e _ _ h6, e _ _ h7⟩
theorem TwoB.swap {K : PySem.W.Frag} {H SB : Hp} {b r : Addr} {n : Nat} {b' r' : Addr} {n' : Nat} {h : Addr} {k c : Nat} (t : TwoB K H SB b r n b' r' n' h k c) : TwoB K H SB b' r' n' b r n h k c := by
  obtain ⟨S, M, M', hs, h1, h2, h3, h4, h5, h6, h7, h8, h9, h10, h11⟩ := t
  exact ⟨S, M', M, hs, h1, h2, h4, h3, fun a ha z => h5 a z ha, h7, h6, h8, h9, h10, h11⟩
theorem TwoB.ex {K : PySem.W.Frag} {H H' SB : Hp} {b r : Addr} {n : Nat} {b' r' : Addr} {n' : Nat} {h : Addr} {k c : Nat} (t : TwoB K H SB b r n b' r' n' h k c) (e : Ex H H') : TwoB K H' SB b r n b' r' n' h k c := by
  obtain ⟨S, M, M', hs, h1, h2, h3, h4, h5, h6, h7, h8, h9, h10, h11⟩ := t
  have nt : NoTup [] H := fun a ha => by cases ha
  have sn : ∀ {b r n M}, Side K H S b r n k M → ∀ a ∈ M, S a = none := fun s => by
    obtain ⟨O, ns, ds, xs, pre, rfl, B, hist, hr, hrw, hSM, rO, hpl⟩ := s
    exact hSM
  exact ⟨S, M, M', hs, h1, h2.trans e, h3.other (O2 := []) (.of e) (fun a _ => by simp) nt (Ex.refl _) (sn h3) (Nat.le_refl _), h4.other (O2 := []) (.of e) (fun a _ => by simp) nt (Ex.refl _) (sn h4) (Nat.le_refl _), h5, h6, h7, h8, e _ _ h9, h10, h11⟩
theorem TwoB.sb {K : PySem.W.Frag} {H SB : Hp} {b r : Addr} {n : Nat} {b' r' : Addr} {n' : Nat} {h : Addr} {k c : Nat} (t : TwoB K H SB b r n b' r' n' h k c) : Ex SB H := by
  obtain ⟨S, M, M', hs, h1, h2, _⟩ := t
  exact h1.trans h2
theorem Side.none {K : PySem.W.Frag} {H S : Hp} {b r : Addr} {n k : Nat} {M : List Addr} (s : Side K H S b r n k M) : ∀ a ∈ M, S a = none := by
  obtain ⟨O, ns, ds, xs, pre, rfl, B, hist, hr, hrw, hSM, rO, hpl⟩ := s
  exact hSM
theorem upd_both {H H' : Hp} {p : Addr} {o : HO} (e : Ex H H') : Ex (upd H p o) (upd H' p o) := fun a o' h => by
  by_cases z : a = p
  · rw [z, upd_same] at h
    rw [z, upd_same, h]
  · rw [upd_ne z] at h
    rw [upd_ne z]
    exact e a o' h
theorem TwoB.new {K : PySem.W.Frag} {H SB : Hp} {b r : Addr} {n : Nat} {b' r' : Addr} {n' : Nat} {h : Addr} {k c : Nat} {p : Addr} {o : HO} (t : TwoB K H SB b r n b' r' n' h k c) (np : H p = none) : TwoB K (upd H p o) (upd SB p o) b r n b' r' n' h k c := by
  obtain ⟨S, M, M', hs, h1, h2, h3, h4, h5, h6, h7, h8, h9, h10, h11⟩ := t
  have nt : NoTup [] H := fun a ha => by cases ha
  have sp : S p = none := ex_back h2 np
  have k3 : ∀ a ∈ M, (upd S p o) a = none := fun a ha => by rw [upd_ne (fun z => h3.there a ha (by rw [z]; exact np))]; exact h3.none a ha
  have k4 : ∀ a ∈ M', (upd S p o) a = none := fun a ha => by rw [upd_ne (fun z => h4.there a ha (by rw [z]; exact np))]; exact h4.none a ha
  have hp : h ≠ p := fun z => by rw [z, np] at h9; cases h9
  exact ⟨upd S p o, M, M', hs, upd_both h1, upd_both h2, h3.other (O2 := []) (.of (Ex.new np)) (fun a _ => by simp) nt (Ex.new sp) k3 (Nat.le_refl _), h4.other (O2 := []) (.of (Ex.new np)) (fun a _ => by simp) nt (Ex.new sp) k4 (Nat.le_refl _), h5, h6, h7, by rw [upd_ne hp]; exact h8, by rw [upd_ne hp]; exact h9, h10.mono (Ex.new sp), h11⟩
theorem TwoB.weak {K : PySem.W.Frag} {H SB SC : Hp} {b r : Addr} {n : Nat} {b' r' : Addr} {n' : Nat} {h : Addr} {k c : Nat} (t : TwoB K H SB b r n b' r' n' h k c) (e : Ex SC SB) : TwoB K H SC b r n b' r' n' h k c := by
  obtain ⟨S, M, M', hs, h1, h2⟩ := t
  exact ⟨S, M, M', hs, e.trans h1, h2⟩
theorem TwoB.deed {K : PySem.W.Frag} {H SB : Hp} {b r : Addr} {n : Nat} {b' r' : Addr} {n' : Nat} {h : Addr} {k c m : Nat} {g : Int} {Q : VK} {E : XK} (t : TwoB K H SB b r n b' r' n' h k c) (hk : k ≤ 900) (hm : m < 2 ^ 40) (q : ∀ H', TwoB K H' SB b r n b' r' n' h (k + 1) c → Q (.bl true) H') : sp_law_deed K [.ref b, .int (n : Nat), .ref r, .int (m : Nat), .int g] H Q E := by
  obtain ⟨S, M, M', hs, h1, h2, h3, h4, h5, h6, h7, h8, h9, h10, h11⟩ := t
  have th := h4.there
  have ntM := h3.noTup
  obtain ⟨O, ns, ds, xs, pre, rfl, B, hist, hr, hrw, hSM, rO, hpl⟩ := h3
  refine ⟨b, r, O, n, m, g, S, ns, ds, xs, pre, rfl, B, hist, h2, hSM, rO, hr, hrw, by omega, hm, fun H' O' S' ns' ds' xs' pre' o g2 B' hist' eS eH hS' hnew hr' hrw' hpl' => ?_⟩
  have nw : ∀ a, S a = none → H a ≠ none → S' a = none := fun a h h' => (hnew a h).elim id fun z => absurd z h'
  have hM' : ∀ a ∈ M', S' a = none := fun a ha => by
    have hSa : S a = none := by
      obtain ⟨O2, ns2, ds2, xs2, pre2, rfl, B2, hist2, hr2, hrw2, hSM2, rO2, hpl2⟩ := h4
      exact hSM2 a ha
    exact nw a hSa (th a ha)
  have hh : h ∉ r :: O := h6
  have gM : ∀ a ∈ r :: O', a ∈ r :: O ∨ H a = none := fun a ha => by
    rcases List.mem_cons.mp ha with rfl | ha
    · exact .inl (by simp)
    · exact (g2 a ha).imp (List.mem_cons_of_mem _) id
  have ne9 : H h ≠ none := by rw [h9]; exact fun z => nomatch z
  refine q H' ⟨S', r :: O', M', hs, h1.trans eS, eH, ⟨O', ns', ds', xs', pre', rfl, B', hist', hr', hrw', hS', fun z => ?_, by omega⟩, h4.other o (fun a ha z => h5 a z ha) ntM eS hM' (by omega), fun a ha z => ?_, fun z => ?_, h7, nw h h8 ne9, o.keep _ _ h9 hh, h10.mono eS, h11⟩
  · exact (g2 r z).elim rO fun q => by rw [hr] at q; cases q
  · exact (gM a ha).elim (fun w => h5 a w z) fun w => th a z w
  · exact (gM h z).elim hh ne9
theorem TwoB.seen {K : PySem.W.Frag} {H SB : Hp} {b r : Addr} {n : Nat} {b' r' : Addr} {n' : Nat} {h : Addr} {k c m : Nat} {Q : VK} {E : XK} (t : TwoB K H SB b r n b' r' n' h k c) (hc : c ≤ 10000) (hm : m < 2 ^ 40) (q : ∀ H', TwoB K H' SB b r n b' r' n' h k (c + 4) → Q (.bl true) H') : sp_law_seen K [.ref b, .ref r, .int (m : Nat), .ref h] H Q E := by
  obtain ⟨S, M, M', hs, h1, h2, h3, h4, h5, h6, h7, h8, h9, h10, h11⟩ := t
  have s3 := h3
  have t3 := h3.there
  have t4 := h4.there
  obtain ⟨O, ns, ds, xs, pre, rfl, B, hist, hr, hrw, hSM, rO, hpl⟩ := h3
  have hSM' : ∀ a ∈ M', S a = none := by
    obtain ⟨O2, ns2, ds2, xs2, pre2, rfl, B2, hist2, hr2, hrw2, hSM2, rO2, hpl2⟩ := h4
    exact hSM2
  have hxl : xs.length = ds.length + 1 := by
    have e1 := hrw.len
    have e2 := hist.len
    omega
  obtain ⟨zs, a, hxs, hzs, _, ha⟩ := hrw.split
  have hh : h ∉ r :: O := h6
  have ah : a ≠ h := fun z => by rw [z, h8] at ha; cases ha
  refine ⟨b, r, h, O, n, m, ns, ds, xs, hs, rfl, B, fun z => hh (List.mem_cons_of_mem _ z), .inl (.inl hr), fun z => hh (by rw [z]; simp), hxl, ⟨a, by rw [hxs]; simp, h2 _ _ ha, ah⟩, h9, by omega, hm, fun H' ys o fh hyl hyp => ?_⟩
  -- what is new stands
  have nth : NoTup [h] H := fun a ha xs => by rw [List.mem_singleton.mp ha, h9]; exact fun z => nomatch z
  let S' : Hp := fun a => if a ∈ h :: (r :: O ++ M') then none else H' a
  have hS' : ∀ a, a ∈ h :: (r :: O ++ M') → S' a = none := fun a ha => if_pos ha
  have eS : Ex S S' := fun a o' h' => by
    have hn : a ∉ h :: (r :: O ++ M') := fun z => by
      rcases List.mem_cons.mp z with z | z
      · rw [z, h8] at h'; cases h'
      · rcases List.mem_append.mp z with z | z
        · rw [hSM a z] at h'; cases h'
        · rw [hSM' a z] at h'; cases h'
    show (if _ then _ else _) = _
    rw [if_neg hn]
    exact o.keep a o' (h2 _ _ h') fun z => hn (List.mem_cons.mpr (.inl (List.mem_singleton.mp z)))
  have eH : Ex S' H' := fun a o' h' => by
    by_cases hn : a ∈ h :: (r :: O ++ M')
    · rw [hS' a hn] at h'; cases h'
    · have : S' a = H' a := if_neg hn
      rw [← this]
      exact h'
  have new : ∀ a o', H a = none → H' a = some o' → S' a = some o' := fun a o' hn h' => by
    have : S' a = H' a := if_neg fun z => by
      rcases List.mem_cons.mp z with z | z
      · rw [z, h9] at hn; cases hn
      · rcases List.mem_append.mp z with z | z
        · exact t3 a z hn
        · exact t4 a z hn
    rw [this]
    exact h'
  refine q H' ⟨S', r :: O, M', hs ++ ys, h1.trans eS, eH, s3.other o (fun a ha => by rw [List.mem_singleton]; rintro rfl; exact hh ha) nth eS (fun a ha => hS' a (List.mem_cons_of_mem _ (List.mem_append_left _ ha))) (Nat.le_refl _), h4.other o (fun a ha => by rw [List.mem_singleton]; rintro rfl; exact h7 ha) nth eS (fun a ha => hS' a (List.mem_cons_of_mem _ (List.mem_append_right _ ha))) (Nat.le_refl _), h5, h6, h7, hS' h (by simp), fh, fun x hx => ?_, by rw [List.length_append]; omega⟩
  rcases List.mem_append.mp hx with hx | hx
  · exact h10.mono eS x hx
  · obtain ⟨t, u, v, ns', g1, g2, g3, g4, g5, g6, g7⟩ := hyp x hx
    exact ⟨t, u, v, ns', g1, rfl, rfl, rfl, new _ _ g2 g5, new _ _ g3 g6, new _ _ g4 g7⟩
/-- i books made, D: their list -/
def BooksP (K : PySem.W.Frag) (G : Hp) (n0 n1 : Nat) (D : Addr) (i : Nat) (H' : Hp) (acc : List V) : Prop := Ex G H' ∧ G D = none ∧ H' D = some (.lst acc) ∧ ((i = 0 ∧ acc = []) ∨
  (i = 1 ∧ ∃ b0 O0, acc = [.ref b0] ∧ BookAt K H' b0 O0 n0 (List.replicate (2 ^ n0) 0) [] ∧ ∀ a ∈ O0, G a = none ∧ a ≠ D) ∨
  (i = 2 ∧ ∃ b0 O0 b1 O1, acc = [.ref b0, .ref b1] ∧ BookAt K H' b0 O0 n0 (List.replicate (2 ^ n0) 0) [] ∧ BookAt K H' b1 O1 n1 (List.replicate (2 ^ n1) 0) [] ∧ (∀ a ∈ O0, G a = none ∧ a ≠ D ∧ a ∉ O1) ∧ ∀ a ∈ O1, G a = none ∧ a ≠ D))
def RowsP (G : Hp) (n0 n1 : Nat) (D : Addr) (i : Nat) (H' : Hp) (acc : List V) : Prop := Ex G H' ∧ G D = none ∧ H' D = some (.lst acc) ∧ ((i = 0 ∧ acc = []) ∨
  (i = 1 ∧ ∃ r0 u0, acc = [.ref r0] ∧ H' r0 = some (.lst [.ref u0]) ∧ H' u0 = some (.lst ((List.replicate (2 ^ n0) (0 : Int)).map V.int)) ∧ G r0 = none ∧ G u0 = none ∧ r0 ≠ D ∧ u0 ≠ D ∧ u0 ≠ r0) ∨
  (i = 2 ∧ ∃ r0 u0 r1 u1, acc = [.ref r0, .ref r1] ∧ H' r0 = some (.lst [.ref u0]) ∧ H' u0 = some (.lst ((List.replicate (2 ^ n0) (0 : Int)).map V.int)) ∧ H' r1 = some (.lst [.ref u1]) ∧ H' u1 = some (.lst ((List.replicate (2 ^ n1) (0 : Int)).map V.int)) ∧ G r0 = none ∧ G u0 = none ∧ G r1 = none ∧ G u1 = none ∧ r0 ≠ D ∧ u0 ≠ D ∧ u0 ≠ r0 ∧ r1 ≠ D ∧ u1 ≠ D ∧ u1 ≠ r1 ∧ u0 ≠ r1 ∧ u1 ≠ r0 ∧ r0 ≠ r1))
def sp_law (K : PySem.W.Frag) : Sp := fun vs H Q _ => ∃ (a : Addr) (ns : List Int), vs = [.ref a] ∧ SqL K H a (ns.map V.int) ∧ ns.length ≤ 63 ∧ ∀ H', Q (.bl true) H'
theorem ok_law (T : Txt K mg) (h_Book___init__ : HasI P w K mg base 5 "Book" ["self", "many"] (sp_Book___init__ K)) (h_law_cell : Has P w K mg base 1 "_law_cell" ["_law_script", "_law_k"] (sp_law_cell K)) (h_law_deed : Has P w K mg base 6 "_law_deed" ["_law_book", "_law_many", "_law_rows", "_law_number", "_law_great"] (sp_law_deed K)) (h_law_kind : Has P w K mg base 1 "_law_kind" ["_law_caught_here"] (sp_law_kind K)) (h_law_made : Has P w K mg base 7 "_law_made" ["_law_many"] (sp_law_made K)) (h_law_mixed : Has P w K mg base 2 "_law_mixed" ["_law_script", "_law_k"] (sp_law_mixed K)) (h_law_seen : Has P w K mg base 5 "_law_seen" ["_law_book", "_law_rows", "_law_number", "_law_held"] (sp_law_seen K)) {f : Addr} {fd : FuncData} (F : FunD K "law" "law" (defArgs s_law) (defBody s_law) (defScope s_law) [] [] f fd) : FnOk P w K mg base (L2.CX P w) 8 f fd ["_law_script"] (sp_law K) := by
  refine FunD.ok F sc_law (fun vs H Q E h => ?_) (fun cdv A outer s H vs Q E hr h => ⟨_, (pss_cons (ps_set (i := 1) sc_law.nd rfl (Or.inl rfl) (pe_lst (pa_cons (pe_op op_mod (pe_has h_law_mixed (hr.mono (by decide)) rfl passB (pa_cons (pv 0) (pa_cons pe_int pa_nil))) pe_int) (pa_cons (pe_op op_mod (pe_has h_law_mixed (hr.mono (by decide)) rfl passB (pa_cons (pv 0) (pa_cons pe_int pa_nil))) pe_int) pa_nil))))
      (pss_cons (ps_setLc (i := 2) (own := [("_law_many", 3)]) (g := gName 3) rfl sc_law.nd rfl rfl (sw_true rfl rfl rfl (by decide +kernel)) (k_pil K (pv 1)) (blkOk_by (own := [("_law_many", 3)]) (N := N_law) (sc := defScope s_law) (by decide +kernel)) (fun _ _ _ _ _ => (pg_name (i := 3) sc_law.nd rfl (Or.inl rfl))) (fun _ _ _ _ _ => pts_nil) (fun _ _ _ _ _ => (k_make K h_Book___init__ (hr.mono (by decide)) rfl T.gB passL (pa_cons (pv 3) pa_nil))))
      (pss_cons (ps_setLc (i := 4) (own := [("_law_many", 3)]) (g := gName 3) rfl sc_law.nd rfl rfl (sw_true rfl rfl rfl (by decide +kernel)) (k_pil K (pv 1)) (blkOk_by (own := [("_law_many", 3)]) (N := N_law) (sc := defScope s_law) (by decide +kernel)) (fun _ _ _ _ _ => (pg_name (i := 3) sc_law.nd rfl (Or.inl rfl))) (fun _ _ _ _ _ => pts_nil) (fun _ _ _ _ _ => (pe_lst (pa_cons (pe_op op_rep (pe_lst (pa_cons pe_int pa_nil)) (pe_op op_sh pe_int (pv 3))) pa_nil))))
      (pss_cons (ps_set (i := 5) sc_law.nd rfl (Or.inl rfl) (pe_lst pa_nil))
      (pss_cons (ps_set (i := 6) sc_law.nd rfl (Or.inl rfl) (pe_ix (k_ixl K) (pe_lst (pa_cons (pe_un un_neg pe_int) (pa_cons pe_int (pa_cons pe_non (pa_cons pe_bl (pa_cons pe_str (pa_cons (pe_lst (pa_cons pe_int pa_nil)) (pa_cons (pe_op op_pw pe_int pe_int) pa_nil)))))))) (pe_op op_mod (pe_op op_fdiv (pe_has h_law_mixed (hr.mono (by decide)) rfl passB (pa_cons (pv 0) (pa_cons pe_int pa_nil))) pe_int) pe_int) (fun _ _ => rfl)))
      (pss_cons (ps_if (pt_cmpR (k_neD K hr.units) (pe_has h_law_kind (hr.mono (by decide)) rfl passB (pa_cons (pe_has h_law_made (hr.mono (by decide)) rfl passB (pa_cons (pv 6) pa_nil)) pa_nil)) (pe_lst (pa_cons pe_str (pa_cons pe_str pa_nil))) (nomark _))
      (pss_one (ps_ret pe_bl)) pss_nil)
      (pss_cons (ps_for (passes_of rfl) rfl (pi_range1 rfl T.n_range (pa_cons (pe_callB (id := "min") (call_min2 rfl) (by rfl) T.n_min (by decide +kernel) (pa_cons (pe_callB (id := "len") (k_len K) (by rfl) T.n_len (by decide +kernel) (pa_cons (pv 0) pa_nil)) (pa_cons pe_int pa_nil))) pa_nil)) (pg_name (i := 7) sc_law.nd rfl (Or.inl rfl))
      (pss_cons (ps_set (i := 8) sc_law.nd rfl (Or.inl rfl) (pe_has h_law_mixed (hr.mono (by decide)) rfl passB (pa_cons (pv 0) (pa_cons (pe_op op_add (pv 7) pe_int) pa_nil))))
      (pss_cons (ps_set (i := 9) sc_law.nd rfl (Or.inl rfl) (pe_op op_fdiv (pe_op op_mod (pv 8) pe_int) pe_int))
      (pss_cons (ps_set (i := 10) sc_law.nd rfl (Or.inl rfl) (pe_has h_law_cell (hr.mono (by decide)) rfl passB (pa_cons (pv 0) (pa_cons (pv 7) pa_nil))))
      (pss_cons (ps_if (pt_not (pt_val (pe_has h_law_deed (hr.mono (by decide)) rfl passB (pa_cons (pe_ix (k_ixl K) (pv 2) (pv 9) (fun _ _ => rfl)) (pa_cons (pe_ix (k_ixl K) (pv 1) (pv 9) (fun _ _ => rfl)) (pa_cons (pe_ix (k_ixl K) (pv 4) (pv 9) (fun _ _ => rfl)) (pa_cons (pe_op op_fdiv (pv 8) pe_int) (pa_cons (pv 10) pa_nil))))))))
      (pss_one (ps_ret pe_bl)) pss_nil)
      (pss_one (ps_for (passes_of rfl) rfl (k_pit K (pe_tup (pa_cons (pv 9) (pa_cons (pe_op op_sub pe_int (pv 9)) pa_nil)))) (pg_name (i := 11) sc_law.nd rfl (Or.inl rfl))
      (pss_one (ps_if (pt_not (pt_val (pe_has h_law_seen (hr.mono (by decide)) rfl passB (pa_cons (pe_ix (k_ixl K) (pv 2) (pv 11) (fun _ _ => rfl)) (pa_cons (pe_ix (k_ixl K) (pv 4) (pv 11) (fun _ _ => rfl)) (pa_cons (pe_op op_fdiv (pv 8) (pe_op op_add pe_int (pv 11))) (pa_cons (pv 5) pa_nil)))))))
      (pss_one (ps_ret pe_bl)) pss_nil)))))))))
      (pss_cons (ps_for (passes_of rfl) rfl (pi_range1 rfl T.n_range (pa_cons pe_int pa_nil)) (pg_name (i := 11) sc_law.nd rfl (Or.inl rfl))
      (pss_one (ps_for (passes_of rfl) rfl (pi_range1 rfl T.n_range (pa_cons pe_int pa_nil)) (pg_name (i := 12) sc_law.nd rfl (Or.inl rfl))
      (pss_one (ps_if (pt_not (pt_val (pe_has h_law_seen (hr.mono (by decide)) rfl passB (pa_cons (pe_ix (k_ixl K) (pv 2) (pv 11) (fun _ _ => rfl)) (pa_cons (pe_ix (k_ixl K) (pv 4) (pv 11) (fun _ _ => rfl)) (pa_cons (pv 12) (pa_cons (pv 5) pa_nil)))))))
      (pss_one (ps_ret pe_bl)) pss_nil)))))
      (pss_one (ps_ret (pe_cmpR (k_eqD K hr.units) (pe_lc (own := [("_law_pair", 13)]) (g := gName 13) rfl sc_law.nd (k_pil K (pv 5)) (blkOk_by (own := [("_law_pair", 13)]) (N := N_law) (sc := defScope s_law) (by decide +kernel)) (fun _ _ _ _ _ => (pg_name (i := 13) sc_law.nd rfl (Or.inl rfl))) (fun _ _ _ _ _ => (pts_one (pt_cmpR (k_neD K hr.units) (pe_ix (k_ixt K) (pv 13) pe_int (fun _ _ => rfl)) (pe_ix (k_ixt K) (pv 13) pe_int (fun _ _ => rfl)) (nomark _)))) (fun _ _ _ _ _ => (pv 13))) (pe_lst pa_nil) (nomark _)))))))))))), ?_⟩)
  · obtain ⟨a, ns, rfl, _⟩ := h
    rfl
  · obtain ⟨a, ns, rfl, hA, hz, q⟩ := h
    simp only [L2.start, N_law, List.map_cons, List.map_nil, List.length_cons, List.length_nil, List.replicate_succ, List.replicate_zero, Nat.reduceAdd, Nat.reduceSub, List.cons_append, List.nil_append]
    refine seq_cut2 fun R1 h1 => ?_
    walk_at "rl"
    obtain ⟨n0, hn06, hn0⟩ : ∃ n : Nat, mixedM ns 0 % 6 = (n : Int) ∧ n ≤ 5 := ⟨(mixedM ns 0 % 6).toNat, by have := mixedM_nn ns 0; omega, by omega⟩
    obtain ⟨n1, hn16, hn1⟩ : ∃ n : Nat, mixedM ns 1 % 4 = (n : Int) ∧ n ≤ 5 := ⟨(mixedM ns 1 % 4).toNat, by have := mixedM_nn ns 1; omega, by omega⟩
    refine ⟨a, ns, 0, rfl, hA, by decide, fun G1 e1 => ⟨_, rfl, by decide, ?_⟩⟩
    rw [hn06]
    refine ⟨a, ns, 1, rfl, ex_l e1 hA, by decide, fun G2 x2 => ⟨_, rfl, by decide, ?_⟩⟩
    rw [hn16]
    have e2 := e1.trans x2
    refine ⟨sz_of (by simp), ?_⟩
    intro p3 n3; generalize hG3 : upd _ p3 _ = G3; have x3 := upd_ex hG3 n3; have f3 := upd_at hG3; clear hG3; have e3 := e2.trans x3
    have hl3 : SqL K G3 p3 ([(n0 : Int), (n1 : Int)].map V.int) := .inl (.inl f3)
    refine ⟨⟨_, .inl (.inl f3)⟩, ?_⟩
    refine wl_each (K := K) [(n0 : Int), (n1 : Int)] (BooksP K G3 n0 n1) (by simp) (fun _ => rfl) (fun D i H' acc p => ex_l p.1 hl3) (fun D i H' acc p => ?_) (fun D hD => ⟨Ex.new hD, hD, upd_same, .inl ⟨rfl, rfl⟩⟩) (fun D i n H' acc hi p Q2 q2 => ?_) (fun p4 G4 acc p => ?_)
    · rcases p.2.2.2 with ⟨rfl, rfl⟩ | ⟨rfl, _, _, rfl, _⟩ | ⟨rfl, _, _, _, _, rfl, _⟩ <;> rfl
    · obtain ⟨e, hD, hd, h⟩ := p
      walk_at "rd"
      intro x dx nx nd hne
      have y1 := Ex.new (o := HO.own x) nd
      have nx2 : (upd H' dx (.own x)) x = none := by rw [upd_ne (fun z => hne z.symm)]; exact nx
      have y2 := Ex.new (o := HO.ins (He.ga K "Book") dx []) nx2
      have made : ∀ m : Nat, m ≤ 5 → n = (m : Int) → (∀ H4 O, Ex H' H4 → BookAt K H4 x O m (List.replicate (2 ^ m) 0) [] → (∀ a ∈ O, H' a = none) → Q2 (.ref x) H4) → sp_Book___init__ K [.ref x, .int n] (upd (upd H' dx (.own x)) x (.ins (He.ga K "Book") dx [])) (fun v H2 => v = .non ∧ Q2 (.ref x) H2) E0 := fun m hm hnm q3 => by
        subst hnm
        refine ⟨x, dx, _, rfl, upd_same, El.int _, .inl ⟨m, rfl, hm, fun H4 O o g B => ⟨rfl, q3 H4 O (fun a o' h => ?_) B (fun a ha => ?_)⟩⟩⟩
        · exact o.keep a o' ((y1.trans y2) a o' h) (by rw [List.mem_singleton]; rintro rfl; rw [nx] at h; cases h)
        · rcases g a ha with z | z
          · rw [List.mem_singleton.mp z]; exact nx
          · exact ex_back (y1.trans y2) z
      have keepB : ∀ {b O m H4 l}, BookAt K H4 b O m (List.replicate (2 ^ m) 0) [] → H4 D = some (.lst acc) → (∀ a ∈ O, a ≠ D) → BookAt K (upd H4 D (.lst l)) b O m (List.replicate (2 ^ m) 0) [] := fun B hd4 hO => B.other (O2 := [D]) ((ExO.refl [D] _).upd (.inl (by simp))) (fun a ha => by rw [List.mem_singleton]; exact hO a ha) (fun a ha xs => by rw [List.mem_singleton.mp ha, hd4]; exact fun z => nomatch z)
      have neD : ∀ {a}, H' a = none → a ≠ D := fun h z => by rw [z, hd] at h; cases h
      rcases h with ⟨rfl, rfl⟩ | ⟨rfl, b0, O0, rfl, B0, hO0⟩ | ⟨rfl, _⟩
      · have hn : n = (n0 : Int) := (Option.some.inj hi).symm
        refine made n0 hn0 hn fun H4 O y B hO => q2 _ H4 (y _ _ hd) ⟨ex_mut (e.trans y) hD, hD, upd_same, .inr (.inl ⟨rfl, x, O, rfl, keepB B (y _ _ hd) fun a ha => neD (hO a ha), fun a ha => ⟨ex_back e (hO a ha), neD (hO a ha)⟩⟩)⟩
      · have hn : n = (n1 : Int) := (Option.some.inj hi).symm
        refine made n1 hn1 hn fun H4 O y B hO => q2 _ H4 (y _ _ hd) ⟨ex_mut (e.trans y) hD, hD, upd_same, .inr (.inr ⟨rfl, b0, O0, x, O, rfl, keepB (B0.mono y) (y _ _ hd) fun a ha => (hO0 a ha).2, keepB B (y _ _ hd) fun a ha => neD (hO a ha), fun a ha => ⟨(hO0 a ha).1, (hO0 a ha).2, fun z => B0.there a ha (hO a z)⟩, fun a ha => ⟨ex_back e (hO a ha), neD (hO a ha)⟩⟩)⟩
      · cases hi
    obtain ⟨x4, n4, f4, h⟩ := p
    rcases h with ⟨h, _⟩ | ⟨h, _⟩ | ⟨_, b0, O0, b1, O1, rfl, B0, B1, hO0, hO1⟩
    · cases h
    · cases h
    have e4 := e3.trans x4
    subst h1
    refine seq_cut1 fun R2 h2 => ?_
    walk_at "rl"
    have hl4 : SqL K G4 p3 ([(n0 : Int), (n1 : Int)].map V.int) := ex_l x4 hl3
    refine ⟨⟨_, hl4⟩, ?_⟩
    refine wl_each (K := K) [(n0 : Int), (n1 : Int)] (RowsP G4 n0 n1) (by simp) (fun _ => rfl) (fun D i H' acc p => ex_l p.1 hl4) (fun D i H' acc p => ?_) (fun D hD => ⟨Ex.new hD, hD, upd_same, .inl ⟨rfl, rfl⟩⟩) (fun D i n H' acc hi p Q2 q2 => ?_) (fun p5 G5 acc p => ?_)
    · rcases p.2.2.2 with ⟨rfl, rfl⟩ | ⟨rfl, _, _, rfl, _⟩ | ⟨rfl, _, _, _, _, rfl, _⟩ <;> rfl
    · obtain ⟨e, hD, hd, h⟩ := p
      have made : ∀ m : Nat, m ≤ 5 → n = (m : Int) → (∀ H4 r u, Ex H' H4 → H' r = none → H' u = none → u ≠ r → H4 r = some (.lst [.ref u]) → H4 u = some (.lst ((List.replicate (2 ^ m) (0 : Int)).map V.int)) → Q2 (.ref r) H4) → tLst (tCons (tOp rRep (tLst (tCons (tC (V.int 0)) tNil)) (tOp (rI CPow fun i j => V.int (i * ((2 ^ j.toNat : Nat) : Int))) (tC (V.int 1)) (tVar 3))) tNil) ((wipe [some (V.ref a), some (V.ref p3), some (V.ref p4), none, none, none, none, none, none, none, none, none, none, none] [3]).set 3 (some (V.int n))) H' Q2 := fun m hm hnm q3 => by
        subst hnm
        have h32 : 2 ^ m ≤ 32 := Nat.pow_le_pow_right (n := 2) (by decide) hm
        walk_at "rd"
        refine ⟨sz_of (by simp), fun o no => ⟨cpow1 (by omega), _, upd_same, ?_⟩⟩
        generalize hN : 2 ^ m = N at *
        have y1 := Ex.new (o := HO.lst [V.int 0]) no
        refine ⟨by omega, by omega, sz_of (by simp; omega), fun u nu => ⟨sz_of (by simp), fun r nr => ?_⟩⟩
        have y2 := Ex.new (o := HO.lst (List.replicate N [V.int 0]).flatten) nu
        have y3 := Ex.new (o := HO.lst [V.ref u]) nr
        have ur : u ≠ r := fun z => by rw [← z, upd_same] at nr; cases nr
        refine q3 _ r u ((y1.trans y2).trans y3) (ex_back (y1.trans y2) nr) (ex_back y1 nu) ur upd_same ?_
        rw [upd_ne ur, upd_same, rep0]
      have neD : ∀ {a}, H' a = none → a ≠ D := fun h z => by rw [z, hd] at h; cases h
      rcases h with ⟨rfl, rfl⟩ | ⟨rfl, r0, u0, rfl, hr0, hu0, gr0, gu0, rD0, uD0, ur0⟩ | ⟨rfl, _⟩
      · have hn : n = (n0 : Int) := (Option.some.inj hi).symm
        refine made n0 hn0 hn fun H4 r u y hr hu ur h1 h2 => q2 _ H4 (y _ _ hd) ⟨ex_mut (e.trans y) hD, hD, upd_same, .inr (.inl ⟨rfl, r, u, rfl, by rw [upd_ne (neD hr)]; exact h1, by rw [upd_ne (neD hu)]; exact h2, ex_back e hr, ex_back e hu, neD hr, neD hu, ur⟩)⟩
      · have hn : n = (n1 : Int) := (Option.some.inj hi).symm
        refine made n1 hn1 hn fun H4 r u y hr hu ur h1 h2 => q2 _ H4 (y _ _ hd) ⟨ex_mut (e.trans y) hD, hD, upd_same, .inr (.inr ⟨rfl, r0, u0, r, u, rfl, by rw [upd_ne rD0]; exact y _ _ hr0, by rw [upd_ne uD0]; exact y _ _ hu0, by rw [upd_ne (neD hr)]; exact h1, by rw [upd_ne (neD hu)]; exact h2, gr0, gu0, ex_back e hr, ex_back e hu, rD0, uD0, ur0, neD hr, neD hu, ur, (fun z => by rw [← z, hu0] at hr; cases hr), (fun z => by rw [z, hr0] at hu; cases hu), (fun z => by rw [← z, hr0] at hr; cases hr)⟩)⟩
      · cases hi
    obtain ⟨x5, n5, f5, h⟩ := p
    rcases h with ⟨h, _⟩ | ⟨h, _⟩ | ⟨_, r0, u0, r1, u1, rfl, hr0, hu0, hr1, hu1, gr0, gu0, gr1, gu1, rD0, uD0, ur0, rD1, uD1, ur1, u0r1, u1r0, r01⟩
    · cases h
    · cases h
    have e5 := e4.trans x5
    subst h2
    refine seq_cut2 fun R3 h3 => ?_
    walk_at "rl"
    refine ⟨by decide, ?_⟩
    intro p6 n6; generalize hG6 : upd _ p6 _ = G6; have x6 := upd_ex hG6 n6; have f6 := upd_at hG6; clear hG6; have e6 := e5.trans x6
    have n65 : G5 p6 = none := n6
    -- what stays
    have w6 : G4 p6 = none := ex_back x5 n65
    let M : List Addr := (r0 :: O0) ++ ((r1 :: O1) ++ [p6])
    let S : Hp := fun a => if a ∈ M then none else G6 a
    have inM : ∀ {z}, z ∈ M → (z = r0 ∨ z ∈ O0) ∨ ((z = r1 ∨ z ∈ O1) ∨ z = p6) := fun hz => by
      rcases List.mem_append.mp hz with h | h
      · exact .inl (List.mem_cons.mp h)
      · rcases List.mem_append.mp h with h | h
        · exact .inr (.inl (List.mem_cons.mp h))
        · exact .inr (.inr (List.mem_singleton.mp h))
    have sM : ∀ z, z ∈ M → S z = none := fun z hz => if_pos hz
    have sN : ∀ z, z ∉ M → S z = G6 z := fun z hz => if_neg hz
    have eS : Ex S G6 := fun z o hz => by
      by_cases hm : z ∈ M
      · rw [sM z hm] at hz; cases hz
      · rw [sN z hm] at hz; exact hz
    have M4 : ∀ {z}, z ∈ M → G3 z = none := fun hz => by
      rcases inM hz with (rfl | h) | ((rfl | h) | rfl)
      · exact ex_back x4 gr0
      · exact (hO0 _ h).1
      · exact ex_back x4 gr1
      · exact (hO1 _ h).1
      · exact ex_back x4 w6
    have e3S : Ex G3 S := fun z o hz => by
      have hm : z ∉ M := fun q => by rw [M4 q] at hz; cases hz
      rw [sN z hm]
      exact ((x4.trans x5).trans x6) _ _ hz
    have S4 : S p4 = some (.lst [.ref b0, .ref b1]) := by
      have hm : p4 ∉ M := fun q => by
        rcases inM q with (h | h) | ((h | h) | h)
        · rw [h, gr0] at f4; cases f4
        · exact (hO0 _ h).2.1 rfl
        · rw [h, gr1] at f4; cases f4
        · exact (hO1 _ h).2 rfl
        · rw [h, w6] at f4; cases f4
      rw [sN _ hm]
      exact (x5.trans x6) _ _ f4
    have S5 : S p5 = some (.lst [.ref r0, .ref r1]) := by
      have hm : p5 ∉ M := fun q => by
        rcases inM q with (h | h) | ((h | h) | h)
        · exact rD0 h.symm
        · exact B0.there _ h n5
        · exact rD1 h.symm
        · exact B1.there _ h n5
        · rw [h, n65] at f5; cases f5
      rw [sN _ hm]
      exact x6 _ _ f5
    have Su : ∀ u, G4 u = none → u ≠ r0 → u ≠ r1 → G5 u ≠ none → S u = G6 u := fun u h1 h2 h3 h4 => sN _ fun q => by
      rcases inM q with (h | h) | ((h | h) | h)
      · exact h2 h
      · exact B0.there _ h h1
      · exact h3 h
      · exact B1.there _ h h1
      · exact h4 (by rw [h]; exact n65)
    have Su0 : S u0 = some (.lst ((List.replicate (2 ^ n0) (0 : Int)).map V.int)) := by rw [Su u0 gu0 ur0 u0r1 (by rw [hu0]; exact fun z => nomatch z)]; exact x6 _ _ hu0
    have Su1 : S u1 = some (.lst ((List.replicate (2 ^ n1) (0 : Int)).map V.int)) := by rw [Su u1 gu1 u1r0 ur1 (by rw [hu1]; exact fun z => nomatch z)]; exact x6 _ _ hu1
    have m0 : ∀ z, z ∈ r0 :: O0 → z ∈ M := fun z hz => List.mem_append_left _ hz
    have m1 : ∀ z, z ∈ r1 :: O1 → z ∈ M := fun z hz => List.mem_append_right _ (List.mem_append_left _ hz)
    have mh : p6 ∈ M := List.mem_append_right _ (List.mem_append_right _ (by simp))
    have st0 : TwoB K G6 S b0 r0 n0 b1 r1 n1 p6 0 0 := by
      refine ⟨S, r0 :: O0, r1 :: O1, [], Ex.refl _, eS, ⟨O0, _, [], [.ref u0], [], rfl, (B0.mono x5).mono x6, .nil List.length_replicate, x6 _ _ hr0, .cons ⟨u0, rfl, rfl, Su0⟩ .nil, fun z hz => sM z (m0 z hz), fun z => B0.there _ z gr0, Nat.le_refl 0⟩, ⟨O1, _, [], [.ref u1], [], rfl, (B1.mono x5).mono x6, .nil List.length_replicate, x6 _ _ hr1, .cons ⟨u1, rfl, rfl, Su1⟩ .nil, fun z hz => sM z (m1 z hz), fun z => B1.there _ z gr1, Nat.le_refl 0⟩, fun z hz hz' => ?_, fun z => ?_, fun z => ?_, sM _ mh, f6, (fun x hx => by cases hx), Nat.le_refl 0⟩
      · rcases List.mem_cons.mp hz with rfl | hz <;> rcases List.mem_cons.mp hz' with h | hz'
        · exact r01 h
        · exact B1.there _ hz' gr0
        · rw [h] at hz; exact B0.there _ hz gr1
        · exact (hO0 _ hz).2.2 hz'
      · rcases List.mem_cons.mp z with h | h
        · rw [h, hr0] at n65; cases n65
        · exact B0.there _ h w6
      · rcases List.mem_cons.mp z with h | h
        · rw [h, hr1] at n65; cases n65
        · exact B1.there _ h w6
    have aS : SqL K S a (ns.map V.int) := ex_l (e3.trans e3S) hA
    have S3 : S p3 = some (.lst ([(n0 : Int), (n1 : Int)].map V.int)) := e3S _ _ f3
    refine ⟨sz_of (by simp), ?_⟩
    intro p7 n7; generalize hG7 : upd _ p7 _ = G7; have x7 := upd_ex hG7 n7; have f7 := upd_at hG7; clear hG7; have e7 := e6.trans x7
    refine ⟨⟨by decide, by decide +kernel⟩, sz_of (by simp), ?_⟩
    intro p8 n8; generalize hG8 : upd _ p8 _ = G8; have x8 := upd_ex hG8 n8; have f8 := upd_at hG8; clear hG8; have e8 := e7.trans x8
    have hG := ex_l e8 hA
    refine ⟨a, ns, 0, rfl, hG, by decide, fun G9 x9 => ⟨_, rfl, ⟨by decide, by decide⟩, by decide, _, .inl (.inl (x9 _ _ f8)), ?_⟩⟩
    have h20 : (2000 : Int) ≤ 10 ^ Int.toNat 20 := by decide +kernel
    have hi2 : ∀ (i k : Int), k < i → amg (.int i) 0 k = false := fun i k h => by
      show (decide (0 ≤ i) && decide (i ≤ k)) = false
      rw [decide_eq_false (p := i ≤ k) (by omega), Bool.and_false]
    have hm1 : ∀ k : Int, amg (.int (-1)) 0 k = false := fun k => by unfold amg; simp
    have hw : ∃ w, atI [V.int (-1), V.int 11, V.non, V.bl true, V.str "2", V.ref p7, V.int (10 ^ Int.toNat 20)] (mixedM ns 0 / 6 % 7) = some w ∧ El K G9 w ∧ amg w 0 10 = false := by
      have h4 : (mixedM ns 0 / 6 % 7).toNat < 7 ∧ mixedM ns 0 / 6 % 7 = (((mixedM ns 0 / 6 % 7).toNat : Nat) : Int) := by
        have := mixedM_nn ns 0
        omega
      obtain ⟨h4, e4⟩ := h4
      rw [e4]
      generalize (mixedM ns 0 / 6 % 7).toNat = z at h4
      match z, h4 with
      | 0, _ => exact ⟨_, atI_nat rfl, .int _, hm1 _⟩
      | 1, _ => exact ⟨_, atI_nat (j := 1) rfl, .int _, hi2 _ _ (by decide)⟩
      | 2, _ => exact ⟨_, atI_nat (j := 2) rfl, ⟨.non, .non, rfl⟩, rfl⟩
      | 3, _ => exact ⟨_, atI_nat (j := 3) rfl, ⟨.bl, .bl _, rfl⟩, rfl⟩
      | 4, _ => exact ⟨_, atI_nat (j := 4) rfl, ⟨.str, .str _, rfl⟩, rfl⟩
      | 5, _ => exact ⟨_, atI_nat (j := 5) rfl, ⟨.lst, .lst (.inl (.inl ((x8.trans x9) _ _ f7))), rfl⟩, rfl⟩
      | 6, _ => exact ⟨_, atI_nat (j := 6) rfl, .int _, hi2 _ _ (by generalize (10 : Int) ^ Int.toNat 20 = t at h20; omega)⟩
    obtain ⟨od, ho1, ho2, ho3⟩ := hw
    refine ⟨_, ho1, ?_⟩
    clear ho1
    have st9 := st0.ex ((x7.trans x8).trans x9)
    have e9 := e8.trans x9
    subst h3
    refine seq_cut1 fun R4 h4 => ?_
    walk_at "rl"
    refine ⟨od, rfl, ho2, ho3, fun c1 G10 nc1 x10 hc1 => ⟨_, rfl, .inr ⟨c1, "BadCount", rfl, by decide, hc1, fun w1 G11 nw1 x11 hw1 => ?_⟩⟩⟩
    refine kind_ok (by decide +kernel) (by decide +kernel) hw1 fun G12 x12 => ⟨_, rfl, iteF ?_⟩
    have st12 := st9.ex (x10.trans (x11.trans x12))
    subst h4
    refine seq_cut1 fun R5 h5 => ?_
    walk_at "rl"
    have pick : ∀ w : Nat, w < 2 → ∃ b r n b' r' n', atI [V.ref b0, V.ref b1] (w : Int) = some (.ref b) ∧ atI ([(n0 : Int), (n1 : Int)].map V.int) (w : Int) = some (.int ((n : Nat) : Int)) ∧ atI [V.ref r0, V.ref r1] (w : Int) = some (.ref r) ∧ atI [V.ref b0, V.ref b1] (1 - (w : Int)) = some (.ref b') ∧ atI [V.ref r0, V.ref r1] (1 - (w : Int)) = some (.ref r') ∧
        (∀ H k c, TwoB K H S b0 r0 n0 b1 r1 n1 p6 k c → TwoB K H S b r n b' r' n' p6 k c) ∧ ∀ H k c, TwoB K H S b r n b' r' n' p6 k c → TwoB K H S b0 r0 n0 b1 r1 n1 p6 k c := fun w hw => by
      match w, hw with
      | 0, _ => exact ⟨b0, r0, n0, b1, r1, n1, atI_nat (j := 0) rfl, atI_nat (j := 0) rfl, atI_nat (j := 0) rfl, atI_nat (j := 1) rfl, atI_nat (j := 1) rfl, fun _ _ _ t => t, fun _ _ _ t => t⟩
      | 1, _ => exact ⟨b1, r1, n1, b0, r0, n0, atI_nat (j := 1) rfl, atI_nat (j := 1) rfl, atI_nat (j := 1) rfl, atI_nat (j := 0) rfl, atI_nat (j := 0) rfl, fun _ _ _ t => t.swap, fun _ _ _ t => t.swap⟩
    obtain ⟨L, hL, hLl⟩ : ∃ L : Nat, (if (60 : Int) < ((ns.map V.int).length : Int) then (60 : Int) else ((ns.map V.int).length : Int)) = (L : Int) ∧ L ≤ 60 := by
      split
      · exact ⟨60, rfl, by decide⟩
      · exact ⟨(ns.map V.int).length, rfl, by omega⟩
    refine ⟨_, .inl (ex_l st12.sb aS), _, _, ⟨rfl, rfl⟩, ?_⟩
    rw [hL]
    refine ⟨by omega, by omega, ?_⟩
    rw [Int.toNat_natCast]
    refine w_rng0 (n := L) (fun i σ H' => ∃ z7 z8 z9 z10 z11, σ = [some (.ref a), some (.ref p3), some (.ref p4), none, some (.ref p5), some (.ref p6), some od, z7, z8, z9, z10, z11, none, none] ∧ TwoB K H' S b0 r0 n0 b1 r1 n1 p6 i (8 * i))
      ⟨_, _, _, _, _, rfl, st12⟩ (fun i σ H' hi hP => ?_) (fun σ H' hP => ?_)
    · obtain ⟨z7, z8, z9, z10, z11, rfl, st⟩ := hP
      refine seq_cut3 fun R6 h6 => ?_
      walk_at "rl"
      refine ⟨a, ns, i + 2, by rw [Int.natCast_add]; rfl, ex_l st.sb aS, by omega, fun G13 x13 => ?_⟩
      obtain ⟨N, hN, hNl⟩ : ∃ N : Nat, mixedM ns (i + 2) = (N : Int) ∧ N < 90749487 := ⟨(mixedM ns (i + 2)).toNat, by have := mixedM_nn ns (i + 2); omega, by have := mixedM_lt ns (i + 2); omega⟩
      rw [hN]
      have st13 := st.ex x13
      refine ⟨_, rfl, by decide, ⟨by decide, by decide⟩, a, ns, i, rfl, ex_l st13.sb aS, fun G14 x14 => ?_⟩
      obtain ⟨w, hw, hw2⟩ : ∃ w : Nat, (N : Int) % 5 / 4 = (w : Int) ∧ w < 2 := ⟨N % 5 / 4, rfl, by omega⟩
      rw [hw]
      have st14 := st13.ex x14
      obtain ⟨b, r, n, b', r', n', hb, hn, hr, hb', hr', to, fro⟩ := pick w hw2
      subst h6
      refine seq_cut1 fun R7 h7 => ?_
      walk_at "rl"
      have bs := st14.sb
      refine ⟨_, .inl (.inl (bs _ _ S4)), _, hb, _, .inl (.inl (bs _ _ S3)), _, hn, _, .inl (.inl (bs _ _ S5)), _, hr, ⟨by decide, by decide⟩, ?_⟩
      refine (to _ _ _ st14).deed (by omega) (m := N / 5) (by omega) fun G15 t15 => ⟨_, rfl, iteF ?_⟩
      subst h7
      walk_at "rl"
      refine ⟨sz_of (by simp), fun pt npt => ?_⟩
      have npS : S pt = none := ex_back t15.sb npt
      have t16 := t15.new (o := HO.tup [V.int (w : Nat), V.int (1 - (w : Int))]) npt
      have eT : Ex S (upd S pt (.tup [V.int (w : Nat), V.int (1 - (w : Int))])) := Ex.new npS
      have fT : (upd S pt (.tup [V.int (w : Nat), V.int (1 - (w : Int))])) pt = some (.tup [V.int (w : Nat), V.int (1 - (w : Int))]) := upd_same
      generalize upd S pt _ = ST at *
      generalize upd G15 pt _ = G16 at *
      refine ⟨⟨_, .inl (.inl (t16.sb _ _ fT))⟩, ?_⟩
      refine w_tup [V.int (w : Nat), V.int (1 - (w : Int))] (fun j σ H' => ∃ z11, σ = [some (.ref a), some (.ref p3), some (.ref p4), none, some (.ref p5), some (.ref p6), some od, some (.int (i : Nat)), some (.int (N : Nat)), some (.int (w : Nat)), some (.int (cellM ns i)), z11, none, none] ∧ TwoB K H' ST b r n b' r' n' p6 (i + 1) (8 * i + 4 * j))
        ⟨_, rfl, t16⟩ (fun j σ H' _ hP => ?_) (fun j x σ H' hx hP => ?_) (fun σ H' hP => ?_)
      · obtain ⟨_, _, h⟩ := hP
        exact .inl (.inl (h.sb _ _ fT))
      · obtain ⟨z11', rfl, st⟩ := hP
        have bs := eT.trans st.sb
        have hj : j = 0 ∨ j = 1 := by
          have := (List.getElem?_eq_some_iff.mp hx).1
          simp at this
          omega
        walk_at "rl"
        rcases hj with rfl | rfl
        · have hxe : x = .int (w : Nat) := (Option.some.inj hx).symm
          subst hxe
          refine ⟨_, _, rfl, .inl (.inl (bs _ _ S4)), _, hb, _, _, rfl, .inl (.inl (bs _ _ S5)), _, hr, _, rfl, ⟨by omega, by omega⟩, ?_⟩
          exact st.seen (m := N / (35 + w)) (by omega) (by have := Nat.div_le_self N (35 + w); omega) fun H2 t2 => ⟨_, rfl, iteF t2⟩
        · have hxe : x = .int (1 - (w : Int)) := (Option.some.inj hx).symm
          subst hxe
          refine ⟨_, _, rfl, .inl (.inl (bs _ _ S4)), _, hb', _, _, rfl, .inl (.inl (bs _ _ S5)), _, hr', _, rfl, ⟨by omega, by omega⟩, ?_⟩
          have ew : (N : Int) / (35 + (1 - (w : Int))) = ((N / (36 - w) : Nat) : Int) := by
            rw [show (35 + (1 - (w : Int))) = ((36 - w : Nat) : Int) from by omega]
            rfl
          rw [ew]
          exact st.swap.seen (m := N / (36 - w)) (by omega) (by have := Nat.div_le_self N (36 - w); omega) fun H2 t2 => ⟨_, rfl, iteF t2.swap⟩
      · obtain ⟨z11', rfl, st⟩ := hP
        exact ⟨_, _, _, _, _, rfl, fro _ _ _ (by rw [show 8 * (i + 1) = 8 * i + 4 * 2 from by omega]; exact st.weak eT)⟩
    · obtain ⟨z7, z8, z9, z10, z11, rfl, st⟩ := hP
      subst h5
      dsimp only
      refine seq_cut1 fun R6 h6 => ?_
      walk_at "rl"
      refine ⟨by decide, by decide, ?_⟩
      refine w_rng0 (n := 2) (fun x σ H' => ∃ z11 z12, σ = [some (.ref a), some (.ref p3), some (.ref p4), none, some (.ref p5), some (.ref p6), some od, z7, z8, z9, z10, z11, z12, none] ∧ TwoB K H' S b0 r0 n0 b1 r1 n1 p6 L (8 * L + 16 * x))
        ⟨_, _, rfl, st⟩ (fun x σ H' hx hP => ?_) (fun σ H' hP => ?_)
      · obtain ⟨z11', z12, rfl, st⟩ := hP
        obtain ⟨b, r, n, b', r', n', hb, hn, hr, hb', hr', to, fro⟩ := pick x hx
        walk_at "rl"
        refine ⟨by decide, by decide, ?_⟩
        refine w_rng0 (n := 4) (fun y σ H' => ∃ z12, σ = [some (.ref a), some (.ref p3), some (.ref p4), none, some (.ref p5), some (.ref p6), some od, z7, z8, z9, z10, some (.int (x : Nat)), z12, none] ∧ TwoB K H' S b0 r0 n0 b1 r1 n1 p6 L (8 * L + 16 * x + 4 * y))
          ⟨_, rfl, st⟩ (fun y σ H' hy hP => ?_) (fun σ H' hP => ?_)
        · obtain ⟨z12, rfl, st⟩ := hP
          walk_at "rl"
          refine ⟨_, .inl (.inl (st.sb _ _ S4)), _, hb, _, .inl (.inl (st.sb _ _ S5)), _, hr, ?_⟩
          exact (to _ _ _ st).seen (by omega) (by omega) fun H2 t2 => ⟨_, rfl, iteF (fro _ _ _ t2)⟩
        · obtain ⟨z12, rfl, st⟩ := hP
          exact ⟨_, _, rfl, by rw [show 8 * L + 16 * (x + 1) = 8 * L + 16 * x + 4 * 4 from by omega]; exact st⟩
      · obtain ⟨z11', z12, rfl, st⟩ := hP
        subst h6
        dsimp only
        walk_at "rl"
        obtain ⟨S2, M1, M2, hs, h1, h2, _, _, _, _, _, _, hp6, hpr, hlc⟩ := st
        refine ⟨⟨_, .inl (.inl hp6)⟩, ?_⟩
        refine wl_vals (K := K) hs (fun _ => false) id (.inl (.inl hp6)) (by omega) (fun _ => rfl) (fun x hx K1 k1 K2 k2 Q2 q2 => ?_) (fun x hx K1 k1 hf => by cases hf) (fun v G2 nv x2 hv => ?_)
        · obtain ⟨t, u, v, ms, rfl, _, _, _, ht, hu, hv⟩ := hpr x hx
          have e := h2.trans (k1.trans k2)
          walk_at "rd"
          refine ⟨_, .inl (.inl (e _ _ ht)), _, atI_nat (j := 0) rfl, _, .inl (.inl (e _ _ ht)), _, atI_nat (j := 1) rfl, ?_⟩
          refine ne_ints (ns := ms) (ms := ms) (.inl (.inl (e _ _ hu))) (.inl (.inl (e _ _ hv))) ⟨_, rfl, ?_⟩
          rw [decide_eq_true rfl]
          exact q2 _ (Ex.refl _)
        · rw [show (hs.filter fun _ => false) = [] from List.filter_eq_nil_iff.mpr fun _ _ h => by cases h] at hv
          refine ⟨by decide, fun pz npz => ?_⟩
          have xz := Ex.new (o := HO.lst ([] : List V)) npz
          refine eq_ints (ns := []) (ms := []) (.inl (.inl (xz _ _ hv))) (.inl (.inl upd_same)) ?_
          rw [decide_eq_true rfl]
          exact q _

end
def dd_is_whole : He.DefD := ⟨("is_whole", none), "is_whole", "is_whole", defArgs s_is_whole, defBody s_is_whole, defScope s_is_whole, [], []⟩
def dd_Book_add_at : He.DefD := ⟨("Book", some "add_at"), "add_at", "Book.add_at", defArgs s_Book_add_at, defBody s_Book_add_at, defScope s_Book_add_at, [], []⟩
def dd_Book_table : He.DefD := ⟨("Book", some "table"), "table", "Book.table", defArgs s_Book_table, defBody s_Book_table, defScope s_Book_table, [], []⟩
def dd_Book_many_done : He.DefD := ⟨("Book", some "many_done"), "many_done", "Book.many_done", defArgs s_Book_many_done, defBody s_Book_many_done, defScope s_Book_many_done, [], []⟩
def dd_swapped : He.DefD := ⟨("swapped", none), "swapped", "swapped", defArgs s_swapped, defBody s_swapped, defScope s_swapped, [], []⟩
def dd_law_cell : He.DefD := ⟨("_law_cell", none), "_law_cell", "_law_cell", defArgs s_law_cell, defBody s_law_cell, defScope s_law_cell, [], []⟩
def dd_law_kind : He.DefD := ⟨("_law_kind", none), "_law_kind", "_law_kind", defArgs s_law_kind, defBody s_law_kind, defScope s_law_kind, [], []⟩
def dd_law_bits : He.DefD := ⟨("_law_bits", none), "_law_bits", "_law_bits", defArgs s_law_bits, defBody s_law_bits, defScope s_law_bits, [], []⟩
def dd_law_is_table : He.DefD := ⟨("_law_is_table", none), "_law_is_table", "_law_is_table", defArgs s_law_is_table, defBody s_law_is_table, defScope s_law_is_table, [], []⟩
def dd_law_wrong : He.DefD := ⟨("_law_wrong", none), "_law_wrong", "_law_wrong", defArgs s_law_wrong, defBody s_law_wrong, defScope s_law_wrong, [], []⟩
def dd_is_among : He.DefD := ⟨("is_among", none), "is_among", "is_among", defArgs s_is_among, defBody s_is_among, defScope s_is_among, [], []⟩
def dd_Book_exchange : He.DefD := ⟨("Book", some "exchange"), "exchange", "Book.exchange", defArgs s_Book_exchange, defBody s_Book_exchange, defScope s_Book_exchange, [], []⟩
def dd_law_mixed : He.DefD := ⟨("_law_mixed", none), "_law_mixed", "_law_mixed", defArgs s_law_mixed, defBody s_law_mixed, defScope s_law_mixed, [], []⟩
def dd_law_turned : He.DefD := ⟨("_law_turned", none), "_law_turned", "_law_turned", defArgs s_law_turned, defBody s_law_turned, defScope s_law_turned, [], []⟩
def dd_need_count : He.DefD := ⟨("need_count", none), "need_count", "need_count", defArgs s_need_count, defBody s_need_count, defScope s_need_count, [], []⟩
def dd_need_set : He.DefD := ⟨("need_set", none), "need_set", "need_set", defArgs s_need_set, defBody s_need_set, defScope s_need_set, [], []⟩
def dd_Book_swap : He.DefD := ⟨("Book", some "swap"), "swap", "Book.swap", defArgs s_Book_swap, defBody s_Book_swap, defScope s_Book_swap, [], []⟩
def dd_Book_undo : He.DefD := ⟨("Book", some "undo"), "undo", "Book.undo", defArgs s_Book_undo, defBody s_Book_undo, defScope s_Book_undo, [], []⟩
def dd_law_behind : He.DefD := ⟨("_law_behind", none), "_law_behind", "_law_behind", defArgs s_law_behind, defBody s_law_behind, defScope s_law_behind, [], []⟩
def dd_blank : He.DefD := ⟨("blank", none), "blank", "blank", defArgs s_blank, defBody s_blank, defScope s_blank, [], []⟩
def dd_Book_put : He.DefD := ⟨("Book", some "put"), "put", "Book.put", defArgs s_Book_put, defBody s_Book_put, defScope s_Book_put, [], []⟩
def dd_Book_value : He.DefD := ⟨("Book", some "value"), "value", "Book.value", defArgs s_Book_value, defBody s_Book_value, defScope s_Book_value, [], []⟩
def dd_Book_under : He.DefD := ⟨("Book", some "under"), "under", "Book.under", defArgs s_Book_under, defBody s_Book_under, defScope s_Book_under, [], []⟩
def dd_Book_over : He.DefD := ⟨("Book", some "over"), "over", "Book.over", defArgs s_Book_over, defBody s_Book_over, defScope s_Book_over, [], []⟩
def dd_Book___init__ : He.DefD := ⟨("Book", some "__init__"), "__init__", "Book.__init__", defArgs s_Book___init__, defBody s_Book___init__, defScope s_Book___init__, [], []⟩
def dd_law_caught : He.DefD := ⟨("_law_caught", none), "_law_caught", "_law_caught", defArgs s_law_caught, defBody s_law_caught, defScope s_law_caught, [], []⟩
def dd_law_seen : He.DefD := ⟨("_law_seen", none), "_law_seen", "_law_seen", defArgs s_law_seen, defBody s_law_seen, defScope s_law_seen, [], []⟩
def dd_law_deed : He.DefD := ⟨("_law_deed", none), "_law_deed", "_law_deed", defArgs s_law_deed, defBody s_law_deed, defScope s_law_deed, [], []⟩
def dd_law_made : He.DefD := ⟨("_law_made", none), "_law_made", "_law_made", defArgs s_law_made, defBody s_law_made, defScope s_law_made, [], []⟩
def dd_law : He.DefD := ⟨("law", none), "law", "law", defArgs s_law, defBody s_law, defScope s_law, [], []⟩
def fnL : List He.DefD := [dd_is_whole, dd_Book_add_at, dd_Book_table, dd_Book_many_done, dd_swapped, dd_law_cell, dd_law_kind, dd_law_bits, dd_law_is_table, dd_law_wrong, dd_is_among, dd_Book_exchange, dd_law_mixed, dd_law_turned, dd_need_count, dd_need_set, dd_Book_swap, dd_Book_undo, dd_law_behind, dd_blank, dd_Book_put, dd_Book_value, dd_Book_under, dd_Book_over, dd_Book___init__, dd_law_caught, dd_law_seen, dd_law_deed, dd_law_made, dd_law]
def faL : List He.Fa := [.glo "is_whole", .meth "Book" "add_at", .meth "Book" "table", .meth "Book" "many_done", .glo "swapped", .glo "_law_cell", .glo "_law_kind", .glo "_law_bits", .glo "_law_is_table", .glo "_law_wrong", .glo "is_among", .meth "Book" "exchange", .glo "_law_mixed", .glo "_law_turned", .glo "need_count", .glo "need_set", .meth "Book" "swap", .meth "Book" "undo", .glo "_law_behind", .glo "blank", .meth "Book" "put", .meth "Book" "value", .meth "Book" "under", .meth "Book" "over", .mkr "Book", .glo "_law_caught", .glo "_law_seen", .glo "_law_deed", .glo "_law_made", .glo "law", .cls "Book", .glo "Book", .noat "Book" "numbers", .noat "Book" "lows", .noat "Book" "highs", .noat "Book" "names", .noat "Book" "done", .free "ValueError", .free "all", .free "bool", .free "int", .free "isinstance", .free "len", .free "list", .free "max", .free "min", .free "range", .free "sum", .int "MOST_NAMES" 10, .glo "SetError", .exc "SetError", .glo "BadCount", .exc "BadCount", .glo "BadSet", .exc "BadSet", .glo "BadName", .exc "BadName", .glo "BadNumber", .exc "BadNumber", .glo "BadOrder", .exc "BadOrder", .glo "BadTable", .exc "BadTable", .glo "Unlike", .exc "Unlike", .glo "NoCover", .exc "NoCover", .glo "NothingDone", .exc "NothingDone"]
abbrev RR : PySem.W.OpenRow := PySem.W.OpenLaw.row PySem.Challenge.rw_setsums_k13_a_book
abbrev hkL : PySem.W.Hook := hookE 5 faL fnL (exB nineC nineC)
def obL (s : PySem.W.SharedT) : He.AlD × Bool := obsEG 5 faL fnL (exB nineC nineC) (HandSHeadRun.getT s)
theorem obL_eq (s : PySem.W.SharedT) : obL s = hkL.obs s.abs := obsEG_eq (HandSHeadRun.getT_eq s)
def looseL : List Str := (["SetError", "BadCount", "BadSet", "BadName", "BadNumber", "BadOrder", "BadTable", "Unlike", "NoCover", "NothingDone", "is_whole", "is_among", "need_count", "need_set", "blank", "Book", "swapped", "_law_cell", "_law_mixed", "_law_kind", "_law_bits", "_law_is_table", "_law_turned", "_law_behind", "_law_caught", "_law_made", "_law_seen", "_law_wrong", "_law_deed", "MOST_NAMES"] : List Str)
theorem runL (w : World) : HandSHeadRun.RunEq RR (PySem.W.view RR.prog [35]) hkL obL 6000 looseL w := by
  intro os
  kernel_rfl
theorem txt_mk {K : PySem.W.Frag} {h : Heap} {mg : Str → Option Value} (X : K.In h) (G : h.Ns mainGlobals mg) (c : He.SaysD faL fnL K) (hx : exB nineC nineC K = true) : Txt K mg where
  n_ValueError := He.free_ok X G (c.fact 37 (f := .free "ValueError") rfl)
  n_all := He.free_ok X G (c.fact 38 (f := .free "all") rfl)
  n_bool := He.free_ok X G (c.fact 39 (f := .free "bool") rfl)
  n_int := He.free_ok X G (c.fact 40 (f := .free "int") rfl)
  n_isinstance := He.free_ok X G (c.fact 41 (f := .free "isinstance") rfl)
  n_len := He.free_ok X G (c.fact 42 (f := .free "len") rfl)
  n_list := He.free_ok X G (c.fact 43 (f := .free "list") rfl)
  n_max := He.free_ok X G (c.fact 44 (f := .free "max") rfl)
  n_min := He.free_ok X G (c.fact 45 (f := .free "min") rfl)
  n_range := He.free_ok X G (c.fact 46 (f := .free "range") rfl)
  n_sum := He.free_ok X G (c.fact 47 (f := .free "sum") rfl)
  k_MOST_NAMES := He.int_ok X G (c.fact 48 (f := .int "MOST_NAMES" 10) rfl)
  c_SetError := by
    obtain ⟨h1, h2, h3, h4⟩ := He.exc_ok (c.fact 50 (f := .exc "SetError") rfl)
    exact ⟨He.glo_ok X G (c.fact 49 (f := .glo "SetError") rfl), h1, h2, h3, h4⟩
  c_BadCount := by
    obtain ⟨h1, h2, h3, h4⟩ := He.exc_ok (c.fact 52 (f := .exc "BadCount") rfl)
    exact ⟨He.glo_ok X G (c.fact 51 (f := .glo "BadCount") rfl), h1, h2, h3, h4⟩
  c_BadSet := by
    obtain ⟨h1, h2, h3, h4⟩ := He.exc_ok (c.fact 54 (f := .exc "BadSet") rfl)
    exact ⟨He.glo_ok X G (c.fact 53 (f := .glo "BadSet") rfl), h1, h2, h3, h4⟩
  c_BadName := by
    obtain ⟨h1, h2, h3, h4⟩ := He.exc_ok (c.fact 56 (f := .exc "BadName") rfl)
    exact ⟨He.glo_ok X G (c.fact 55 (f := .glo "BadName") rfl), h1, h2, h3, h4⟩
  c_BadNumber := by
    obtain ⟨h1, h2, h3, h4⟩ := He.exc_ok (c.fact 58 (f := .exc "BadNumber") rfl)
    exact ⟨He.glo_ok X G (c.fact 57 (f := .glo "BadNumber") rfl), h1, h2, h3, h4⟩
  c_BadOrder := by
    obtain ⟨h1, h2, h3, h4⟩ := He.exc_ok (c.fact 60 (f := .exc "BadOrder") rfl)
    exact ⟨He.glo_ok X G (c.fact 59 (f := .glo "BadOrder") rfl), h1, h2, h3, h4⟩
  c_BadTable := by
    obtain ⟨h1, h2, h3, h4⟩ := He.exc_ok (c.fact 62 (f := .exc "BadTable") rfl)
    exact ⟨He.glo_ok X G (c.fact 61 (f := .glo "BadTable") rfl), h1, h2, h3, h4⟩
  c_Unlike := by
    obtain ⟨h1, h2, h3, h4⟩ := He.exc_ok (c.fact 64 (f := .exc "Unlike") rfl)
    exact ⟨He.glo_ok X G (c.fact 63 (f := .glo "Unlike") rfl), h1, h2, h3, h4⟩
  c_NoCover := by
    obtain ⟨h1, h2, h3, h4⟩ := He.exc_ok (c.fact 66 (f := .exc "NoCover") rfl)
    exact ⟨He.glo_ok X G (c.fact 65 (f := .glo "NoCover") rfl), h1, h2, h3, h4⟩
  c_NothingDone := by
    obtain ⟨h1, h2, h3, h4⟩ := He.exc_ok (c.fact 68 (f := .exc "NothingDone") rfl)
    exact ⟨He.glo_ok X G (c.fact 67 (f := .glo "NothingDone") rfl), h1, h2, h3, h4⟩
  d_is_whole := by
    obtain ⟨fd, F⟩ := c.def_ 0 (d := dd_is_whole) rfl
    exact ⟨_, fd, F, He.glo_ok X G (c.fact 0 (f := .glo "is_whole") rfl), FunD.bindsN (ps := ["thing"]) F fun _ _ _ _ _ _ us hl => match us, hl with | [_], _ => rfl, FunD.bindsA (ps := ["thing"]) F fun _ _ _ _ _ _ us hl => match us, hl with | [_], _ => rfl⟩
  d_Book_add_at := by
    obtain ⟨fd, F⟩ := c.def_ 1 (d := dd_Book_add_at) rfl
    exact ⟨_, fd, F, He.meth_ok (c.fact 1 rfl), FunD.bindsN (ps := ["self", "one", "number"]) F fun _ _ _ _ _ _ us hl => match us, hl with | [_, _, _], _ => rfl⟩
  d_Book_table := by
    obtain ⟨fd, F⟩ := c.def_ 2 (d := dd_Book_table) rfl
    exact ⟨_, fd, F, He.meth_ok (c.fact 2 rfl), FunD.bindsN (ps := ["self"]) F fun _ _ _ _ _ _ us hl => match us, hl with | [_], _ => rfl⟩
  d_Book_many_done := by
    obtain ⟨fd, F⟩ := c.def_ 3 (d := dd_Book_many_done) rfl
    exact ⟨_, fd, F, He.meth_ok (c.fact 3 rfl), FunD.bindsN (ps := ["self"]) F fun _ _ _ _ _ _ us hl => match us, hl with | [_], _ => rfl⟩
  d_swapped := by
    obtain ⟨fd, F⟩ := c.def_ 4 (d := dd_swapped) rfl
    exact ⟨_, fd, F, He.glo_ok X G (c.fact 4 (f := .glo "swapped") rfl), FunD.bindsN (ps := ["one", "name", "other"]) F fun _ _ _ _ _ _ us hl => match us, hl with | [_, _, _], _ => rfl, FunD.bindsA (ps := ["one", "name", "other"]) F fun _ _ _ _ _ _ us hl => match us, hl with | [_, _, _], _ => rfl⟩
  d_law_cell := by
    obtain ⟨fd, F⟩ := c.def_ 5 (d := dd_law_cell) rfl
    exact ⟨_, fd, F, He.glo_ok X G (c.fact 5 (f := .glo "_law_cell") rfl), FunD.bindsN (ps := ["_law_script", "_law_k"]) F fun _ _ _ _ _ _ us hl => match us, hl with | [_, _], _ => rfl, FunD.bindsA (ps := ["_law_script", "_law_k"]) F fun _ _ _ _ _ _ us hl => match us, hl with | [_, _], _ => rfl⟩
  d_law_kind := by
    obtain ⟨fd, F⟩ := c.def_ 6 (d := dd_law_kind) rfl
    exact ⟨_, fd, F, He.glo_ok X G (c.fact 6 (f := .glo "_law_kind") rfl), FunD.bindsN (ps := ["_law_caught_here"]) F fun _ _ _ _ _ _ us hl => match us, hl with | [_], _ => rfl, FunD.bindsA (ps := ["_law_caught_here"]) F fun _ _ _ _ _ _ us hl => match us, hl with | [_], _ => rfl⟩
  d_law_bits := by
    obtain ⟨fd, F⟩ := c.def_ 7 (d := dd_law_bits) rfl
    exact ⟨_, fd, F, He.glo_ok X G (c.fact 7 (f := .glo "_law_bits") rfl), FunD.bindsN (ps := ["_law_one"]) F fun _ _ _ _ _ _ us hl => match us, hl with | [_], _ => rfl, FunD.bindsA (ps := ["_law_one"]) F fun _ _ _ _ _ _ us hl => match us, hl with | [_], _ => rfl⟩
  d_law_is_table := by
    obtain ⟨fd, F⟩ := c.def_ 8 (d := dd_law_is_table) rfl
    exact ⟨_, fd, F, He.glo_ok X G (c.fact 8 (f := .glo "_law_is_table") rfl), FunD.bindsN (ps := ["_law_found", "_law_due"]) F fun _ _ _ _ _ _ us hl => match us, hl with | [_, _], _ => rfl, FunD.bindsA (ps := ["_law_found", "_law_due"]) F fun _ _ _ _ _ _ us hl => match us, hl with | [_, _], _ => rfl⟩
  d_law_wrong := by
    obtain ⟨fd, F⟩ := c.def_ 9 (d := dd_law_wrong) rfl
    exact ⟨_, fd, F, He.glo_ok X G (c.fact 9 (f := .glo "_law_wrong") rfl), FunD.bindsN (ps := ["_law_many", "_law_number"]) F fun _ _ _ _ _ _ us hl => match us, hl with | [_, _], _ => rfl, FunD.bindsA (ps := ["_law_many", "_law_number"]) F fun _ _ _ _ _ _ us hl => match us, hl with | [_, _], _ => rfl⟩
  d_is_among := by
    obtain ⟨fd, F⟩ := c.def_ 10 (d := dd_is_among) rfl
    exact ⟨_, fd, F, He.glo_ok X G (c.fact 10 (f := .glo "is_among") rfl), FunD.bindsN (ps := ["thing", "least", "most"]) F fun _ _ _ _ _ _ us hl => match us, hl with | [_, _, _], _ => rfl, FunD.bindsA (ps := ["thing", "least", "most"]) F fun _ _ _ _ _ _ us hl => match us, hl with | [_, _, _], _ => rfl⟩
  d_Book_exchange := by
    obtain ⟨fd, F⟩ := c.def_ 11 (d := dd_Book_exchange) rfl
    exact ⟨_, fd, F, He.meth_ok (c.fact 11 rfl), FunD.bindsN (ps := ["self", "name", "other"]) F fun _ _ _ _ _ _ us hl => match us, hl with | [_, _, _], _ => rfl⟩
  d_law_mixed := by
    obtain ⟨fd, F⟩ := c.def_ 12 (d := dd_law_mixed) rfl
    exact ⟨_, fd, F, He.glo_ok X G (c.fact 12 (f := .glo "_law_mixed") rfl), FunD.bindsN (ps := ["_law_script", "_law_k"]) F fun _ _ _ _ _ _ us hl => match us, hl with | [_, _], _ => rfl, FunD.bindsA (ps := ["_law_script", "_law_k"]) F fun _ _ _ _ _ _ us hl => match us, hl with | [_, _], _ => rfl⟩
  d_law_turned := by
    obtain ⟨fd, F⟩ := c.def_ 13 (d := dd_law_turned) rfl
    exact ⟨_, fd, F, He.glo_ok X G (c.fact 13 (f := .glo "_law_turned") rfl), FunD.bindsN (ps := ["_law_one", "_law_name", "_law_other"]) F fun _ _ _ _ _ _ us hl => match us, hl with | [_, _, _], _ => rfl, FunD.bindsA (ps := ["_law_one", "_law_name", "_law_other"]) F fun _ _ _ _ _ _ us hl => match us, hl with | [_, _, _], _ => rfl⟩
  d_need_count := by
    obtain ⟨fd, F⟩ := c.def_ 14 (d := dd_need_count) rfl
    exact ⟨_, fd, F, He.glo_ok X G (c.fact 14 (f := .glo "need_count") rfl), FunD.bindsN (ps := ["many"]) F fun _ _ _ _ _ _ us hl => match us, hl with | [_], _ => rfl, FunD.bindsA (ps := ["many"]) F fun _ _ _ _ _ _ us hl => match us, hl with | [_], _ => rfl⟩
  d_need_set := by
    obtain ⟨fd, F⟩ := c.def_ 15 (d := dd_need_set) rfl
    exact ⟨_, fd, F, He.glo_ok X G (c.fact 15 (f := .glo "need_set") rfl), FunD.bindsN (ps := ["one", "many"]) F fun _ _ _ _ _ _ us hl => match us, hl with | [_, _], _ => rfl, FunD.bindsA (ps := ["one", "many"]) F fun _ _ _ _ _ _ us hl => match us, hl with | [_, _], _ => rfl⟩
  d_Book_swap := by
    obtain ⟨fd, F⟩ := c.def_ 16 (d := dd_Book_swap) rfl
    exact ⟨_, fd, F, He.meth_ok (c.fact 16 rfl), FunD.bindsN (ps := ["self", "name", "other"]) F fun _ _ _ _ _ _ us hl => match us, hl with | [_, _, _], _ => rfl⟩
  d_Book_undo := by
    obtain ⟨fd, F⟩ := c.def_ 17 (d := dd_Book_undo) rfl
    exact ⟨_, fd, F, He.meth_ok (c.fact 17 rfl), FunD.bindsN (ps := ["self"]) F fun _ _ _ _ _ _ us hl => match us, hl with | [_], _ => rfl⟩
  d_law_behind := by
    obtain ⟨fd, F⟩ := c.def_ 18 (d := dd_law_behind) rfl
    exact ⟨_, fd, F, He.glo_ok X G (c.fact 18 (f := .glo "_law_behind") rfl), FunD.bindsN (ps := ["_law_numbers", "_law_word", "_law_one", "_law_other"]) F fun _ _ _ _ _ _ us hl => match us, hl with | [_, _, _, _], _ => rfl, FunD.bindsA (ps := ["_law_numbers", "_law_word", "_law_one", "_law_other"]) F fun _ _ _ _ _ _ us hl => match us, hl with | [_, _, _, _], _ => rfl⟩
  d_blank := by
    obtain ⟨fd, F⟩ := c.def_ 19 (d := dd_blank) rfl
    exact ⟨_, fd, F, He.glo_ok X G (c.fact 19 (f := .glo "blank") rfl), FunD.bindsN (ps := ["many"]) F fun _ _ _ _ _ _ us hl => match us, hl with | [_], _ => rfl, FunD.bindsA (ps := ["many"]) F fun _ _ _ _ _ _ us hl => match us, hl with | [_], _ => rfl⟩
  d_Book_put := by
    obtain ⟨fd, F⟩ := c.def_ 20 (d := dd_Book_put) rfl
    exact ⟨_, fd, F, He.meth_ok (c.fact 20 rfl), FunD.bindsN (ps := ["self", "one", "number"]) F fun _ _ _ _ _ _ us hl => match us, hl with | [_, _, _], _ => rfl⟩
  d_Book_value := by
    obtain ⟨fd, F⟩ := c.def_ 21 (d := dd_Book_value) rfl
    exact ⟨_, fd, F, He.meth_ok (c.fact 21 rfl), FunD.bindsN (ps := ["self", "one"]) F fun _ _ _ _ _ _ us hl => match us, hl with | [_, _], _ => rfl⟩
  d_Book_under := by
    obtain ⟨fd, F⟩ := c.def_ 22 (d := dd_Book_under) rfl
    exact ⟨_, fd, F, He.meth_ok (c.fact 22 rfl), FunD.bindsN (ps := ["self", "one"]) F fun _ _ _ _ _ _ us hl => match us, hl with | [_, _], _ => rfl⟩
  d_Book_over := by
    obtain ⟨fd, F⟩ := c.def_ 23 (d := dd_Book_over) rfl
    exact ⟨_, fd, F, He.meth_ok (c.fact 23 rfl), FunD.bindsN (ps := ["self", "one"]) F fun _ _ _ _ _ _ us hl => match us, hl with | [_, _], _ => rfl⟩
  d_Book___init__ := by
    obtain ⟨fd, F⟩ := c.def_ 24 (d := dd_Book___init__) rfl
    exact ⟨_, fd, F, He.mkr_ok (c.fact 24 rfl), FunD.bindsN (ps := ["self", "many"]) F fun _ _ _ _ _ _ us hl => match us, hl with | [_, _], _ => rfl⟩
  d_law_caught := by
    obtain ⟨fd, F⟩ := c.def_ 25 (d := dd_law_caught) rfl
    exact ⟨_, fd, F, He.glo_ok X G (c.fact 25 (f := .glo "_law_caught") rfl), FunD.bindsN (ps := ["_law_book", "_law_word", "_law_one", "_law_other"]) F fun _ _ _ _ _ _ us hl => match us, hl with | [_, _, _, _], _ => rfl, FunD.bindsA (ps := ["_law_book", "_law_word", "_law_one", "_law_other"]) F fun _ _ _ _ _ _ us hl => match us, hl with | [_, _, _, _], _ => rfl⟩
  d_law_seen := by
    obtain ⟨fd, F⟩ := c.def_ 26 (d := dd_law_seen) rfl
    exact ⟨_, fd, F, He.glo_ok X G (c.fact 26 (f := .glo "_law_seen") rfl), FunD.bindsN (ps := ["_law_book", "_law_rows", "_law_number", "_law_held"]) F fun _ _ _ _ _ _ us hl => match us, hl with | [_, _, _, _], _ => rfl, FunD.bindsA (ps := ["_law_book", "_law_rows", "_law_number", "_law_held"]) F fun _ _ _ _ _ _ us hl => match us, hl with | [_, _, _, _], _ => rfl⟩
  d_law_deed := by
    obtain ⟨fd, F⟩ := c.def_ 27 (d := dd_law_deed) rfl
    exact ⟨_, fd, F, He.glo_ok X G (c.fact 27 (f := .glo "_law_deed") rfl), FunD.bindsN (ps := ["_law_book", "_law_many", "_law_rows", "_law_number", "_law_great"]) F fun _ _ _ _ _ _ us hl => match us, hl with | [_, _, _, _, _], _ => rfl, FunD.bindsA (ps := ["_law_book", "_law_many", "_law_rows", "_law_number", "_law_great"]) F fun _ _ _ _ _ _ us hl => match us, hl with | [_, _, _, _, _], _ => rfl⟩
  d_law_made := by
    obtain ⟨fd, F⟩ := c.def_ 28 (d := dd_law_made) rfl
    exact ⟨_, fd, F, He.glo_ok X G (c.fact 28 (f := .glo "_law_made") rfl), FunD.bindsN (ps := ["_law_many"]) F fun _ _ _ _ _ _ us hl => match us, hl with | [_], _ => rfl, FunD.bindsA (ps := ["_law_many"]) F fun _ _ _ _ _ _ us hl => match us, hl with | [_], _ => rfl⟩
  d_law := by
    obtain ⟨fd, F⟩ := c.def_ 29 (d := dd_law) rfl
    exact ⟨_, fd, F, He.glo_ok X G (c.fact 29 (f := .glo "law") rfl), FunD.bindsN (ps := ["_law_script"]) F fun _ _ _ _ _ _ us hl => match us, hl with | [_], _ => rfl, FunD.bindsA (ps := ["_law_script"]) F fun _ _ _ _ _ _ us hl => match us, hl with | [_], _ => rfl⟩
  x := exB_ok hx
  cl := He.cls_ok (c.fact 30 (f := .cls "Book") rfl)
  gB := He.glo_ok X G (c.fact 31 (f := .glo "Book") rfl)
  na_numbers := He.noat_ok (c.fact 32 (f := .noat "Book" "numbers") rfl)
  na_lows := He.noat_ok (c.fact 33 (f := .noat "Book" "lows") rfl)
  na_highs := He.noat_ok (c.fact 34 (f := .noat "Book" "highs") rfl)
  na_names := He.noat_ok (c.fact 35 (f := .noat "Book" "names") rfl)
  na_done := He.noat_ok (c.fact 36 (f := .noat "Book" "done") rfl)
section
variable {P : Program} {w : World} {K : PySem.W.Frag} {mg : Str → Option Value} {base : Heap}

theorem all_ok (T : Txt K mg) {f : Addr} {fd : FuncData} (F : FunD K "law" "law" (defArgs s_law) (defBody s_law) (defScope s_law) [] [] f fd) : FnOk P w K mg base (L2.CX P w) 8 f fd ["_law_script"] (sp_law K) := by
  have h_is_whole : Has P w K mg base 1 "is_whole" ["thing"] (sp_is_whole K) := ok_is_whole T 
  have h_Book_add_at : HasM P w K mg base 1 "Book" "add_at" ["self", "one", "number"] (sp_Book_add_at K) := ok_Book_add_at T 
  have h_Book_table : HasM P w K mg base 1 "Book" "table" ["self"] (sp_Book_table K) := ok_Book_table T 
  have h_Book_many_done : HasM P w K mg base 1 "Book" "many_done" ["self"] (sp_Book_many_done K) := ok_Book_many_done T 
  have h_swapped : Has P w K mg base 1 "swapped" ["one", "name", "other"] (sp_swapped K) := ok_swapped T 
  have h_law_cell : Has P w K mg base 1 "_law_cell" ["_law_script", "_law_k"] (sp_law_cell K) := ok_law_cell T 
  have h_law_kind : Has P w K mg base 1 "_law_kind" ["_law_caught_here"] (sp_law_kind K) := ok_law_kind T 
  have h_law_bits : Has P w K mg base 1 "_law_bits" ["_law_one"] (sp_law_bits K) := ok_law_bits T 
  have h_law_is_table : Has P w K mg base 1 "_law_is_table" ["_law_found", "_law_due"] (sp_law_is_table K) := ok_law_is_table T 
  have h_law_wrong : Has P w K mg base 1 "_law_wrong" ["_law_many", "_law_number"] (sp_law_wrong K) := ok_law_wrong T 
  have h_is_among : Has P w K mg base 2 "is_among" ["thing", "least", "most"] (sp_is_among K) := ok_is_among T h_is_whole
  have h_Book_exchange : HasM P w K mg base 2 "Book" "exchange" ["self", "name", "other"] (sp_Book_exchange K) := ok_Book_exchange T h_swapped
  have h_law_mixed : Has P w K mg base 2 "_law_mixed" ["_law_script", "_law_k"] (sp_law_mixed K) := ok_law_mixed T h_law_cell
  have h_law_turned : Has P w K mg base 2 "_law_turned" ["_law_one", "_law_name", "_law_other"] (sp_law_turned K) := ok_law_turned T h_law_bits
  have h_need_count : Has P w K mg base 3 "need_count" ["many"] (sp_need_count K) := ok_need_count T h_is_among
  have h_need_set : Has P w K mg base 3 "need_set" ["one", "many"] (sp_need_set K) := ok_need_set T h_is_among
  have h_Book_swap : HasM P w K mg base 3 "Book" "swap" ["self", "name", "other"] (sp_Book_swap K) := ok_Book_swap T h_Book_exchange h_is_among
  have h_Book_undo : HasM P w K mg base 3 "Book" "undo" ["self"] (sp_Book_undo K) := ok_Book_undo T h_Book_add_at h_Book_exchange
  have h_law_behind : Has P w K mg base 3 "_law_behind" ["_law_numbers", "_law_word", "_law_one", "_law_other"] (sp_law_behind K) := ok_law_behind T h_law_turned
  have h_blank : Has P w K mg base 4 "blank" ["many"] (sp_blank K) := ok_blank T h_need_count
  have h_Book_put : HasM P w K mg base 4 "Book" "put" ["self", "one", "number"] (sp_Book_put K) := ok_Book_put T h_Book_add_at h_is_whole h_need_set
  have h_Book_value : HasM P w K mg base 4 "Book" "value" ["self", "one"] (sp_Book_value K) := ok_Book_value T h_need_set
  have h_Book_under : HasM P w K mg base 4 "Book" "under" ["self", "one"] (sp_Book_under K) := ok_Book_under T h_need_set
  have h_Book_over : HasM P w K mg base 4 "Book" "over" ["self", "one"] (sp_Book_over K) := ok_Book_over T h_need_set
  have h_Book___init__ : HasI P w K mg base 5 "Book" ["self", "many"] (sp_Book___init__ K) := ok_Book___init__ T h_blank
  have h_law_caught : Has P w K mg base 5 "_law_caught" ["_law_book", "_law_word", "_law_one", "_law_other"] (sp_law_caught K) := ok_law_caught T h_Book_over h_Book_put h_Book_swap h_Book_under h_Book_undo h_Book_value
  have h_law_seen : Has P w K mg base 5 "_law_seen" ["_law_book", "_law_rows", "_law_number", "_law_held"] (sp_law_seen K) := ok_law_seen T h_Book_many_done h_Book_over h_Book_table h_Book_under h_Book_value h_law_is_table
  have h_law_deed : Has P w K mg base 6 "_law_deed" ["_law_book", "_law_many", "_law_rows", "_law_number", "_law_great"] (sp_law_deed K) := ok_law_deed T h_law_behind h_law_caught h_law_kind h_law_wrong
  have h_law_made : Has P w K mg base 7 "_law_made" ["_law_many"] (sp_law_made K) := ok_law_made T h_Book___init__
  exact ok_law T h_Book___init__ h_law_cell h_law_deed h_law_kind h_law_made h_law_mixed h_law_seen F
end
theorem factsL {P : Program} {w : World} {K : PySem.W.Frag} {h : Heap} {mg : Str → Option Value} {f : Addr} (X : K.In h) (G : h.Ns mainGlobals mg) (hfa : mg ("law" : Str) = some (.ref f)) (c : He.SaysD faL fnL K) (hx : exB nineC nineC K = true) :
    ∃ fd : FuncData, (∀ (s : Shared) (v : Value), BindsTo s fd ⟨[v], []⟩ [("_law_script", v)]) ∧ ∀ base : Heap, K.In base → base.Ns mainGlobals mg → FnOk P w K mg base (L2.CX P w) 8 f fd ["_law_script"] (sp_law K) := by
  have T := txt_mk X G c hx
  obtain ⟨fd, F⟩ := c.def_ 29 (d := dd_law) rfl
  cases hfa.symm.trans (He.glo_ok X G (c.fact 29 (f := .glo "law") rfl))
  have b := FunD.bindsA (ps := ["_law_script"]) F fun _ _ _ _ _ _ us hl => match us, hl with | [_], _ => rfl
  exact ⟨fd, fun s v => b s [v] rfl, fun base _ _ => all_ok T F⟩
end SS
open PySem PySem.W PySem.Calls PyProof.Rows
set_option maxHeartbeats 0 in
theorem PySem.Challenge.cw_setsums_k13_a_book_holds : PySem.Challenge.rw_setsums_k13_a_book.Holds := by
  w_on; o_law
  refine HandSHeadRun.head_any (r := OpenLaw.row PySem.Challenge.rw_setsums_k13_a_book) (q := view (OpenLaw.row PySem.Challenge.rw_setsums_k13_a_book).prog [35]) (H := SS.hkL) (ob := SS.obL) (M := 6000) (loose := SS.looseL) (d := HandSHeadRun.topDef (OpenLaw.row PySem.Challenge.rw_setsums_k13_a_book).prog 35) (kwd := []) SS.obL_eq
    (by kernel_rfl) (fun s => by kernel_rfl) SS.runL (by kernel_rfl) (by kernel_rfl) (by kernel_rfl) (by rfl) (by first | assumption | decide +kernel) (by decide +kernel) ⟨rfl, rfl, rfl, rfl, rfl, by decide +kernel⟩ ?hw ?hc
  case hw => w_witness2
  case hc =>
    refine SS.walk_ofE2 (l := PySem.Challenge.rw_setsums_k13_a_book) (n := 63) (k := 8) (x := "_law_script") (CX := fun w => L2.CX (PySem.Challenge.rw_setsums_k13_a_book).prog w) rfl (by decide) (by kernel_rfl) ⟨rfl, by decide, by decide⟩ ?F (fun w _ s e s' z => SS.cx_end z)
    intro w mg fa h Y G hmg0
    obtain ⟨K, KX, c, hx⟩ := Y
    have hmg : mg ("law" : PySem.Str) = some (.ref fa) := by
      have e : (HandSHeadRun.topDef (OpenLaw.row PySem.Challenge.rw_setsums_k13_a_book).prog 35).name = ("law" : PySem.Str) := by kernel_rfl
      rw [← e]
      exact hmg0
    obtain ⟨fd, hb, hF⟩ := SS.factsL (P := (PySem.Challenge.rw_setsums_k13_a_book).prog) (w := w) KX G hmg c hx
    exact ⟨K, fd, SS.sp_law K, KX, hb, fun H a ns hl _ hS => ⟨a, ns, rfl, hS, hl, fun _ => rfl⟩, hF⟩

