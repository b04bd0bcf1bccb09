import PyProof.Rows.All
import Wide.All
import OpenK.AllK
import Wide.FinOn
import KE.KStateDown
import Lean
import HandS.ForMost
import HandS.ForExc
import HandS.ExcValue
import HandS.ExcIs
import HandS.IsInst
import HandS.Wide
import HandS.WideBits
import HandS.Flow
import HandS.Style
import HandS.Conv
import HandS.More
import HandS.Evl
import HandS.Defaults
import HandS.Head0
import HandS.Head1
import HandS.Head2
import HandS.HeadEnd
import HandS.HeadHook1
import HandS.HeadHook2
import HandS.HeadHook3
import HandS.HeadHook4
import PySem.Challenge.RW_setsums_k03_sums_set_by_set
set_option Elab.async false
set_option linter.all false
set_option maxRecDepth 100000
set_option maxHeartbeats 4000000
/-! the layer of this program's laws over HandS -/
namespace SS
open PySem PySem.Spec PyProof.Rows L2 Evl

/-! ### heaps -/
theorem ex_upd {S H : Hp} {p : Addr} {o : HO} (e : Ex S H) (h : H p = none) : Ex S (upd H p o) := e.trans (Ex.new h)
theorem ex_mut {S H : Hp} {p : Addr} {o : HO} (e : Ex S H) (h : S p = none) : Ex S (upd H p o) := Ex.mut e h
theorem ne_fresh {H : Hp} {p q : Addr} {o : HO} (h : H p = some o) (h' : H q = none) : p ≠ q := ne_of_none h h'

/-! ### the calls of defs -/
/-- the def x is there and keeps its promise -/
structure Has (P : Program) (w : World) (K : PySem.W.Frag) (mg : Str → Option Value) (base : Heap) (k : Nat) (x : Str) (ps : List Str) (sp : Sp) : Prop where
  ex : ∃ (f : Addr) (fd : FuncData), FnOk P w K mg base (L2.CX P w) k f fd ps sp ∧ mg x = some (.ref f) ∧ PySem.W.keepIn K (.ref f) = true ∧ Binds K fd ps [] ∧ ∀ (s : Shared) (us : List Value), us.length = ps.length → BindsTo s fd ⟨us, []⟩ (ps.zip us)
section
variable {X : Cx} {k : Nat} {x : Str} {ps : List Str} {sp : Sp} {E : XK} {p pos : Pos} {e : Expr} {es : List Expr} {t : TA}
theorem pe_has (h : Has X.prog X.w X.K X.mg X.base k x ps sp) (hr : Room k X.A) (hg : Gl X x) (hx : Passes (L2.CX X.prog X.w) X E)
    (ha : PA X (e :: es) t) (hdb : (x == ("__debug__" : Str)) = false := by decide) (he : starEach (e :: es) X.env = (false, eval e X.env) :: starEach es X.env := by rfl) (hpl : (backTo pos (starEach es X.env)).any (·.1) = false := by rfl) :
    PE X (.Call (.Name x p) (e :: es) [] pos) (tCall sp [] E t) := by
  obtain ⟨f, fd, F, hm, hk, hb, _⟩ := h.ex
  exact pe_call F hr hg hm hk hb .nil hx ha hdb he hpl
theorem pe_hasS {W : WX} (h : Has X.prog X.w X.K X.mg X.base k x ps sp) (hr : Room k X.A) (hg : Gl X x) (tk : Takes X W)
    (ha : PA X (e :: es) t) (hdb : (x == ("__debug__" : Str)) = false := by decide) (he : starEach (e :: es) X.env = (false, eval e X.env) :: starEach es X.env := by rfl) (hpl : (backTo pos (starEach es X.env)).any (·.1) = false := by rfl) :
    PE X (.Call (.Name x p) (e :: es) [] pos) (tCallS sp (WE W) t) := by
  obtain ⟨f, fd, F, hm, hk, hb, _⟩ := h.ex
  exact pe_callS F hr hg hm hk hb (fun σ => passAt tk σ) ha hdb he hpl
/-- a def as the head tells it -/
structure DefAt (K : PySem.W.Frag) (mg : Str → Option Value) (x : Str) (st : Stmt) (ps : List Str) : Prop where
  ex : ∃ (f : Addr) (fd : FuncData), FunD K x x (defArgs st) (defBody st) (defScope st) [] [] f fd ∧ mg x = some (.ref f) ∧ Binds K fd ps [] ∧ ∀ (s : Shared) (us : List Value), us.length = ps.length → BindsTo s fd ⟨us, []⟩ (ps.zip us)
theorem DefAt.has {P : Program} {w : World} {K : PySem.W.Frag} {mg : Str → Option Value} {base : Heap} {x : Str} {st : Stmt} {N ps : List Str} {k : Nat} {sp : Sp} (D : DefAt K mg x st ps) (S : FnScope N ps (defScope st)) (len : ∀ vs H Q E, sp vs H Q E → vs.length = ps.length)
    (hbody : ∀ (f : Addr) (cdv : Value) (A : Around) (outer : List Env) (s : Shared) (H : Hp) (vs : List V) (Q : VK) (E : XK), Room k (A.deeper (envOfC x (defScope st) s.heap.objs.size f cdv)) → sp vs H Q E →
      ∃ t, PSs (cxOf (L2.CX P w) P w K mg base N x (defScope st) f cdv A outer s H E) (defBody st) t ∧ t { nx := fun _ H' => Q .non H', rt := Q } (start N vs) H) : Has P w K mg base (k + 1) x ps sp := by
  obtain ⟨f, fd, F, hm, hb, ha⟩ := D.ex
  exact ⟨f, fd, FunD.ok F S len (hbody f), hm, F.kp, hb, ha⟩
theorem Has.mono {P : Program} {w : World} {K : PySem.W.Frag} {mg : Str → Option Value} {base : Heap} {x : Str} {j k : Nat} (h : Has P w K mg base j x ps sp) (l : j ≤ k) : Has P w K mg base k x ps sp := by
  obtain ⟨f, fd, F, r⟩ := h.ex
  exact ⟨f, fd, F.mono l, r⟩
/-- in a def's body: what a callee lets out goes on -/
theorem passB {P : Program} {w : World} {K : PySem.W.Frag} {mg : Str → Option Value} {base : Heap} {N : List Str} {qual : Str} {scope : Scope} {f : Addr} {cd : Value} {A : Around} {outer : List Env} {s : Shared} {H : Hp} {E : XK} :
    Passes (L2.CX P w) (cxOf (L2.CX P w) P w K mg base N qual scope f cd A outer s H E) E := passes_call (takes_of rfl rfl rfl rfl) (fun _ _ _ _ h => h)
theorem takesB {P : Program} {w : World} {K : PySem.W.Frag} {mg : Str → Option Value} {base : Heap} {N : List Str} {qual : Str} {scope : Scope} {f : Addr} {cd : Value} {A : Around} {outer : List Env} {s : Shared} {H : Hp} {E : XK} :
    Takes (cxOf (L2.CX P w) P w K mg base N qual scope f cd A outer s H E) (fun cls d _ H => E cls d H) := takes_of rfl rfl rfl rfl
end

/-! ### an int of the module -/
theorem pe_kint {X : Cx} {x : Str} {i : Int} {pos : Pos} (h : ∃ t, X.mg x = some (.int i t)) (hg : Gl X x) (hd : (x == ("__debug__" : Str)) = false := by decide) : PE X (.Name x pos) (tC (.int i)) := by
  obtain ⟨t, ht⟩ := h
  exact pe_glob hg ht ⟨_, rfl⟩ hd

/-- a built-in class as a value -/
theorem pe_ty {X : Cx} {x : Str} {pos : Pos} (n : String) (hg : Gl X x) (hm : X.mg x = none) (hv : bootBuiltins x = some (.type n)) (hn : x ≠ "__name__" := by decide) (hd : (x == ("__debug__" : Str)) = false := by decide) : PE X (.Name x pos) (tC (.ty n)) :=
  pe_bltn hg hm hv (v := .ty n) rfl hn hd
/-! ### types -/
inductive Ty where | non | bl | int | str | lst | tup | dct
  deriving DecidableEq
def Ty.nm : Ty → String
  | .non => "NoneType" | .bl => "bool" | .int => "int" | .str => "str" | .lst => "list" | .tup => "tuple" | .dct => "dict"
def Ty.isa : Ty → Ty → Bool
  | .bl, .int => true
  | a, b => decide (a = b)
def Ty.ask : Ty → Bool
  | .non => false
  | _ => true
theorem kit_isa {a b : Ty} (h : b.ask = true) : kitB a.nm b.nm = some (a.isa b) := by
  cases b <;> first | (exact absurd h (by decide)) | (cases a <;> decide +kernel)
/-- a value whose type is known -/
def Kd (K : PySem.W.Frag) (H : Hp) (x : V) (t : Ty) : Prop := TyX K H x (.type t.nm)
section
variable {K : PySem.W.Frag} {H H' : Hp} {a : Addr} {xs : List V}
theorem Kd.non : Kd K H .non .non := .base .non
theorem Kd.bl (b : Bool) : Kd K H (.bl b) .bl := .base (.bl b)
theorem Kd.int (i : Int) : Kd K H (.int i) .int := .base (.int i)
theorem Kd.str (s : Str) : Kd K H (.str s) .str := .base (.str s)
theorem Kd.lst (h : SqL K H a xs) : Kd K H (.ref a) .lst := by
  rcases h with (h | ⟨o, h⟩) | ⟨o, its, n, h, c, _⟩
  · exact .base (.lst h)
  · exact .base (.frz h)
  · exact .kList h c
theorem Kd.tup (h : SqT K H a xs) : Kd K H (.ref a) .tup := by
  rcases h with (h | ⟨o, h⟩) | ⟨o, its, n, h, c, _⟩
  · exact .base (.tup h)
  · exact .fTuple h
  · exact .kTuple h c
theorem Kd.dct {kvs : List (Key × V)} (h : H a = some (.dK kvs)) : Kd K H (.ref a) .dct := .base (.dK h)
end
/-- isinstance(x, T), T built-in -/
def rIsK (K : PySem.W.Frag) : List V → Hp → VK → Prop := fun xs H Q => ∃ (x : V) (t c : Ty), xs = [x, .ty c.nm] ∧ c.ask = true ∧ Kd K H x t ∧ Q (.bl (t.isa c)) H
theorem rIsK_ty {K : PySem.W.Frag} {x : V} {H : Hp} {Q : VK} {n : String} (c : Ty) (hn : n = c.nm) (ha : c.ask = true) : rIsK K [x, .ty n] H Q = (∃ t, Kd K H x t ∧ Q (.bl (t.isa c)) H) := by
  subst hn
  apply propext
  constructor
  · rintro ⟨x', t, c', e, _, k, q⟩
    injection e with e1 e2
    injection e2 with e3 _
    injection e3 with e4
    have ec : c = c' := by
      cases c <;> cases c' <;> first | rfl | (exact absurd e4 (by decide))
    subst e1 ec
    exact ⟨t, k, q⟩
  · rintro ⟨t, k, q⟩
    exact ⟨x, t, c, rfl, ha, k, q⟩
theorem is_int {K : PySem.W.Frag} {x : V} {H : Hp} {Q : VK} : rIsK K [x, .ty "int"] H Q = (∃ t, Kd K H x t ∧ Q (.bl (t.isa .int)) H) := rIsK_ty .int rfl rfl
theorem is_bool {K : PySem.W.Frag} {x : V} {H : Hp} {Q : VK} : rIsK K [x, .ty "bool"] H Q = (∃ t, Kd K H x t ∧ Q (.bl (t.isa .bl)) H) := rIsK_ty .bl rfl rfl
theorem is_list {K : PySem.W.Frag} {x : V} {H : Hp} {Q : VK} : rIsK K [x, .ty "list"] H Q = (∃ t, Kd K H x t ∧ Q (.bl (t.isa .lst)) H) := rIsK_ty .lst rfl rfl
theorem is_tuple {K : PySem.W.Frag} {x : V} {H : Hp} {Q : VK} : rIsK K [x, .ty "tuple"] H Q = (∃ t, Kd K H x t ∧ Q (.bl (t.isa .tup)) H) := rIsK_ty .tup rfl rfl
theorem call_isK {X : Cx} : CallR X (.builtin "isinstance") (rIsK X.K) := by
  intro pins s σ H xs us Q I r h
  obtain ⟨x, t, c, rfl, ha, k, q⟩ := h
  exact call_isi pins s σ H _ us Q I r ⟨x, .ty c.nm, _, _, _, rfl, .ty _, k, kit_ty (kit_isa ha), q⟩

/-! ### operators -/
/-- a product: one factor small, or both together below a million bits -/
def CMu (i j : Int) : Prop := CMul i j ∨ CMulW i j
theorem op_mu {X : Cx} : OpR X (binaryOp .Mult) (rI CMu fun i j => .int (i * j)) := opI fun _ _ _ _ _ _ _ hc q => mul_int q (hc.elim CMul.ok CMulW.ok)
/-- a power -/
def CPw (i j : Int) : Prop := 0 ≤ j ∧ (Builtin.Int.intBits i : Int) * j ≤ 2 ^ 27
theorem op_pw {X : Cx} : OpR X (binaryOp .Pow) (rI CPw fun i j => .int (i ^ j.toNat)) := opI fun _ _ _ _ _ _ _ hc q => pow_int hc.1 hc.2 q
theorem pow2c (i : Nat) : (2 : Int) ^ i = ((2 ^ i : Nat) : Int) := by norm_cast
theorem op_sh {X : Cx} : OpR X (binaryOp .LShift) (rI CPow fun i j => .int (i * ((2 ^ j.toNat : Nat) : Int))) := opI fun _ _ _ _ _ _ _ hc q => lshift_int_small hc.1 hc.2.1 hc.2.2 (by rw [pow2c]; exact q)
theorem op_sr {X : Cx} : OpR X (binaryOp .RShift) (rI (fun _ j => 0 ≤ j) fun i j => .int (i / ((2 ^ j.toNat : Nat) : Int))) := opI fun i j s t u Q h hc q =>
  rshift_int hc (by rw [show i.fdiv (2 ^ j.toNat) = i / ((2 ^ j.toNat : Nat) : Int) by rw [← pow2c]; exact Int.fdiv_eq_ediv_of_nonneg i (two_pow_nn _)]; exact q)
theorem band_nn (n m : Nat) : Builtin.bitAnd (n : Int) (m : Int) = ((n &&& m : Nat) : Int) := rfl
theorem bor_nn (n m : Nat) : Builtin.bitOr (n : Int) (m : Int) = ((n ||| m : Nat) : Int) := bitOr_nn (by omega) (by omega)
theorem bxor_nn (n m : Nat) : Builtin.bitXor (n : Int) (m : Int) = ((n ^^^ m : Nat) : Int) := Bits.bitXor_pp (by omega) (by omega)

/-! ### own exception classes -/
structure ExcT (K : PySem.W.Frag) (mg : Str → Option Value) (x : Str) : Prop where
  g : mg x = some (.ref (He.ga K x))
  xc : PySem.W.excIn K (He.ga K x) He.veBase "ValueError.__new__" = true
  k : PySem.W.keepIn K (.ref (He.ga K x)) = true
  b : PySem.W.subIn K (.ref (He.ga K x)) (.type "BaseException") = some true
  t : PySem.W.typeIn K (.ref (He.ga K x)) = some (.type "type")
theorem ps_rz {X : Cx} {W : WX} {x m : Str} {j : Nat} {p p2 pos pos' : Pos} (hc : X.calm = true) (tk : Takes X W) (E : ExcT X.K X.mg x) (hg : Gl X x) (hdb : (x == ("__debug__" : Str)) = false := by decide) :
    PS X (.Raise (some (.Call (.Name x p) [.Constant (.str m) j p2] [] pos)) none pos') (fun _ σ H => W (.ref (He.ga X.K x)) none σ H) :=
  ps_raise hc tk (pmk_own PySem.F.excBase_ValueError E.xc E.g E.k (raises_own E.b E.t) hg hdb)


theorem k_cls {X : Cx} (K : PySem.W.Frag) {x : Str} {pos : Pos} (E : ExcT K X.mg x) (hg : Gl X x) (hd : (x == ("__debug__" : Str)) = false := by decide) : PE X (.Name x pos) (tC (.ref (He.ga K x))) := pe_glob hg E.g (show L2.RelV (.ref (He.ga K x)) (.ref (He.ga K x)) from rfl) hd
/-! ### the rules with the written part named (within a comprehension) -/
section
variable {X : Cx} (K : PySem.W.Frag)
theorem k_isK (h : X.K = K := by rfl) : CallR X (.builtin "isinstance") (rIsK K) := h ▸ call_isK
theorem k_ixl (h : X.K = K := by rfl) : IxR X (rIxL K) := h ▸ ix_list
theorem k_ixt (h : X.K = K := by rfl) : IxR X (rIxT K) := h ▸ ix_tup
theorem k_in (h : X.K = K := by rfl) : OpR X (compareOp .In) (rIn K false) := h ▸ op_in_seq
theorem k_nin (h : X.K = K := by rfl) : OpR X (compareOp .NotIn) (rIn K true) := h ▸ op_notIn_seq
theorem k_eqD (hu : X.A.units + 64 < cLine) (h : X.K = K := by rfl) : OpR X (compareOp .Eq) (rEqD K) := h ▸ op_eqD hu
theorem k_neD (hu : X.A.units + 64 < cLine) (h : X.K = K := by rfl) : OpR X (compareOp .NotEq) (rNeD K) := h ▸ op_neD hu
theorem k_len (h : X.K = K := by rfl) : CallR X (.builtin "len") (rLenS K) := h ▸ call_len_seq
theorem k_list (h : X.K = K := by rfl) : CallR X (.type "list") (rListS K) := h ▸ call_list_of
theorem k_rz {W : WX} {x m : Str} {j : Nat} {p p2 pos pos' : Pos} (hc : X.calm = true) (tk : Takes X W) (E : ExcT K X.mg x) (hg : Gl X x) (hK : X.K = K := by rfl) (hdb : (x == ("__debug__" : Str)) = false := by decide) :
    PS X (.Raise (some (.Call (.Name x p) [.Constant (.str m) j p2] [] pos)) none pos') (fun _ σ H => W (.ref (He.ga K x)) none σ H) := by
  subst hK
  exact ps_rz hc tk E hg hdb
theorem k_tuple (h : X.K = K := by rfl) : CallR X (.type "tuple") (fun xs H Q => ∃ p ys, xs = [.ref p] ∧ ((SqL K H p ys ∧ ∀ l, H l = none → Q (.ref l) (upd H l (.tup ys))) ∨ (SqT K H p ys ∧ Q (.ref p) H))) := h ▸ call_tuple_of
theorem k_bm0 {o : Expr} {to : TE} {name : Str} {apos cpos : Pos} {T id : String} {r : V → List V → Hp → VK → Prop} (pa : PlainAttrs T) (slot : Slot T name id) (hty : typeOf (.builtin id) = pure (.type "method_descriptor")) (hm : MtR X id r) (ho : PE X o to)
    (hK : X.K = K := by rfl) (hbase : attributeBase o name X.env (eval o X.env) = eval o X.env := by rfl) (hline : (apos.endLine == cpos.line) = true := by rfl) : PE X (.Call (.Attribute o name apos) [] [] cpos) (tBM0 K T r to) := by
  subst hK
  exact pe_bm0 pa slot hty hm ho hbase hline
theorem k_bm {o e : Expr} {es : List Expr} {to : TE} {t : TA} {name : Str} {apos cpos : Pos} {T id : String} {r : V → List V → Hp → VK → Prop} (pa : PlainAttrs T) (slot : Slot T name id) (hty : typeOf (.builtin id) = pure (.type "method_descriptor")) (hm : MtR X id r) (ho : PE X o to) (ha : PA X (e :: es) t)
    (hK : X.K = K := by rfl) (hbase : attributeBase o name X.env (eval o X.env) = eval o X.env := by rfl)
    (hfew : ((backTo cpos (starEach (e :: es) X.env)).all (fun x => !x.1) && (backToKw cpos (keywordEach [] X.env)).all (fun x => x.1.isSome)
      && decide ((e :: es).length + ([] : List Keyword).length + (if ([] : List Keyword).isEmpty then 0 else 1) < 30)) = true := by rfl)
    (hline : (apos.endLine == cpos.line) = true := by rfl) (hs : starEach (e :: es) X.env = (false, eval e X.env) :: starEach es X.env := by rfl) (hplain : (backTo cpos (starEach es X.env)).any (·.1) = false := by rfl) :
    PE X (.Call (.Attribute o name apos) (e :: es) [] cpos) (tBM K T r to t) := by
  subst hK
  exact pe_bm pa slot hty hm ho ha hbase hfew hline hs hplain
theorem k_sum (hc : X.calm = true) (h : X.K = K := by rfl) : CallR X (.builtin "sum") (rSum K) := h ▸ cr_sum hc
theorem k_all (hc : X.calm = true) (h : X.K = K := by rfl) : CallR X (.builtin "all") (rAll K) := h ▸ cr_all hc
theorem k_sorted (h : X.K = K := by rfl) : CallR X (.builtin "sorted") (rSorted K) := h ▸ cr_sorted
theorem k_sll (h : X.K = K := by rfl) : SlR X (rSlL K) := h ▸ sl_list
theorem k_pil {tg l : Expr} {tl : TE} (hl : PE X l tl) (h : X.K = K := by rfl) : PI X tg l (iList K tl) := h ▸ pi_list hl
theorem k_pgt {es : List Expr} {k : Nat} {t : TGs} {n : Nat} {pos : Pos} (hc : X.calm = true) (hp : PGs X es t) (hn : (assignEach es X.env).length = n := by rfl) (hst : (assignEach es X.env).findIdx? (·.1) = none := by rfl) (h : X.K = K := by rfl) : PG X (.Tuple es k pos) (gTup K n t) := h ▸ pg_tup hc hp hn hst
theorem k_enum {e : Expr} {ta : TA} {p pos tpos : Pos} {elts : List Expr} {kk : Nat} (hg : Gl X "enumerate") (hm : X.mg "enumerate" = none) (ha : PA X [e] ta) (h : X.K = K := by rfl) (hs : starEach [e] X.env = [(false, eval e X.env)] := by rfl) :
    PI X (.Tuple elts kk tpos) (.Call (.Name "enumerate" p) [e] [] pos) (iEnum K ta) := h ▸ pi_enum hg hm ha hs
theorem k_zip {e e2 : Expr} {ta : TA} {p pos tpos : Pos} {elts : List Expr} {kk : Nat} (hg : Gl X "zip") (hm : X.mg "zip" = none) (ha : PA X [e, e2] ta) (h : X.K = K := by rfl)
    (hs : starEach [e, e2] X.env = (false, eval e X.env) :: starEach [e2] X.env := by rfl) (hpl : (backTo pos (starEach [e2] X.env)).any (·.1) = false := by rfl) :
    PI X (.Tuple elts kk tpos) (.Call (.Name "zip" p) [e, e2] [] pos) (iZip K ta) := by
  subst h
  exact pi_zip hg hm ha hs hpl
theorem k_pit {tg l : Expr} {tl : TE} (hl : PE X l tl) (h : X.K = K := by rfl) : PI X tg l (iTup K tl) := h ▸ pi_tup hl
end
/-! ### loops, read from the left -/
section
variable {K : PySem.W.Frag} {D : Ends} {σ : L2.St} {H : Hp} {tb : TS} {g : TG}
/-- range(n): the args are told -/
theorem l_rng {n : Nat} {R : It → Hp → Prop} (hn : n ≤ 100000) (h : R (Itr 0 n) H) : ∃ j : Int, [V.int (n : Int)] = [.int j] ∧ -(2 ^ 62) ≤ j ∧ j < 2 ^ 62 ∧ R (Itr 0 j.toNat) H := ⟨n, rfl, by omega, by omega, h⟩
end
/-! ### the end of a law -/
theorem cx_end {P : Program} {w : World} {H : Hp} {s : Shared} {e : Value} {s' : Shared} (h : L2.CX P w [] H s (fun _ _ _ => False) e s') : False := by
  obtain ⟨_, _, _, _, _, _, _, _, _, _, _, _, z⟩ := h
  exact z.elim
theorem walk_ofE2 {l : PySem.W.OpenLaw} {n k : Nat} {q : Program} {loose : List Str} {XP : (Str → Option Value) → Heap → Prop} {YP : World → Heap → Prop} {d : DefRec} {CX : World → CXT} {x : Str}
    (hn : l.most = some n) (hn2 : n ≤ sizeLine) (hdf : d.params.defaults = []) (hr : Room k callerA)
    (F : ∀ (w : World) (mg : Str → Option Value) (fa : Addr) (h : Heap), YP w h → h.Ns mainGlobals mg → mg d.name = some (.ref fa) →
      ∃ (K : PySem.W.Frag) (fd : FuncData) (sp : Sp), K.In h ∧ (∀ (s : Shared) (u : Value), BindsTo s fd ⟨[u], []⟩ [(x, u)]) ∧
        (∀ (H : Hp) (a : Addr) (ns : List Int), ns.length ≤ n → Only H → SqL K H a (ns.map V.int) → sp [.ref a] H (fun v _ => v = .bl true) fun _ _ _ => False) ∧
        ∀ base : Heap, K.In base → base.Ns mainGlobals mg → FnOk l.prog w K mg base (CX w) k fa fd [x] sp)
    (hCX : ∀ (w : World) (H : Hp) (s : Shared) (e : Value) (s' : Shared), CX w [] H s (fun _ _ _ => False) e s' → False) :
    PySem.W.WalkO q loose XP YP l.row.toRowW d [] (fun f vs => PySem.call f vs) := by
  refine Att.attach_call hn hdf fun w s₀ s₁ mg mb fa o pm cd doc a vs ns G Y ho hd hcd hmg hobj hints hlen hg => ?_
  obtain ⟨K, fd, sp, KX, hb, hsp, hF⟩ := F w mg fa _ Y G.T.g hmg
  exact law_call KX G.T.g G.T.b G.T.builtins G.T.nolimit hg hobj hints (Nat.le_trans hlen hn2) hr hF hb (fun H hO hS => hsp H a ns hlen hO hS) fun H e s' => hCX w H s₁ e s'
end SS

/-! comprehensions and loops: what they evaluate to -/
namespace SS
open PySem PySem.Spec PyProof.Rows L2 Evl

theorem ty_lst {K : PySem.W.Frag} {H : Hp} {a : Addr} {xs : List V} (h : SqL K H a xs) : tyV K "list" (.ref a) H := .inl ⟨rfl, _, h⟩
theorem cmu_w {i j : Int} {n m : Nat} (hi : i.natAbs < 2 ^ n) (hj : j.natAbs < 2 ^ m) (h0 : 0 < n) (h1 : 0 < m) (h : n + m ≤ 1000000) : CMu i j := .inr (wide_mul hi hj h0 h1 h)
theorem cmu_l {i j : Int} (h : -(2 ^ 64) < i ∧ i < 2 ^ 64) : CMu i j := .inl (.inl h)
theorem cmu_r {i j : Int} (h : -(2 ^ 64) < j ∧ j < 2 ^ 64) : CMu i j := .inl (.inr h)
theorem cpow1 {i : Nat} (h : i ≤ 1000000) : CPow 1 (i : Int) := ⟨by omega, by omega, by decide⟩
/-! ### lists by places -/
theorem range_get {α : Type} (xs : List α) (d : α) : (List.range xs.length).map (fun i => xs.getD i d) = xs := by
  apply List.ext_getElem
  · simp
  · intro i h1 h2
    simp [List.getD_eq_getElem?_getD, h2]
theorem given_list {α : Type} (xs : List α) (d : α) (f : α → Bool) (g : α → V) : given xs.length (fun i => f (xs.getD i d)) (fun i => g (xs.getD i d)) = (xs.filter f).map g := by
  unfold given
  conv => rhs; rw [← range_get xs d]
  rw [List.filter_map, List.map_map]
  rfl
theorem getD_of {α : Type} {xs : List α} {i : Nat} {x : α} (d : α) (h : xs[i]? = some x) : xs.getD i d = x := by
  rw [List.getD_eq_getElem?_getD, h] <;> rfl

section
variable {K : PySem.W.Frag} {σ : L2.St} {H H' : Hp} {ta te tl : TE} {t : TT}
/-- [g x for x in xs if f x], values -/
theorem lc_vals {a : Addr} {xs : List V} {j : Nat} {vs : List Nat} (f : V → Bool) (g : V → V) (h : Ev tl σ H (.ref a)) (hx : SqL K H a xs) (hz : xs.length ≤ 40000) (hw : ∀ x, wipe ((wipe σ vs).set j (some x)) vs = wipe σ vs)
    (ht : ∀ x, x ∈ xs → ∀ H1, Ex H H1 → EvT t ((wipe σ vs).set j (some x)) H1 (f x)) (he : ∀ x, x ∈ xs → ∀ H1, Ex H H1 → f x = true → Ev te ((wipe σ vs).set j (some x)) H1 (g x)) :
    EvL (tLc (iList K tl) (gName j) t te vs) σ H ((xs.filter f).map g) := by
  rw [← given_list xs .non f g]
  refine el_lcL _ _ h hx hz hw (fun i x H1 e hi => ?_) (fun i x H1 e hi hf => ?_)
  · rw [getD_of .non hi]
    exact ht x (List.mem_of_getElem? hi) H1 e
  · rw [getD_of .non hi] at hf ⊢
    exact he x (List.mem_of_getElem? hi) H1 e hf
theorem get_ints {ns : List Int} {i : Nat} {x : V} (h : (ns.map V.int)[i]? = some x) : ∃ n, ns[i]? = some n ∧ x = .int n := by
  rw [List.getElem?_map] at h
  cases e : ns[i]? with
  | none => rw [e] at h; cases h
  | some n => rw [e] at h; exact ⟨n, rfl, (Option.some.inj h).symm⟩
/-- .. over a list of ints -/
theorem lc_ints {a : Addr} {ns : List Int} {j : Nat} {vs : List Nat} (f : Int → Bool) (g : Int → V) (h : Ev tl σ H (.ref a)) (hx : SqL K H a (ns.map V.int)) (hz : ns.length ≤ 40000) (hw : ∀ x, wipe ((wipe σ vs).set j (some x)) vs = wipe σ vs)
    (ht : ∀ n, n ∈ ns → ∀ H1, Ex H H1 → EvT t ((wipe σ vs).set j (some (.int n))) H1 (f n)) (he : ∀ n, n ∈ ns → ∀ H1, Ex H H1 → f n = true → Ev te ((wipe σ vs).set j (some (.int n))) H1 (g n)) :
    EvL (tLc (iList K tl) (gName j) t te vs) σ H ((ns.filter f).map g) := by
  rw [← given_list ns 0 f g]
  have hl : (ns.map V.int).length = ns.length := List.length_map _
  rw [← hl]
  refine el_lcL _ _ h hx (by rw [hl]; exact hz) hw (fun i x H1 e hi => ?_) (fun i x H1 e hi hf => ?_)
  · obtain ⟨n, hn, rfl⟩ := get_ints hi
    rw [getD_of 0 hn]
    exact ht n (List.mem_of_getElem? hn) H1 e
  · obtain ⟨n, hn, rfl⟩ := get_ints hi
    rw [getD_of 0 hn] at hf ⊢
    exact he n (List.mem_of_getElem? hn) H1 e hf
theorem yes_ev : EvT tYes σ H true := fun H1 _ Q q => q H1 (Ex.refl H1)
/-- any iterator, what is gathered by places -/
theorem cw_step {J : It} {g : TG} {n : Nat} {vs : List Nat} {f : Nat → Bool} {v : Nat → V} {Q : VK} (hgo : ∀ i H1, Ex H H1 → i < n → J.go i H1) (hst : ∀ H1, Ex H H1 → J.stop n H1) (hz : n ≤ 40000)
    (hy : ∀ i x H1 H2, i < n → Ex H H1 → J.yld i H1 x H2 → Ex H1 H2 ∧ ∀ Dl, H Dl = none → H1 Dl ≠ none → H2 Dl = H1 Dl ∧ ∀ R : L2.St → Hp → Prop, (∀ σ2, wipe σ2 vs = wipe σ vs → EvT t σ2 H (f i) → (f i = true → Ev te σ2 H (v i)) → R σ2 H2) → g x (wipe σ vs) H2 R)
    (q : ∀ p H2, H p = none → Ex H H2 → H2 p = some (.lst (given n f v)) → Q (.ref p) H2) (Dl : Addr) (hD : H Dl = none) :
    ∃ W : Nat → Nat → Hp → Prop, (∃ m, W 0 m (upd H Dl (.lst []))) ∧ ∀ i m H, W i m H →
      (J.stop i H ∧ Q (.ref Dl) H) ∨ (J.go i H ∧ ∃ Nx : Hp → Prop, (∀ H', Nx H' → ∃ m', m' < m ∧ W (i + 1) m' H') ∧ ∀ x H', J.yld i H x H' → g x (wipe σ vs) H' fun σ2 H2 => wipe σ2 vs = wipe σ vs ∧ t σ2 H2 fun b H3 =>
        if b = true then te σ2 H3 fun y H4 => ∃ acc, H4 Dl = some (.lst acc) ∧ acc.length < sizeLine ∧ Nx (upd H4 Dl (.lst (acc ++ [y]))) else Nx H3) := by
  refine ⟨fun i m H' => m = n - i ∧ i ≤ n ∧ Cw H f v Dl i H', ⟨n, by simp, Nat.zero_le _, hD, Ex.new hD, upd_same⟩, ?_⟩
  rintro i m H1 ⟨rfl, hi, c⟩
  by_cases hlt : i < n
  · refine .inr ⟨hgo i H1 c.2.1 hlt, fun H' => Cw H f v Dl (i + 1) H', fun H' c' => ⟨n - (i + 1), by omega, rfl, hlt, c'⟩, fun x H2 y => ?_⟩
    obtain ⟨e12, hh⟩ := hy i x H1 H2 hlt c.2.1 y
    obtain ⟨eD, hR⟩ := hh Dl hD (by rw [c.2.2]; exact fun z => nomatch z)
    refine hR _ fun σ2 hw ht he => ⟨hw, ?_⟩
    have c2 : Cw H f v Dl i H2 := ⟨hD, c.2.1.trans e12, by rw [eD]; exact c.2.2⟩
    exact cw_turn c2 (by omega) ht he
  · have e : i = n := by omega
    subst e
    exact .inl ⟨hst H1 c.2.1, q Dl H1 c.1 c.2.1 c.2.2⟩
/-- a pair's two names -/
theorem pair_tgt {K : PySem.W.Frag} {T : Addr} {x y : V} {i j : Nat} {σ : L2.St} {H1 : Hp} {R : L2.St → Hp → Prop} (h : R ((σ.set i (some x)).set j (some y)) (upd H1 T (.tup [x, y]))) :
    gTup K 2 (gCons (gName i) (gCons (gName j) gNil)) (.ref T) σ (upd H1 T (.tup [x, y])) R :=
  ⟨T, [x, y], rfl, .inl (.inl upd_same), rfl, x, [y], rfl, y, [], rfl, rfl, h⟩
/-- [.. for i, x in enumerate(xs) if ..] -/
theorem lc_enum {ta : TA} {a : Addr} {xs : List V} {i j : Nat} {vs : List Nat} (f : Nat → Bool) (v : Nat → V) (h : EvA ta σ H [.ref a]) (hx : SqL K H a xs) (hz : xs.length ≤ 40000) (hw : ∀ x y, wipe (((wipe σ vs).set i (some x)).set j (some y)) vs = wipe σ vs)
    (ht : ∀ (k : Nat) (x : V) H1, Ex H H1 → xs[k]? = some x → EvT t (((wipe σ vs).set i (some (.int (k : Nat)))).set j (some x)) H1 (f k)) (he : ∀ (k : Nat) (x : V) H1, Ex H H1 → xs[k]? = some x → f k = true → Ev te (((wipe σ vs).set i (some (.int (k : Nat)))).set j (some x)) H1 (v k)) :
    EvL (tLc (iEnum K ta) (gTup K 2 (gCons (gName i) (gCons (gName j) gNil))) t te vs) σ H (given xs.length f v) := fun H0 e0 Q q => h H0 e0 _ fun H1 e1 => ⟨a, xs, rfl, ex_l (e0.trans e1) hx, fun Dl hD =>
  cw_step (J := Ite K a) (n := xs.length) (f := f) (v := v) (t := t) (te := te) (fun k H2 e2 hk => ⟨xs, xs[k], ex_l ((e0.trans e1).trans e2) hx, by simp [hk]⟩) (fun H2 e2 => ⟨xs, ex_l ((e0.trans e1).trans e2) hx, Nat.le_refl _⟩) hz
    (fun k x H2 H3 hk e2 y => by
      obtain ⟨T, z, rfl, nT, rfl, hh⟩ := y
      have hz2 := hh xs (ex_l ((e0.trans e1).trans e2) hx)
      refine ⟨Ex.new nT, fun Dl hD hn => ⟨upd_ne (fun z => hn (by rw [z]; exact nT)), fun R hR => pair_tgt (hR _ (hw _ _) (ht k z H1 (e0.trans e1) hz2) (he k z H1 (e0.trans e1) hz2))⟩⟩)
    (fun p H2 hp e2 hl => q p H2 (fresh_back e1 hp) (e1.trans e2) hl) Dl hD⟩
/-- [.. for x, y in zip(xs, ys) if ..], lists of one length -/
theorem lc_zip {ta : TA} {a b : Addr} {xs ys : List V} {i j : Nat} {vs : List Nat} (f : Nat → Bool) (v : Nat → V) (h : EvA ta σ H [.ref a, .ref b]) (hx : SqL K H a xs) (hyy : SqL K H b ys) (hl : xs.length = ys.length) (hz : xs.length ≤ 40000) (hw : ∀ x y, wipe (((wipe σ vs).set i (some x)).set j (some y)) vs = wipe σ vs)
    (ht : ∀ (k : Nat) (x y : V) H1, Ex H H1 → xs[k]? = some x → ys[k]? = some y → EvT t (((wipe σ vs).set i (some x)).set j (some y)) H1 (f k)) (he : ∀ (k : Nat) (x y : V) H1, Ex H H1 → xs[k]? = some x → ys[k]? = some y → f k = true → Ev te (((wipe σ vs).set i (some x)).set j (some y)) H1 (v k)) :
    EvL (tLc (iZip K ta) (gTup K 2 (gCons (gName i) (gCons (gName j) gNil))) t te vs) σ H (given xs.length f v) := fun H0 e0 Q q => h H0 e0 _ fun H1 e1 => ⟨a, b, xs, ys, rfl, ex_l (e0.trans e1) hx, ex_l (e0.trans e1) hyy, fun Dl hD =>
  cw_step (J := Itz K a b) (n := xs.length) (f := f) (v := v) (t := t) (te := te) (fun k H2 e2 hk => ⟨xs, ys, xs[k], ys[k], ex_l ((e0.trans e1).trans e2) hx, ex_l ((e0.trans e1).trans e2) hyy, by simp [hk], by simp [hl ▸ hk]⟩) (fun H2 e2 => ⟨xs, ys, ex_l ((e0.trans e1).trans e2) hx, ex_l ((e0.trans e1).trans e2) hyy, .inl (Nat.le_refl _)⟩) hz
    (fun k x H2 H3 hk e2 y => by
      obtain ⟨T, z, u, rfl, nT, rfl, h1, h2⟩ := y
      have hz1 := h1 xs (ex_l ((e0.trans e1).trans e2) hx)
      have hz2 := h2 ys (ex_l ((e0.trans e1).trans e2) hyy)
      refine ⟨Ex.new nT, fun Dl hD hn => ⟨upd_ne (fun z => hn (by rw [z]; exact nT)), fun R hR => pair_tgt (hR _ (hw _ _) (ht k z u H1 (e0.trans e1) hz1 hz2) (he k z u H1 (e0.trans e1) hz1 hz2))⟩⟩)
    (fun p H2 hp e2 hl => q p H2 (fresh_back e1 hp) (e1.trans e2) hl) Dl hD⟩
end

/-! ### lists of lists of ints -/
/-- the items of xs are lists that hold rows -/
def Rows (K : PySem.W.Frag) (H : Hp) (xs : List V) (rows : List (List Int)) : Prop := Paired (fun (x : V) (ns : List Int) => ∃ a, x = .ref a ∧ SqL K H a (ns.map V.int)) xs rows
theorem Rows.mono {K : PySem.W.Frag} {H H' : Hp} (e : Ex H H') : ∀ {xs : List V} {rows : List (List Int)}, Rows K H xs rows → Rows K H' xs rows
  | _, _, .nil => .nil
  | _, _, .cons ⟨a, h, q⟩ t => .cons ⟨a, h, ex_l e q⟩ (Rows.mono e t)
theorem Rows.len {K : PySem.W.Frag} {H : Hp} {xs : List V} {rows : List (List Int)} (h : Rows K H xs rows) : xs.length = rows.length := Paired.length h
theorem Rows.get {K : PySem.W.Frag} {H : Hp} {xs : List V} {rows : List (List Int)} (h : Rows K H xs rows) {i : Nat} {r : List Int} (hr : rows[i]? = some r) : ∃ a, xs[i]? = some (.ref a) ∧ SqL K H a (r.map V.int) := by
  induction h generalizing i with
  | nil => simp at hr
  | cons p t ih =>
    cases i with
    | zero =>
      obtain ⟨a, rfl, q⟩ := p
      have e := Option.some.inj hr
      subst e
      exact ⟨a, rfl, q⟩
    | succ i => exact ih (i := i) (by simpa using hr)
theorem Rows.snoc {K : PySem.W.Frag} {H : Hp} {a : Addr} {r : List Int} : ∀ {xs : List V} {rows : List (List Int)}, Rows K H xs rows → SqL K H a (r.map V.int) → Rows K H (xs ++ [.ref a]) (rows ++ [r])
  | _, _, .nil, h => .cons ⟨a, rfl, h⟩ .nil
  | _, _, .cons p t, h => .cons p (Rows.snoc t h)
section
variable {K : PySem.W.Frag} {σ : L2.St} {H H' : Hp} {ta te tl : TE} {t : TT}
/-- any iterator, each turn a new list of ints -/
theorem rows_step {J : It} {g : TG} {n : Nat} {vs : List Nat} {r : Nat → List Int} {Q : VK} (hgo : ∀ i H1, Ex H H1 → i < n → J.go i H1) (hst : ∀ H1, Ex H H1 → J.stop n H1) (hz : n ≤ 40000)
    (hy : ∀ i x H1 H2, i < n → Ex H H1 → J.yld i H1 x H2 → Ex H1 H2 ∧ ∀ Dl, H Dl = none → H1 Dl ≠ none → H2 Dl = H1 Dl ∧ ∀ R : L2.St → Hp → Prop, (∀ σ2, wipe σ2 vs = wipe σ vs → EvL te σ2 H ((r i).map V.int) → R σ2 H2) → g x (wipe σ vs) H2 R)
    (q : ∀ p xs H2, H p = none → Ex H H2 → H2 p = some (.lst xs) → Rows K H2 xs ((List.range n).map r) → Q (.ref p) H2) (Dl : Addr) (hD : H Dl = none) :
    ∃ W : Nat → Nat → Hp → Prop, (∃ m, W 0 m (upd H Dl (.lst []))) ∧ ∀ i m H, W i m H →
      (J.stop i H ∧ Q (.ref Dl) H) ∨ (J.go i H ∧ ∃ Nx : Hp → Prop, (∀ H', Nx H' → ∃ m', m' < m ∧ W (i + 1) m' H') ∧ ∀ x H', J.yld i H x H' → g x (wipe σ vs) H' fun σ2 H2 => wipe σ2 vs = wipe σ vs ∧ tYes σ2 H2 fun b H3 =>
        if b = true then te σ2 H3 fun y H4 => ∃ acc, H4 Dl = some (.lst acc) ∧ acc.length < sizeLine ∧ Nx (upd H4 Dl (.lst (acc ++ [y]))) else Nx H3) := by
  refine ⟨fun i m H' => m = n - i ∧ i ≤ n ∧ ∃ (S : Hp) (xs : List V), Ex H S ∧ S Dl = none ∧ Ex S H' ∧ H' Dl = some (.lst xs) ∧ Rows K S xs ((List.range i).map r), ⟨n, by simp, Nat.zero_le _, H, [], Ex.refl H, hD, Ex.new hD, upd_same, .nil⟩, ?_⟩
  rintro i m H1 ⟨rfl, hi, S, xs, e1, nS, e2, hl, hr⟩
  by_cases hlt : i < n
  · refine .inr ⟨hgo i H1 (e1.trans e2) hlt, fun H' => ∃ (S : Hp) (xs : List V), Ex H S ∧ S Dl = none ∧ Ex S H' ∧ H' Dl = some (.lst xs) ∧ Rows K S xs ((List.range (i + 1)).map r), fun H' c' => ⟨n - (i + 1), by omega, rfl, hlt, c'⟩, fun x H2 y => ?_⟩
    obtain ⟨e12, hh⟩ := hy i x H1 H2 hlt (e1.trans e2) y
    obtain ⟨eD, hR⟩ := hh Dl hD (by rw [hl]; exact fun z => nomatch z)
    refine hR _ fun σ2 hw he => ⟨hw, ?_⟩
    show te σ2 H2 fun y H4 => ∃ acc, H4 Dl = some (.lst acc) ∧ acc.length < sizeLine ∧ _
    refine he H2 ((e1.trans e2).trans e12) _ fun p H4 np e4 h4 => ?_
    have hD2 : H2 Dl = some (.lst xs) := by rw [eD]; exact hl
    have hpD : p ≠ Dl := fun z => by rw [z, hD2] at np; cases np
    have nSp : S p = none := fresh_back (e2.trans e12) np
    refine ⟨xs, e4 Dl _ hD2, ?_, upd S p (.lst ((r i).map V.int)), xs ++ [.ref p], e1.trans (Ex.new nSp), ?_, ?_, upd_same, ?_⟩
    · have := hr.len
      rw [List.length_map, List.length_range] at this
      exact sz_lt (by omega)
    · rw [upd_ne (Ne.symm hpD)]
      exact nS
    · refine Ex.mut ?_ (by rw [upd_ne (Ne.symm hpD)]; exact nS)
      intro b o hb
      by_cases hbp : b = p
      · subst hbp
        rw [upd_same] at hb
        rw [← hb]
        exact h4
      · rw [upd_ne hbp] at hb
        exact e4 b o (e12 b o (e2 b o hb))
    · rw [List.range_succ, List.map_append]
      exact Rows.snoc (hr.mono (Ex.new nSp)) (.inl (.inl upd_same))
  · have e : i = n := by omega
    subst e
    exact .inl ⟨hst H1 (e1.trans e2), q Dl xs H1 hD (e1.trans e2) hl (hr.mono e2)⟩
/-- [a list for i in range(n)] -/
theorem lc_rowsR {ta : TA} {j : Nat} {vs : List Nat} {n : Nat} {r : Nat → List Int} {Q : VK} (h : EvA ta σ H [.int (n : Int)]) (hz : n ≤ 40000) (hw : ∀ x, wipe ((wipe σ vs).set j (some x)) vs = wipe σ vs)
    (he : ∀ k H1, k < n → Ex H H1 → EvL te ((wipe σ vs).set j (some (.int (k : Nat)))) H1 ((r k).map V.int))
    (q : ∀ p xs H2, H p = none → Ex H H2 → H2 p = some (.lst xs) → Rows K H2 xs ((List.range n).map r) → Q (.ref p) H2) : tLc (iRng1 ta) (gName j) tYes te vs σ H Q :=
  h H (Ex.refl H) _ fun H1 e1 => ⟨n, rfl, by omega, by omega, fun Dl hD =>
  rows_step (K := K) (J := Itr 0 n) (r := r) (te := te) (fun k H2 e2 hk => hk) (fun H2 e2 => Nat.le_refl _) hz
    (fun k x H2 H3 hk e2 y => by
      obtain ⟨e3, rfl⟩ := y
      subst e3
      refine ⟨Ex.refl _, fun Dl hD hn => ⟨rfl, fun R hR => ?_⟩⟩
      show R _ _
      have := he k H1 hk e1
      rw [show (0 : Int) + (k : Int) = (k : Int) from Int.zero_add _]
      exact hR _ (hw _) this)
    (fun p xs H2 hp e2 hl hr => q p xs H2 (fresh_back e1 hp) (e1.trans e2) hl hr) Dl hD⟩
end
/-! ### what is a table, what is none -/
def isI : V → Bool
  | .int _ => true
  | _ => false
/-- an item whose type is known -/
def El (K : PySem.W.Frag) (H : Hp) (x : V) : Prop := ∃ t, Kd K H x t ∧ decide (t = .int) = isI x
theorem kd_mono {K : PySem.W.Frag} {H H' : Hp} {x : V} {t : Ty} (e : Ex H H') (h : Kd K H x t) : Kd K H' x t := by
  unfold Kd at h ⊢
  generalize (Value.type t.nm) = T at h ⊢
  cases h with
  | base b =>
    cases b with
    | non => exact .base .non
    | bl y => exact .base (.bl y)
    | int i => exact .base (.int i)
    | str y => exact .base (.str y)
    | flt y => exact .base (.flt y)
    | lst q => exact .base (.lst (e _ _ q))
    | frz q => exact .base (.frz (e _ _ q))
    | tup q => exact .base (.tup (e _ _ q))
    | dK q => exact .base (.dK (e _ _ q))
    | dT q => exact .base (.dT (e _ _ q))
    | ins q a b c d f => exact .base (.ins (e _ _ q) a b c d f)
  | byt b => exact .byt b
  | set q => exact .set (e _ _ q)
  | kList q c => exact .kList q c
  | kTuple q c => exact .kTuple q c
  | kDict q c => exact .kDict q c
  | fTuple q => exact .fTuple (e _ _ q)
  | fDict q => exact .fDict (e _ _ q)
theorem El.mono {K : PySem.W.Frag} {H H' : Hp} {x : V} (e : Ex H H') (h : El K H x) : El K H' x := by
  obtain ⟨t, k, q⟩ := h
  exact ⟨t, kd_mono e k, q⟩
theorem El.int {K : PySem.W.Frag} {H : Hp} (i : Int) : El K H (.int i) := ⟨.int, .int i, rfl⟩
/-- what is no table -/
def NoTab (K : PySem.W.Frag) (H : Hp) (x : V) : Prop := (∃ t, Kd K H x t ∧ t ≠ .lst) ∨
  ∃ a xs, x = .ref a ∧ SqL K H a xs ∧ xs.length ≤ 40000 ∧ (∀ y ∈ xs, El K H y) ∧ (xs.all isI = false ∨ (xs.all isI = true ∧ ∀ n, n ≤ 10 → xs.length ≠ 2 ^ n))
theorem NoTab.mono {K : PySem.W.Frag} {H H' : Hp} {x : V} (e : Ex H H') (h : NoTab K H x) : NoTab K H' x := by
  rcases h with ⟨t, k, q⟩ | ⟨a, xs, rfl, h1, h2, h3, h4⟩
  · exact .inl ⟨t, kd_mono e k, q⟩
  · exact .inr ⟨a, xs, rfl, ex_l e h1, h2, fun y hy => (h3 y hy).mono e, h4⟩
/-- a table of n names -/
def IsTab (K : PySem.W.Frag) (H : Hp) (x : V) (n : Nat) (ns : List Int) : Prop := ∃ a, x = .ref a ∧ SqL K H a (ns.map V.int) ∧ n ≤ 10 ∧ ns.length = 2 ^ n
theorem IsTab.mono {K : PySem.W.Frag} {H H' : Hp} {x : V} {n : Nat} {ns : List Int} (e : Ex H H') (h : IsTab K H x n ns) : IsTab K H' x n ns := by
  obtain ⟨a, rfl, h1, h2⟩ := h
  exact ⟨a, rfl, ex_l e h1, h2⟩
theorem pow_le {n : Nat} (h : n ≤ 10) : 2 ^ n ≤ 1024 := Nat.pow_le_pow_right (by decide) h
theorem pow_inj {n m : Nat} (h : 2 ^ n = 2 ^ m) : n = m := (Nat.pow_right_inj (by decide)).mp h
/-! ### loops and comprehensions behind the reading of what is walked -/
def WFor (J : It) (g : TG) (tb : TS) (D : Ends) (σ : L2.St) (H1 : Hp) : Prop := ∃ W : Nat → Nat → L2.St → Hp → Prop, (∃ m, W 0 m σ H1) ∧ ∀ i m σ H, W i m σ H →
  (J.stop i H ∧ D.nx σ H) ∨ (J.go i H ∧ ∃ N : L2.St → Hp → Prop, (∀ σ' H', N σ' H' → ∃ m', m' < m ∧ W (i + 1) m' σ' H') ∧ ∀ x H', J.yld i H x H' → g x σ H' fun σ2 H2 => tb { D with nx := N, ct := N, bk := D.nx } σ2 H2)
def WLc (J : It) (g : TG) (tt : TT) (te : TE) (vs : List Nat) (σ : L2.St) (H1 : Hp) (Q : VK) : Prop := ∀ D, H1 D = none → ∃ W : Nat → Nat → Hp → Prop, (∃ m, W 0 m (upd H1 D (.lst []))) ∧ ∀ i m H, W i m H →
  (J.stop i H ∧ Q (.ref D) H) ∨ (J.go i H ∧ ∃ Nx : Hp → Prop, (∀ H', Nx H' → ∃ m', m' < m ∧ W (i + 1) m' H') ∧ ∀ x H', J.yld i H x H' → g x (wipe σ vs) H' fun σ2 H2 => wipe σ2 vs = wipe σ vs ∧ tt σ2 H2 fun b H3 =>
    if b = true then te σ2 H3 fun y H4 => ∃ acc, H4 D = some (.lst acc) ∧ acc.length < sizeLine ∧ Nx (upd H4 D (.lst (acc ++ [y]))) else Nx H3)
theorem tFor_W {wi : TI} {g : TG} {tb : TS} {D : Ends} {σ : L2.St} {H : Hp} : tFor wi g tb D σ H = wi σ H (fun J H1 => WFor J g tb D σ H1) := rfl
theorem tLc_W {wi : TI} {g : TG} {tt : TT} {te : TE} {vs : List Nat} {σ : L2.St} {H : Hp} {Q : VK} : tLc wi g tt te vs σ H Q = wi σ H (fun J H1 => WLc J g tt te vs σ H1 Q) := rfl
section
variable {K : PySem.W.Frag} {g : TG} {tb : TS} {D : Ends} {σ : L2.St} {H : Hp} {te : TE} {t : TT} {Q : VK}
theorem w_list {a : Addr} (xs : List V) (Pv : Nat → L2.St → Hp → Prop) (h0 : Pv 0 σ H) (hl : ∀ i σ H, i ≤ xs.length → Pv i σ H → SqL K H a xs)
    (hs : ∀ i x σ H, xs[i]? = some x → Pv i σ H → g x σ H fun σ2 H2 => tb { D with nx := Pv (i + 1), ct := Pv (i + 1), bk := D.nx } σ2 H2) (hd : ∀ σ H, Pv xs.length σ H → D.nx σ H) : WFor (Itl K a) g tb D σ H := for_list Pv h0 hl hs hd
theorem w_tup {a : Addr} (xs : List V) (Pv : Nat → L2.St → Hp → Prop) (h0 : Pv 0 σ H) (hl : ∀ i σ H, i ≤ xs.length → Pv i σ H → SqT K H a xs)
    (hs : ∀ i x σ H, xs[i]? = some x → Pv i σ H → g x σ H fun σ2 H2 => tb { D with nx := Pv (i + 1), ct := Pv (i + 1), bk := D.nx } σ2 H2) (hd : ∀ σ H, Pv xs.length σ H → D.nx σ H) : WFor (Itt K a) g tb D σ H := for_tup Pv h0 hl hs hd
theorem w_rng {lo : Int} {n : Nat} (Pv : Nat → L2.St → Hp → Prop) (h0 : Pv 0 σ H)
    (hs : ∀ i σ H, i < n → Pv i σ H → g (.int (lo + i)) σ H fun σ2 H2 => tb { D with nx := Pv (i + 1), ct := Pv (i + 1), bk := D.nx } σ2 H2) (hd : ∀ σ H, Pv n σ H → D.nx σ H) : WFor (Itr lo n) g tb D σ H := for_range Pv h0 hs hd
theorem w_rng0 {n : Nat} {j : Nat} (Pv : Nat → L2.St → Hp → Prop) (h0 : Pv 0 σ H)
    (hs : ∀ (i : Nat) σ H, i < n → Pv i σ H → tb { D with nx := Pv (i + 1), ct := Pv (i + 1), bk := D.nx } (σ.set j (some (.int (i : Nat)))) H) (hd : ∀ σ H, Pv n σ H → D.nx σ H) : WFor (Itr 0 n) (gName j) tb D σ H :=
  w_rng Pv h0 (fun i σ H hi p => by
    show tb _ (σ.set j (some (.int (0 + (i : Int))))) H
    rw [Int.zero_add]
    exact hs i σ H hi p) hd
theorem w_by {J : It} (n : Nat) (Pv : Nat → L2.St → Hp → Prop) (h0 : Pv 0 σ H) (hgo : ∀ i σ H, i < n → Pv i σ H → J.go i H) (hst : ∀ σ H, Pv n σ H → J.stop n H)
    (hs : ∀ i σ H x H', i < n → Pv i σ H → J.yld i H x H' → g x σ H' fun σ2 H2 => tb { D with nx := Pv (i + 1), ct := Pv (i + 1), bk := D.nx } σ2 H2) (hd : ∀ σ H, Pv n σ H → D.nx σ H) : WFor J g tb D σ H := by
  refine ⟨fun i m σ H => m = n - i ∧ i ≤ n ∧ Pv i σ H, ⟨n, by simp, Nat.zero_le _, h0⟩, ?_⟩
  rintro i m σ H ⟨rfl, hi, p⟩
  by_cases hlt : i < n
  · exact .inr ⟨hgo i σ H hlt p, Pv (i + 1), fun σ' H' p' => ⟨n - (i + 1), by omega, rfl, hlt, p'⟩, fun x H' y => hs i σ H x H' hlt p y⟩
  · have e : i = n := by omega
    subst e
    exact .inl ⟨hst σ H p, hd σ H p⟩
theorem w_enum {a : Addr} {i j : Nat} (xs : List V) (Pv : Nat → L2.St → Hp → Prop) (h0 : Pv 0 σ H) (hl : ∀ i σ H, Pv i σ H → SqL K H a xs)
    (hs : ∀ (k : Nat) x T σ H, xs[k]? = some x → H T = none → Pv k σ H → tb { D with nx := Pv (k + 1), ct := Pv (k + 1), bk := D.nx } ((σ.set i (some (.int (k : Nat)))).set j (some x)) (upd H T (.tup [.int (k : Nat), x]))) (hd : ∀ σ H, Pv xs.length σ H → D.nx σ H) :
    WFor (Ite K a) (gTup K 2 (gCons (gName i) (gCons (gName j) gNil))) tb D σ H :=
  w_by xs.length Pv h0 (fun k σ H hk p => ⟨xs, xs[k], hl k σ H p, by simp [hk]⟩) (fun σ H p => ⟨xs, hl _ σ H p, Nat.le_refl _⟩) (fun k σ H x H' hk p y => by
    obtain ⟨T, z, rfl, nT, rfl, hh⟩ := y
    exact pair_tgt (hs k z T σ H (hh xs (hl k σ H p)) nT p)) hd
theorem wl_vals {a : Addr} {j : Nat} {vs : List Nat} (xs : List V) (f : V → Bool) (v : V → V) (hx : SqL K H a xs) (hz : xs.length ≤ 40000) (hw : ∀ x, wipe ((wipe σ vs).set j (some x)) vs = wipe σ vs)
    (ht : ∀ x, x ∈ xs → ∀ H1, Ex H H1 → EvT t ((wipe σ vs).set j (some x)) H1 (f x)) (he : ∀ x, x ∈ xs → ∀ H1, Ex H H1 → f x = true → Ev te ((wipe σ vs).set j (some x)) H1 (v x))
    (q : ∀ p H2, H p = none → Ex H H2 → H2 p = some (.lst ((xs.filter f).map v)) → Q (.ref p) H2) : WLc (Itl K a) (gName j) t te vs σ H Q := by
  have h := lc_vals (K := K) (tl := tC (.ref a)) (te := te) (t := t) (σ := σ) f v (ev_c) hx hz hw ht he H (Ex.refl H) Q q
  obtain ⟨_, e, _, h⟩ := h
  cases e
  exact h
theorem wl_ints {a : Addr} {j : Nat} {vs : List Nat} (ns : List Int) (f : Int → Bool) (v : Int → V) (hx : SqL K H a (ns.map V.int)) (hz : ns.length ≤ 40000) (hw : ∀ x, wipe ((wipe σ vs).set j (some x)) vs = wipe σ vs)
    (ht : ∀ x, x ∈ ns → ∀ H1, Ex H H1 → EvT t ((wipe σ vs).set j (some (.int x))) H1 (f x)) (he : ∀ x, x ∈ ns → ∀ H1, Ex H H1 → f x = true → Ev te ((wipe σ vs).set j (some (.int x))) H1 (v x))
    (q : ∀ p H2, H p = none → Ex H H2 → H2 p = some (.lst ((ns.filter f).map v)) → Q (.ref p) H2) : WLc (Itl K a) (gName j) t te vs σ H Q := by
  have h := lc_ints (K := K) (tl := tC (.ref a)) (te := te) (t := t) (σ := σ) f v (ev_c) hx hz hw ht he H (Ex.refl H) Q q
  obtain ⟨_, e, _, h⟩ := h
  cases e
  exact h
theorem wl_rng {j : Nat} {vs : List Nat} {n : Nat} (f : Nat → Bool) (v : Nat → V) (hz : n ≤ 40000) (hw : ∀ x, wipe ((wipe σ vs).set j (some x)) vs = wipe σ vs)
    (ht : ∀ (i : Nat) H1, i < n → Ex H H1 → EvT t ((wipe σ vs).set j (some (.int (i : Nat)))) H1 (f i)) (he : ∀ (i : Nat) H1, i < n → Ex H H1 → f i = true → Ev te ((wipe σ vs).set j (some (.int (i : Nat)))) H1 (v i))
    (q : ∀ p H2, H p = none → Ex H H2 → H2 p = some (.lst (((List.range n).filter f).map v)) → Q (.ref p) H2) : WLc (Itr 0 n) (gName j) t te vs σ H Q :=
  fun Dl hD => cw_step (J := Itr 0 n) (n := n) (f := f) (v := v) (t := t) (te := te) (fun k H2 e2 hk => hk) (fun H2 e2 => Nat.le_refl _) hz
    (fun k x H2 H3 hk e2 y => by
      obtain ⟨e3, rfl⟩ := y
      subst e3
      refine ⟨Ex.refl _, fun Dl hD hn => ⟨rfl, fun R hR => ?_⟩⟩
      show R _ _
      rw [show (0 : Int) + (k : Int) = (k : Int) from Int.zero_add _]
      exact hR _ (hw _) (ht k H hk (Ex.refl _)) (he k H hk (Ex.refl _))) q Dl hD
theorem wl_enum {a : Addr} {i j : Nat} {vs : List Nat} (xs : List V) (f : Nat → Bool) (v : Nat → V) (hx : SqL K H a xs) (hz : xs.length ≤ 40000) (hw : ∀ x y, wipe (((wipe σ vs).set i (some x)).set j (some y)) vs = wipe σ vs)
    (ht : ∀ (k : Nat) (x : V) H1, Ex H H1 → xs[k]? = some x → EvT t (((wipe σ vs).set i (some (.int (k : Nat)))).set j (some x)) H1 (f k)) (he : ∀ (k : Nat) (x : V) H1, Ex H H1 → xs[k]? = some x → f k = true → Ev te (((wipe σ vs).set i (some (.int (k : Nat)))).set j (some x)) H1 (v k))
    (q : ∀ p H2, H p = none → Ex H H2 → H2 p = some (.lst (given xs.length f v)) → Q (.ref p) H2) : WLc (Ite K a) (gTup K 2 (gCons (gName i) (gCons (gName j) gNil))) t te vs σ H Q :=
  fun Dl hD => cw_step (J := Ite K a) (n := xs.length) (f := f) (v := v) (t := t) (te := te) (fun k H2 e2 hk => ⟨xs, xs[k], ex_l e2 hx, by simp [hk]⟩) (fun H2 e2 => ⟨xs, ex_l e2 hx, Nat.le_refl _⟩) hz
    (fun k x H2 H3 hk e2 y => by
      obtain ⟨T, z, rfl, nT, rfl, hh⟩ := y
      have hz2 := hh xs (ex_l e2 hx)
      refine ⟨Ex.new nT, fun Dl hD hn => ⟨upd_ne (fun z => hn (by rw [z]; exact nT)), fun R hR => pair_tgt (hR _ (hw _ _) (ht k z H (Ex.refl _) hz2) (he k z H (Ex.refl _) hz2))⟩⟩) q Dl hD
theorem wl_zip {a b : Addr} {i j : Nat} {vs : List Nat} (xs ys : List V) (f : Nat → Bool) (v : Nat → V) (hx : SqL K H a xs) (hyy : SqL K H b ys) (hl : xs.length = ys.length) (hz : xs.length ≤ 40000) (hw : ∀ x y, wipe (((wipe σ vs).set i (some x)).set j (some y)) vs = wipe σ vs)
    (ht : ∀ (k : Nat) (x y : V) H1, Ex H H1 → xs[k]? = some x → ys[k]? = some y → EvT t (((wipe σ vs).set i (some x)).set j (some y)) H1 (f k)) (he : ∀ (k : Nat) (x y : V) H1, Ex H H1 → xs[k]? = some x → ys[k]? = some y → f k = true → Ev te (((wipe σ vs).set i (some x)).set j (some y)) H1 (v k))
    (q : ∀ p H2, H p = none → Ex H H2 → H2 p = some (.lst (given xs.length f v)) → Q (.ref p) H2) : WLc (Itz K a b) (gTup K 2 (gCons (gName i) (gCons (gName j) gNil))) t te vs σ H Q :=
  fun Dl hD => cw_step (J := Itz K a b) (n := xs.length) (f := f) (v := v) (t := t) (te := te) (fun k H2 e2 hk => ⟨xs, ys, xs[k], ys[k], ex_l e2 hx, ex_l e2 hyy, by simp [hk], by simp [hl ▸ hk]⟩) (fun H2 e2 => ⟨xs, ys, ex_l e2 hx, ex_l e2 hyy, .inl (Nat.le_refl _)⟩) hz
    (fun k x H2 H3 hk e2 y => by
      obtain ⟨T, z, u, rfl, nT, rfl, h1, h2⟩ := y
      have hz1 := h1 xs (ex_l e2 hx)
      have hz2 := h2 ys (ex_l e2 hyy)
      refine ⟨Ex.new nT, fun Dl hD hn => ⟨upd_ne (fun z => hn (by rw [z]; exact nT)), fun R hR => pair_tgt (hR _ (hw _ _) (ht k z u H (Ex.refl _) hz1 hz2) (he k z u H (Ex.refl _) hz1 hz2))⟩⟩) q Dl hD
/-- [a new list of ints for i in range(n)] -/
theorem wl_rowsR {j : Nat} {vs : List Nat} {n : Nat} (r : Nat → List Int) (hz : n ≤ 40000) (hw : ∀ x, wipe ((wipe σ vs).set j (some x)) vs = wipe σ vs)
    (he : ∀ k H1, k < n → Ex H H1 → EvL te ((wipe σ vs).set j (some (.int (k : Nat)))) H1 ((r k).map V.int))
    (q : ∀ p xs H2, H p = none → Ex H H2 → H2 p = some (.lst xs) → Rows K H2 xs ((List.range n).map r) → Q (.ref p) H2) : WLc (Itr 0 n) (gName j) tYes te vs σ H Q :=
  fun Dl hD => rows_step (K := K) (J := Itr 0 n) (r := r) (te := te) (fun k H2 e2 hk => hk) (fun H2 e2 => Nat.le_refl _) hz
    (fun k x H2 H3 hk e2 y => by
      obtain ⟨e3, rfl⟩ := y
      subst e3
      refine ⟨Ex.refl _, fun Dl hD hn => ⟨rfl, fun R hR => ?_⟩⟩
      show R _ _
      rw [show (0 : Int) + (k : Int) = (k : Int) from Int.zero_add _]
      exact hR _ (hw _) (he k H hk (Ex.refl _))) q Dl hD
end
/-! ### == of data -/
def dI (ns : List Int) : PyData := .list (ns.map PyData.int)
def dS (ss : List Str) : PyData := .list (ss.map PyData.str)
def dR (rows : List (List Int)) : PyData := .list (rows.map dI)
theorem dpAll_ints {K : PySem.W.Frag} {H : Hp} : ∀ ns : List Int, DpAll K H (ns.map V.int) (ns.map PyData.int)
  | [] => .nil
  | n :: r => .cons (.int n) (dpAll_ints r)
theorem dpAll_strs {K : PySem.W.Frag} {H : Hp} : ∀ ns : List Str, DpAll K H (ns.map V.str) (ns.map PyData.str)
  | [] => .nil
  | n :: r => .cons (.str n) (dpAll_strs r)
theorem dp_ints {K : PySem.W.Frag} {H : Hp} {a : Addr} {ns : List Int} (h : SqL K H a (ns.map V.int)) : Dp K H (.ref a) (dI ns) := .lst h (dpAll_ints ns)
theorem dp_strs {K : PySem.W.Frag} {H : Hp} {a : Addr} {ns : List Str} (h : SqL K H a (ns.map V.str)) : Dp K H (.ref a) (dS ns) := .lst h (dpAll_strs ns)
theorem dpAll_rows {K : PySem.W.Frag} {H : Hp} : ∀ {xs : List V} {rows : List (List Int)}, Rows K H xs rows → DpAll K H xs (rows.map dI)
  | _, _, .nil => .nil
  | _, _, .cons ⟨_, e, q⟩ t => by
    subst e
    exact .cons (dp_ints q) (dpAll_rows t)
theorem dp_rows {K : PySem.W.Frag} {H : Hp} {a : Addr} {xs : List V} {rows : List (List Int)} (h : SqL K H a xs) (r : Rows K H xs rows) : Dp K H (.ref a) (dR rows) := .lst h (dpAll_rows r)
theorem eqvAll_ints : ∀ ns ms : List Int, PyData.eqvAll (ns.map PyData.int) (ms.map PyData.int) = decide (ns = ms)
  | [], [] => by simp [PyData.eqvAll]
  | [], _ :: _ => by simp [PyData.eqvAll]
  | _ :: _, [] => by simp [PyData.eqvAll]
  | a :: r, b :: t => by
    simp only [List.map_cons, PyData.eqvAll, PyData.eqv, eqvAll_ints r t]
    by_cases h : a = b <;> by_cases h' : r = t <;> simp [h, h']
theorem eqvAll_strs : ∀ ns ms : List Str, PyData.eqvAll (ns.map PyData.str) (ms.map PyData.str) = decide (ns = ms)
  | [], [] => by simp [PyData.eqvAll]
  | [], _ :: _ => by simp [PyData.eqvAll]
  | _ :: _, [] => by simp [PyData.eqvAll]
  | a :: r, b :: t => by
    simp only [List.map_cons, PyData.eqvAll, PyData.eqv, eqvAll_strs r t]
    by_cases h : a = b <;> by_cases h' : r = t <;> simp [h, h']
theorem eqv_ints (ns ms : List Int) : PyData.eqv (dI ns) (dI ms) = decide (ns = ms) := by
  unfold dI
  rw [PyData.eqv]
  exact eqvAll_ints ns ms
theorem eqv_strs (ns ms : List Str) : PyData.eqv (dS ns) (dS ms) = decide (ns = ms) := by
  unfold dS
  rw [PyData.eqv]
  exact eqvAll_strs ns ms
theorem eqvAll_rows : ∀ ns ms : List (List Int), PyData.eqvAll (ns.map dI) (ms.map dI) = decide (ns = ms)
  | [], [] => by simp [PyData.eqvAll]
  | [], _ :: _ => by simp [PyData.eqvAll]
  | _ :: _, [] => by simp [PyData.eqvAll]
  | a :: r, b :: t => by
    simp only [List.map_cons, PyData.eqvAll, eqv_ints, eqvAll_rows r t]
    by_cases h : a = b <;> by_cases h' : r = t <;> simp [h, h']
theorem eqv_rows (ns ms : List (List Int)) : PyData.eqv (dR ns) (dR ms) = decide (ns = ms) := by
  unfold dR
  rw [PyData.eqv]
  exact eqvAll_rows ns ms
theorem canLay_ints : ∀ ns : List Int, PyData.canLayAll0 (ns.map PyData.int) = true
  | [] => by simp [PyData.canLayAll0]
  | n :: r => by simp [PyData.canLayAll0, PyData.canLay0, canLay_ints r]
theorem canLay_strs : ∀ ns : List Str, ns.all PyData.strOk = true → PyData.canLayAll0 (ns.map PyData.str) = true
  | [], _ => by simp [PyData.canLayAll0]
  | n :: r, h => by
    rw [List.all_cons, Bool.and_eq_true] at h
    simp [PyData.canLayAll0, PyData.canLay0, h.1, canLay_strs r h.2]
theorem canLay_rows : ∀ ns : List (List Int), PyData.canLayAll0 (ns.map dI) = true
  | [] => by simp [PyData.canLayAll0]
  | n :: r => by simp [PyData.canLayAll0, dI, PyData.canLay0, canLay_ints, canLay_rows r]
theorem depth_ints : ∀ ns : List Int, PyData.depthAll (ns.map PyData.int) ≤ 1
  | [] => by simp [PyData.depthAll]
  | n :: r => by
    have := depth_ints r
    simp [PyData.depthAll, PyData.depth]
    omega
theorem depth_strs : ∀ ns : List Str, PyData.depthAll (ns.map PyData.str) ≤ 1
  | [] => by simp [PyData.depthAll]
  | n :: r => by
    have := depth_strs r
    simp [PyData.depthAll, PyData.depth]
    omega
theorem depth_dI (ns : List Int) : (dI ns).depth ≤ 2 := by
  have := depth_ints ns
  unfold dI
  simp [PyData.depth]
  omega
theorem depth_rows : ∀ ns : List (List Int), PyData.depthAll (ns.map dI) ≤ 2
  | [] => by simp [PyData.depthAll]
  | n :: r => by
    have h1 := depth_rows r
    have h2 := depth_dI n
    simp [PyData.depthAll]
    omega
theorem sh_ints (ns : List Int) : SeqAt.shaped (dI ns) = true := by
  have := depth_dI ns
  unfold SeqAt.shaped
  rw [Bool.and_eq_true, decide_eq_true_eq]
  exact ⟨by unfold dI; simp [PyData.canLay0, canLay_ints], by omega⟩
theorem sh_strs {ns : List Str} (h : ns.all PyData.strOk = true) : SeqAt.shaped (dS ns) = true := by
  have := depth_strs ns
  unfold SeqAt.shaped dS
  rw [Bool.and_eq_true, decide_eq_true_eq]
  exact ⟨by simp [PyData.canLay0, canLay_strs ns h], by simp [PyData.depth]; omega⟩
theorem sh_rows (ns : List (List Int)) : SeqAt.shaped (dR ns) = true := by
  have := depth_rows ns
  unfold SeqAt.shaped dR
  rw [Bool.and_eq_true, decide_eq_true_eq]
  exact ⟨by simp [PyData.canLay0, canLay_rows], by simp [PyData.depth]; omega⟩
/-- two lists of ints -/
theorem ne_ints {K : PySem.W.Frag} {H : Hp} {a b : Addr} {ns ms : List Int} {Q : VK} (ha : SqL K H a (ns.map V.int)) (hb : SqL K H b (ms.map V.int)) (q : Q (.bl (!decide (ns = ms))) H) : rNeD K (.ref a) (.ref b) H Q :=
  ⟨dI ns, dI ms, dp_ints ha, dp_ints hb, sh_ints ns, sh_ints ms, by rw [eqv_ints]; exact q⟩
theorem eq_ints {K : PySem.W.Frag} {H : Hp} {a b : Addr} {ns ms : List Int} {Q : VK} (ha : SqL K H a (ns.map V.int)) (hb : SqL K H b (ms.map V.int)) (q : Q (.bl (decide (ns = ms))) H) : rEqD K (.ref a) (.ref b) H Q :=
  ⟨dI ns, dI ms, dp_ints ha, dp_ints hb, sh_ints ns, sh_ints ms, by rw [eqv_ints]; exact q⟩
theorem ne_strs {K : PySem.W.Frag} {H : Hp} {a b : Addr} {ns ms : List Str} {Q : VK} (ok1 : ns.all PyData.strOk = true) (ok2 : ms.all PyData.strOk = true) (ha : SqL K H a (ns.map V.str)) (hb : SqL K H b (ms.map V.str)) (q : Q (.bl (!decide (ns = ms))) H) : rNeD K (.ref a) (.ref b) H Q :=
  ⟨dS ns, dS ms, dp_strs ha, dp_strs hb, sh_strs ok1, sh_strs ok2, by rw [eqv_strs]; exact q⟩
theorem eq_strs {K : PySem.W.Frag} {H : Hp} {a b : Addr} {ns ms : List Str} {Q : VK} (ok1 : ns.all PyData.strOk = true) (ok2 : ms.all PyData.strOk = true) (ha : SqL K H a (ns.map V.str)) (hb : SqL K H b (ms.map V.str)) (q : Q (.bl (decide (ns = ms))) H) : rEqD K (.ref a) (.ref b) H Q :=
  ⟨dS ns, dS ms, dp_strs ha, dp_strs hb, sh_strs ok1, sh_strs ok2, by rw [eqv_strs]; exact q⟩
theorem ne_rows {K : PySem.W.Frag} {H : Hp} {a b : Addr} {xs ys : List V} {ns ms : List (List Int)} {Q : VK} (ha : SqL K H a xs) (ra : Rows K H xs ns) (hb : SqL K H b ys) (rb : Rows K H ys ms) (q : Q (.bl (!decide (ns = ms))) H) : rNeD K (.ref a) (.ref b) H Q :=
  ⟨dR ns, dR ms, dp_rows ha ra, dp_rows hb rb, sh_rows ns, sh_rows ms, by rw [eqv_rows]; exact q⟩
/-! ### n in a list of ints -/
theorem inV_int (n : Int) (ns : List Int) : inV (.int n) (ns.map V.int) = decide (n ∈ ns) := by
  unfold inV
  rw [List.any_map]
  by_cases h : n ∈ ns
  · rw [decide_eq_true h, List.any_eq_true]
    exact ⟨n, h, by simp [eqV]⟩
  · rw [decide_eq_false h, List.any_eq_false]
    intro m hm
    have : m ≠ n := fun z => h (z ▸ hm)
    simp [eqV, this]
theorem flat_ints (ns : List Int) : (ns.map V.int).all flatV = true := by
  rw [List.all_map, List.all_eq_true]
  intro x _
  rfl
theorem in_ints {K : PySem.W.Frag} {H : Hp} {a : Addr} {n : Int} {ns : List Int} {Q : VK} (h : SqL K H a (ns.map V.int)) (q : Q (.bl (decide (n ∈ ns))) H) : rIn K false (.int n) (.ref a) H Q :=
  ⟨a, _, rfl, .inl h, rfl, flat_ints ns, by rw [inV_int]; exact q⟩
theorem nin_ints {K : PySem.W.Frag} {H : Hp} {a : Addr} {n : Int} {ns : List Int} {Q : VK} (h : SqL K H a (ns.map V.int)) (q : Q (.bl (!decide (n ∈ ns))) H) : rIn K true (.int n) (.ref a) H Q :=
  ⟨a, _, rfl, .inl h, rfl, flat_ints ns, by rw [inV_int]; exact q⟩
end SS

/-! the mirror: what the program's defs compute, as plain functions -/
namespace SS
open PySem PySem.Spec PyProof.Rows L2 Evl
/-! ### places of a list of ints -/
theorem at_int {ns : List Int} {i : Nat} (h : i < ns.length) : atI (ns.map V.int) (i : Int) = some (.int (ns.getD i 0)) := atI_nat (by
  rw [List.getElem?_map, List.getElem?_eq_getElem h, List.getD_eq_getElem?_getD, List.getElem?_eq_getElem h] <;> rfl)
theorem ix_int {ns : List Int} {i : Nat} (h : i < ns.length) : ixN (ns.map V.int).length (i : Int) = some i := Evl.ixN_nat (by rw [List.length_map]; exact h)
theorem set_int {ns : List Int} {i : Nat} {z : Int} : (ns.map V.int).set i (.int z) = (ns.set i z).map V.int := List.map_set.symm
/-! ### spread -/
def spStep (bit : Nat) (b : Int) (up : Bool) (l : List Int) (one : Nat) : List Int :=
  if one &&& bit = 0 then (if up = true then l.set (one ||| bit) (l.getD (one ||| bit) 0 + b * l.getD one 0) else l.set one (l.getD one 0 + b * l.getD (one ||| bit) 0)) else l
def spName (len : Nat) (b : Int) (up : Bool) (l : List Int) (name : Nat) : List Int := (List.range len).foldl (spStep (2 ^ name) b up) l
def spreadM (n : Nat) (b : Int) (up : Bool) (l : List Int) : List Int := (List.range n).foldl (spName l.length b up) l
theorem foldl_range_succ {α : Type} (f : α → Nat → α) (a : α) (n : Nat) : (List.range (n + 1)).foldl f a = f ((List.range n).foldl f a) n := by
  rw [List.range_succ, List.foldl_append] <;> rfl
theorem foldl_length {f : List Int → Nat → List Int} (hf : ∀ l i, (f l i).length = l.length) : ∀ (is : List Nat) (l : List Int), (is.foldl f l).length = l.length
  | [], l => rfl
  | i :: r, l => by rw [List.foldl_cons, foldl_length hf r, hf]
theorem spStep_length (bit : Nat) (b : Int) (up : Bool) (l : List Int) (one : Nat) : (spStep bit b up l one).length = l.length := by
  unfold spStep
  split
  · split <;> rw [List.length_set]
  · rfl
theorem spName_length (len : Nat) (b : Int) (up : Bool) (l : List Int) (name : Nat) : (spName len b up l name).length = l.length := foldl_length (spStep_length _ _ _) _ _
theorem spreadM_length (n : Nat) (b : Int) (up : Bool) (l : List Int) : (spreadM n b up l).length = l.length := foldl_length (spName_length _ _ _) _ _
/-! ### signed -/
def sgStep (bit : Nat) (l : List Int) (one : Nat) : List Int :=
  if one &&& bit = 0 then (l.set one (l.getD one 0 + l.getD (one ||| bit) 0)).set (one ||| bit) (l.getD one 0 - l.getD (one ||| bit) 0) else l
def sgName (len : Nat) (l : List Int) (name : Nat) : List Int := (List.range len).foldl (sgStep (2 ^ name)) l
def signedM (n : Nat) (l : List Int) : List Int := (List.range n).foldl (sgName l.length) l
theorem sgStep_length (bit : Nat) (l : List Int) (one : Nat) : (sgStep bit l one).length = l.length := by
  unfold sgStep
  split
  · rw [List.length_set, List.length_set]
  · rfl
theorem sgName_length (len : Nat) (l : List Int) (name : Nat) : (sgName len l name).length = l.length := foldl_length (sgStep_length _) _ _
theorem signedM_length (n : Nat) (l : List Int) : (signedM n l).length = l.length := foldl_length (sgName_length _) _ _
/-! ### the laws' own helpers -/
def cellM (ns : List Int) (k : Nat) : Int := ns.getD k 0 % 10 ^ 60
theorem cut1 (xs : List V) (k : Nat) : cutV xs (some (k : Int)) (some ((k : Int) + 1)) = (xs.drop k).take 1 := by
  unfold cutV
  rw [HT.sIx_nat, show ((k : Int) + 1) = ((k + 1 : Nat) : Int) by omega, HT.sIx_nat]
  by_cases h : k < xs.length
  · rw [show min k xs.length = k by omega, show min (k + 1) xs.length - k = 1 by omega]
  · rw [show min (k + 1) xs.length - min k xs.length = 0 by omega, List.take_zero, List.drop_eq_nil_of_le (by omega), List.take_nil]
theorem cell_at (ns : List Int) (k : Nat) : atI (((ns.map V.int).drop k).take 1 ++ [V.int 0]) 0 = some (.int (ns.getD k 0)) := by
  refine atI_nat (j := 0) ?_
  by_cases h : k < ns.length
  · rw [List.getD_eq_getElem?_getD, List.getElem?_eq_getElem h, List.drop_eq_getElem_cons (by rw [List.length_map]; exact h)]
    simp
  · rw [List.getD_eq_getElem?_getD, List.getElem?_eq_none (Nat.le_of_not_lt h), List.drop_eq_nil_of_le (by rw [List.length_map]; exact Nat.le_of_not_lt h)]
    rfl
def mixedM (ns : List Int) (k : Nat) : Int :=
  ((cellM ns (k % max 1 ns.length) + 7919 * k * k + 104729) * (cellM ns (k % max 1 ns.length) + 7919 * k * k + 104729) % 2147483647 * (48271 + 2 * k) % 998244353) / 11
theorem cellM_nn (ns : List Int) (k : Nat) : 0 ≤ cellM ns k := Int.emod_nonneg _ (by decide)
theorem cellM_lt (ns : List Int) (k : Nat) : cellM ns k < 10 ^ 60 := Int.emod_lt_of_pos _ (by decide)
theorem mixedM_nn (ns : List Int) (k : Nat) : 0 ≤ mixedM ns k := Int.ediv_nonneg (Int.emod_nonneg _ (by decide)) (by decide)
theorem mixedM_lt (ns : List Int) (k : Nat) : mixedM ns k < 90749487 := by
  unfold mixedM
  have h := Int.emod_lt_of_pos ((cellM ns (k % max 1 ns.length) + 7919 * k * k + 104729) * (cellM ns (k % max 1 ns.length) + 7919 * k * k + 104729) % 2147483647 * (48271 + 2 * k)) (show (0 : Int) < 998244353 by decide)
  omega
/-- the names of a set -/
def bitsN (m : Nat) : List Nat := (List.range 10).filter fun i => m.testBit i
def bitsM (m : Nat) : List Int := (bitsN m).map (fun i : Nat => (i : Int))
theorem bits_below {m : Nat} {n : Nat} (hn : n ≤ 10) (h : m / 2 ^ n = 0) : ((List.range n).filter fun i => m.testBit i) = bitsN m := by
  unfold bitsN
  have hlt : m < 2 ^ n := by
    rcases Nat.div_eq_zero_iff.mp h with h | h
    · exact absurd h (Nat.ne_of_gt (Nat.two_pow_pos n))
    · exact h
  obtain ⟨k, hk⟩ : ∃ k, 10 = n + k := ⟨10 - n, by omega⟩
  rw [hk, List.range_add, List.filter_append]
  have e : ((List.range k).map (n + ·)).filter (fun i => m.testBit i) = [] := by
    rw [List.filter_eq_nil_iff]
    intro i hi
    obtain ⟨j, _, rfl⟩ := List.mem_map.mp hi
    rw [Nat.testBit_lt_two_pow (Nat.lt_of_lt_of_le hlt (Nat.pow_le_pow_right (by decide) (Nat.le_add_right n j)))]
    decide
  rw [e, List.append_nil]
theorem bits_step (m n : Nat) : ((List.range (n + 1)).filter fun i => m.testBit i) = ((List.range n).filter fun i => m.testBit i) ++ (if m / 2 ^ n % 2 = 1 then [n] else []) := by
  rw [List.range_succ, List.filter_append]
  congr 1
  rw [List.filter_cons, List.filter_nil]
  have e : m.testBit n = decide (m / 2 ^ n % 2 = 1) := by
    rw [Nat.testBit_eq_decide_div_mod_eq]
  rw [e]
  by_cases h : m / 2 ^ n % 2 = 1
  · simp [h]
  · simp [h]
/-- all below 2 ^ k -/
def Bd (k : Nat) (l : List Int) : Prop := ∀ x ∈ l, x.natAbs < 2 ^ k
theorem rep0 (n : Nat) : (List.replicate n [V.int 0]).flatten = (List.replicate n (0 : Int)).map V.int := by
  induction n with
  | zero => rfl
  | succ n ih => rw [List.replicate_succ, List.flatten_cons, ih, List.replicate_succ] <;> rfl
theorem cut_to (xs : List V) (k : Nat) : cutV xs none (some (k : Int)) = xs.take k := by
  unfold cutV
  rw [HT.sIx_none, HT.sIx_nat, List.drop_zero, Nat.sub_zero]
  rcases Nat.le_total k xs.length with h | h
  · rw [Nat.min_eq_left h]
  · rw [Nat.min_eq_right h, List.take_of_length_le (Nat.le_refl _), List.take_of_length_le h]
/-- the drawn number that goes into a table -/
theorem more_at {m : Int} {z : Nat} (h0 : 0 ≤ m) (h1 : m < 10 ^ 60) (hz : z < 5) : ∃ y : Int, atI [V.int m, .int (0 - m), .int (m % 9), .int 1, .int (0 - m % 7)] (z : Int) = some (.int y) ∧ y.natAbs ≤ 10 ^ 60 := by
  have h9 := Int.emod_nonneg m (show (9 : Int) ≠ 0 by decide)
  have h9' := Int.emod_lt_of_pos m (show (0 : Int) < 9 by decide)
  have h7 := Int.emod_nonneg m (show (7 : Int) ≠ 0 by decide)
  have h7' := Int.emod_lt_of_pos m (show (0 : Int) < 7 by decide)
  match z, hz with
  | 0, _ => exact ⟨_, atI_nat rfl, by omega⟩
  | 1, _ => exact ⟨_, atI_nat (j := 1) rfl, by omega⟩
  | 2, _ => exact ⟨_, atI_nat (j := 2) rfl, by omega⟩
  | 3, _ => exact ⟨_, atI_nat (j := 3) rfl, by omega⟩
  | 4, _ => exact ⟨_, atI_nat (j := 4) rfl, by omega⟩
/-! ### law k03: the sums set by set -/
def bothM (s o : Nat) : Nat := ((bitsM s).filter fun b => decide (b ∈ bitsM o)).length
def weiM (way : Nat) (s o : Nat) : Int :=
  if way = 0 then (if bothM s o = (bitsM o).length then 1 else 0) else if way = 1 then (if bothM s o = (bitsM s).length then 1 else 0) else 1 - 2 * ((bothM s o % 2 : Nat) : Int)
def totM (way : Nat) (t : List Int) (s n : Nat) : Int := (List.range n).foldl (fun tot o => tot + t.getD o 0 * weiM way s o) 0
def dueM (way : Nat) (t : List Int) : List Int := (List.range t.length).map fun s => totM way t s t.length
theorem bitsM_len (m : Nat) : (bitsM m).length ≤ 10 := by
  unfold bitsM bitsN
  rw [List.length_map]
  have := List.length_filter_le (fun i => m.testBit i) (List.range 10)
  rw [List.length_range] at this
  exact this
end SS

/-! plain mathematics: sums over sets, kernels that are products over names -/
namespace SS
/-! ### finite sums -/
def sm : Nat → (Nat → Int) → Int
  | 0, _ => 0
  | n + 1, f => sm n f + f n
theorem sm_congr {n : Nat} {f g : Nat → Int} (h : ∀ i, i < n → f i = g i) : sm n f = sm n g := by
  induction n with
  | zero => rfl
  | succ n ih => rw [sm, sm, ih fun i hi => h i (by omega), h n (by omega)]
theorem sm_zero (n : Nat) : sm n (fun _ => 0) = 0 := by
  induction n with
  | zero => rfl
  | succ n ih => rw [sm, ih] <;> rfl
theorem sm_add (n : Nat) (f g : Nat → Int) : sm n (fun i => f i + g i) = sm n f + sm n g := by
  induction n with
  | zero => rfl
  | succ n ih => rw [sm, sm, sm, ih]; omega
theorem sm_mul (n : Nat) (c : Int) (f : Nat → Int) : sm n (fun i => c * f i) = c * sm n f := by
  induction n with
  | zero => rw [sm, sm, Int.mul_zero]
  | succ n ih => rw [sm, sm, ih, Int.mul_add]
theorem sm_mulr (n : Nat) (c : Int) (f : Nat → Int) : sm n (fun i => f i * c) = sm n f * c := by
  rw [Int.mul_comm, ← sm_mul]
  exact sm_congr fun i _ => Int.mul_comm _ _
theorem sm_neg (n : Nat) (f : Nat → Int) : sm n (fun i => - f i) = - sm n f := by
  induction n with
  | zero => rfl
  | succ n ih => rw [sm, sm, ih]; omega
theorem sm_sub (n : Nat) (f g : Nat → Int) : sm n (fun i => f i - g i) = sm n f - sm n g := by
  induction n with
  | zero => rfl
  | succ n ih => rw [sm, sm, sm, ih]; omega
theorem sm_swap (n m : Nat) (f : Nat → Nat → Int) : sm n (fun i => sm m (f i)) = sm m (fun j => sm n (fun i => f i j)) := by
  induction n with
  | zero => rw [sm]; exact (sm_zero m).symm
  | succ n ih =>
    rw [sm, ih, ← sm_add]
    rfl
theorem sm_app (n m : Nat) (f : Nat → Int) : sm (n + m) f = sm n f + sm m (fun i => f (n + i)) := by
  induction m with
  | zero => rw [sm]; exact (Int.add_zero _).symm
  | succ m ih =>
    show sm (n + m) f + f (n + m) = sm n f + (sm m (fun i => f (n + i)) + f (n + m))
    rw [ih]
    omega
/-- one place -/
theorem sm_at {n j : Nat} (h : j < n) (f : Nat → Int) : sm n (fun i => (if i = j then 1 else 0) * f i) = f j := by
  induction n with
  | zero => omega
  | succ n ih =>
    rw [sm]
    by_cases e : n = j
    · subst e
      rw [if_pos rfl, sm_congr (g := fun _ => 0) fun i hi => by rw [if_neg (by omega), Int.zero_mul], sm_zero, Int.one_mul, Int.zero_add]
    · rw [if_neg e, Int.zero_mul, Int.add_zero, ih (by omega)]
theorem foldl_sm (n : Nat) (f : Nat → Int) (c : Int) : (List.range n).foldl (fun a i => a + f i) c = c + sm n f := by
  induction n with
  | zero => exact (Int.add_zero c).symm
  | succ n ih =>
    rw [List.range_succ, List.foldl_append, ih]
    show c + sm n f + f n = c + (sm n f + f n)
    omega
/-! ### products over names -/
def pr : Nat → (Nat → Int) → Int
  | 0, _ => 1
  | n + 1, u => pr n u * u n
theorem pr_congr {n : Nat} {f g : Nat → Int} (h : ∀ i, i < n → f i = g i) : pr n f = pr n g := by
  induction n with
  | zero => rfl
  | succ n ih => rw [pr, pr, ih fun i hi => h i (by omega), h n (by omega)]
theorem pr_mul (n : Nat) (f g : Nat → Int) : pr n (fun i => f i * g i) = pr n f * pr n g := by
  induction n with
  | zero => rfl
  | succ n ih =>
    rw [pr, pr, pr, ih]
    grind
theorem pr_one (n : Nat) : pr n (fun _ => 1) = 1 := by
  induction n with
  | zero => rfl
  | succ n ih => rw [pr, ih] <;> rfl
theorem pr_const (n : Nat) (c : Int) : pr n (fun _ => c) = c ^ n := by
  induction n with
  | zero => exact (Int.pow_zero c).symm
  | succ n ih => rw [pr, ih, Int.pow_succ]
/-! ### bits -/
theorem bit_add {n z k : Nat} (hz : z < 2 ^ n) (h : k < n) : (2 ^ n + z).testBit k = z.testBit k := Nat.testBit_two_pow_add_gt h z
theorem bit_top {n z : Nat} (hz : z < 2 ^ n) : (2 ^ n + z).testBit n = true := by
  rw [Nat.testBit_two_pow_add_eq, Nat.testBit_lt_two_pow hz] <;> rfl
theorem bit_low {n z : Nat} (hz : z < 2 ^ n) : z.testBit n = false := Nat.testBit_lt_two_pow hz
theorem sm_double (n : Nat) (f : Nat → Int) : sm (2 ^ (n + 1)) f = sm (2 ^ n) f + sm (2 ^ n) (fun z => f (2 ^ n + z)) := by
  rw [Nat.pow_succ, Nat.mul_two, sm_app]
/-- a sum over all sets of a product over names -/
theorem sm_pr (n : Nat) (u : Nat → Bool → Int) : sm (2 ^ n) (fun z => pr n (fun k => u k (z.testBit k))) = pr n (fun k => u k false + u k true) := by
  induction n with
  | zero => rfl
  | succ n ih =>
    rw [sm_double, pr, ← ih, Int.mul_add, ← sm_mulr, ← sm_mulr]
    congr 1
    · refine sm_congr fun z hz => ?_
      rw [pr, bit_low hz]
    · refine sm_congr fun z hz => ?_
      rw [pr, bit_top hz]
      congr 1
      exact pr_congr fun k hk => by rw [bit_add hz hk]
theorem eq_bits {n x y : Nat} (hx : x < 2 ^ n) (hy : y < 2 ^ n) (h : ∀ k, k < n → x.testBit k = y.testBit k) : x = y := by
  refine Nat.eq_of_testBit_eq fun k => ?_
  by_cases hk : k < n
  · exact h k hk
  · have hp : 2 ^ n ≤ 2 ^ k := Nat.pow_le_pow_right (by decide) (by omega)
    rw [Nat.testBit_lt_two_pow (by omega), Nat.testBit_lt_two_pow (by omega)]
/-! ### kernels -/
abbrev Mx := Bool → Bool → Int
def ker (m : Mx) (n s o : Nat) : Int := pr n fun k => m (s.testBit k) (o.testBit k)
def tr (m : Mx) (n : Nat) (f : Nat → Int) (s : Nat) : Int := sm (2 ^ n) fun o => ker m n s o * f o
def mI : Mx := fun x y => if x = y then 1 else 0
/-- the product of two -/
def mm (m p : Mx) : Mx := fun x y => m x false * p false y + m x true * p true y
theorem pr_ind (n : Nat) (P : Nat → Prop) [DecidablePred P] : pr n (fun k => if P k then 1 else 0) = if ∀ k, k < n → P k then 1 else 0 := by
  induction n with
  | zero => rw [pr, if_pos (fun k hk => absurd hk (Nat.not_lt_zero k))]
  | succ n ih =>
    rw [pr, ih]
    by_cases h : ∀ k, k < n → P k
    · by_cases hn : P n
      · rw [if_pos h, if_pos hn, if_pos (fun k hk => by
          rcases Nat.lt_succ_iff_lt_or_eq.mp hk with h1 | h1
          · exact h k h1
          · rw [h1]; exact hn)]
        rfl
      · rw [if_neg hn, if_neg (c := ∀ k, k < n + 1 → P k) (fun z => hn (z n (Nat.lt_succ_self n)))]
        exact Int.mul_zero _
    · rw [if_neg h, if_neg (c := ∀ k, k < n + 1 → P k) (fun z => h fun k hk => z k (Nat.lt_succ_of_lt hk))]
      exact Int.zero_mul _
theorem ker_I {n s o : Nat} (hs : s < 2 ^ n) (ho : o < 2 ^ n) : ker mI n s o = if o = s then 1 else 0 := by
  unfold ker mI
  rw [pr_ind n (fun k => s.testBit k = o.testBit k)]
  by_cases h : o = s
  · subst h
    rw [if_pos rfl, if_pos (fun _ _ => rfl)]
  · rw [if_neg h, if_neg (fun z => h (eq_bits ho hs fun k hk => (z k hk).symm))]
theorem ker_mm (m p : Mx) (n s o : Nat) : sm (2 ^ n) (fun z => ker m n s z * ker p n z o) = ker (mm m p) n s o := by
  unfold ker
  rw [show (fun z : Nat => pr n (fun k => m (s.testBit k) (z.testBit k)) * pr n (fun k => p (z.testBit k) (o.testBit k))) = fun z : Nat => pr n (fun k => m (s.testBit k) (z.testBit k) * p (z.testBit k) (o.testBit k)) from funext fun z => (pr_mul n _ _).symm]
  exact sm_pr n fun k b => m (s.testBit k) b * p b (o.testBit k)
theorem tr_mm (m p : Mx) (n : Nat) (f : Nat → Int) (s : Nat) : tr m n (tr p n f) s = tr (mm m p) n f s := by
  unfold tr
  rw [show (fun o => ker m n s o * sm (2 ^ n) fun o_1 => ker p n o o_1 * f o_1) = fun o => sm (2 ^ n) fun q => ker m n s o * ker p n o q * f q from funext fun o => by
    rw [← sm_mul]
    exact sm_congr fun q _ => (Int.mul_assoc _ _ _).symm]
  rw [sm_swap]
  refine sm_congr fun q _ => ?_
  rw [sm_mulr, ker_mm]
theorem tr_I {n : Nat} {f : Nat → Int} {s : Nat} (hs : s < 2 ^ n) : tr mI n f s = f s := by
  unfold tr
  rw [sm_congr (g := fun o => (if o = s then 1 else 0) * f o) fun o ho => by rw [ker_I hs ho]]
  exact sm_at hs f
theorem ker_smul (c : Int) (m : Mx) (n s o : Nat) : ker (fun x y => c * m x y) n s o = c ^ n * ker m n s o := by
  unfold ker
  rw [pr_mul, pr_const]
theorem tr_congr {m : Mx} {n : Nat} {f g : Nat → Int} (h : ∀ o, o < 2 ^ n → f o = g o) (s : Nat) : tr m n f s = tr m n g s := sm_congr fun o ho => by rw [h o ho]
theorem tr_add (m : Mx) (n : Nat) (f g : Nat → Int) (s : Nat) : tr m n (fun o => f o + g o) s = tr m n f s + tr m n g s := by
  unfold tr
  rw [← sm_add]
  exact sm_congr fun o _ => Int.mul_add _ _ _
theorem tr_mul (m : Mx) (n : Nat) (c : Int) (f : Nat → Int) (s : Nat) : tr m n (fun o => c * f o) s = c * tr m n f s := by
  unfold tr
  rw [← sm_mul]
  exact sm_congr fun o _ => Int.mul_left_comm _ _ _
/-! ### name by name -/
def stp (m : Mx) (k : Nat) (f : Nat → Int) (s : Nat) : Int := m (s.testBit k) (s.testBit k) * f s + m (s.testBit k) (!s.testBit k) * f (s ^^^ 2 ^ k)
theorem flip_bit (s k j : Nat) : (s ^^^ 2 ^ k).testBit j = (s.testBit j ^^ decide (k = j)) := by
  rw [Nat.testBit_xor, Nat.testBit_two_pow]
theorem flip_lt {s k n : Nat} (hs : s < 2 ^ n) (hk : k < n) : s ^^^ 2 ^ k < 2 ^ n := Nat.xor_lt_two_pow hs (Nat.pow_lt_pow_right (by decide) hk)
def fold_ (m : Mx) (n : Nat) (f : Nat → Int) : Nat → Int := (List.range n).foldl (fun g k => stp m k g) f
theorem fold_succ (m : Mx) (n : Nat) (f : Nat → Int) : fold_ m (n + 1) f = stp m n (fold_ m n f) := by
  unfold fold_
  rw [List.range_succ, List.foldl_append] <;> rfl
theorem xor_add {n s j : Nat} (hs : s < 2 ^ n) (hj : j < n) : (2 ^ n + s) ^^^ 2 ^ j = 2 ^ n + (s ^^^ 2 ^ j) := by
  have h1 := flip_lt hs hj
  have h2 : 2 ^ j < 2 ^ n := Nat.pow_lt_pow_right (by decide) hj
  have hp : 2 ^ (n + 1) = 2 ^ n + 2 ^ n := by rw [Nat.pow_succ, Nat.mul_two]
  refine eq_bits (n := n + 1) (Nat.xor_lt_two_pow (by omega) (by omega)) (by omega) fun k hk => ?_
  rw [flip_bit]
  rcases Nat.lt_succ_iff_lt_or_eq.mp hk with h | h
  · rw [bit_add hs h, bit_add h1 h, flip_bit]
  · subst h
    rw [bit_top hs, bit_top h1, decide_eq_false (by omega)]
    rfl
theorem xor_top {n s : Nat} (hs : s < 2 ^ n) : s ^^^ 2 ^ n = 2 ^ n + s := by
  have hp : 2 ^ (n + 1) = 2 ^ n + 2 ^ n := by rw [Nat.pow_succ, Nat.mul_two]
  refine eq_bits (n := n + 1) (Nat.xor_lt_two_pow (by omega) (by omega)) (by omega) fun k hk => ?_
  rw [flip_bit]
  rcases Nat.lt_succ_iff_lt_or_eq.mp hk with h | h
  · rw [bit_add hs h, decide_eq_false (by omega), Bool.xor_false]
  · subst h
    rw [bit_top hs, bit_low hs, decide_eq_true rfl]
    rfl
theorem xor_top2 {n s : Nat} (hs : s < 2 ^ n) : (2 ^ n + s) ^^^ 2 ^ n = s := by
  rw [← xor_top hs, Nat.xor_assoc, Nat.xor_self, Nat.xor_zero]
theorem fold_shift (m : Mx) {n j s : Nat} (f : Nat → Int) (hj : j ≤ n) (hs : s < 2 ^ n) : fold_ m j f (2 ^ n + s) = fold_ m j (fun o => f (2 ^ n + o)) s := by
  induction j generalizing s with
  | zero => rfl
  | succ j ih =>
    rw [fold_succ, fold_succ]
    unfold stp
    rw [bit_add hs (by omega), xor_add hs (by omega), ih (by omega) hs, ih (by omega) (flip_lt hs (by omega))]
theorem ker_ll {m : Mx} {n s o : Nat} (hs : s < 2 ^ n) (ho : o < 2 ^ n) : ker m (n + 1) s o = ker m n s o * m false false := by
  unfold ker
  rw [pr, bit_low hs, bit_low ho]
theorem ker_lh {m : Mx} {n s o : Nat} (hs : s < 2 ^ n) (ho : o < 2 ^ n) : ker m (n + 1) s (2 ^ n + o) = ker m n s o * m false true := by
  unfold ker
  rw [pr, bit_low hs, bit_top ho, pr_congr (g := fun k => m (s.testBit k) (o.testBit k)) fun k hk => by rw [bit_add ho hk]]
theorem ker_hl {m : Mx} {n s o : Nat} (hs : s < 2 ^ n) (ho : o < 2 ^ n) : ker m (n + 1) (2 ^ n + s) o = ker m n s o * m true false := by
  unfold ker
  rw [pr, bit_top hs, bit_low ho, pr_congr (g := fun k => m (s.testBit k) (o.testBit k)) fun k hk => by rw [bit_add hs hk]]
theorem ker_hh {m : Mx} {n s o : Nat} (hs : s < 2 ^ n) (ho : o < 2 ^ n) : ker m (n + 1) (2 ^ n + s) (2 ^ n + o) = ker m n s o * m true true := by
  unfold ker
  rw [pr, bit_top hs, bit_top ho, pr_congr (g := fun k => m (s.testBit k) (o.testBit k)) fun k hk => by rw [bit_add hs hk, bit_add ho hk]]
theorem ml3 (a b c : Int) : a * (b * c) = b * a * c := by rw [Int.mul_comm b a, Int.mul_assoc]
theorem fold_tr (m : Mx) (n : Nat) (f : Nat → Int) {s : Nat} (hs : s < 2 ^ n) : fold_ m n f s = tr m n f s := by
  induction n generalizing s f with
  | zero =>
    have e : s = 0 := by rw [Nat.pow_zero] at hs; omega
    subst e
    show f 0 = 0 + 1 * f 0
    omega
  | succ n ih =>
    have hp : 2 ^ (n + 1) = 2 ^ n + 2 ^ n := by rw [Nat.pow_succ, Nat.mul_two]
    rw [fold_succ]
    unfold stp tr
    rw [sm_double]
    by_cases h : s < 2 ^ n
    · rw [bit_low h, xor_top h, fold_shift m f (Nat.le_refl n) h, ih f h, ih _ h]
      unfold tr
      rw [← sm_mul, ← sm_mul]
      congr 1
      · exact sm_congr fun o ho => by rw [ker_ll h ho, ml3]
      · exact sm_congr fun o ho => by rw [ker_lh h ho, ml3]; rfl
    · obtain ⟨t, rfl⟩ : ∃ t, s = 2 ^ n + t := ⟨s - 2 ^ n, by omega⟩
      have ht : t < 2 ^ n := by omega
      rw [bit_top ht, xor_top2 ht, fold_shift m f (Nat.le_refl n) ht, ih f ht, ih _ ht]
      unfold tr
      rw [← sm_mul, ← sm_mul, Int.add_comm]
      congr 1
      · exact sm_congr fun o ho => by rw [ker_hl ht ho, ml3]; rfl
      · exact sm_congr fun o ho => by rw [ker_hh ht ho, ml3]
end SS

/-! the walked sums are kernels -/
namespace SS
def at0 (l : List Int) (i : Nat) : Int := l.getD i 0
theorem at0_set {l : List Int} {i s : Nat} {v : Int} (h : i < l.length) : at0 (l.set i v) s = if s = i then v else at0 l s := by
  unfold at0
  rw [List.getD_eq_getElem?_getD, List.getD_eq_getElem?_getD, List.getElem?_set]
  by_cases e : i = s
  · subst e
    rw [if_pos rfl, if_pos h, if_pos rfl] <;> rfl
  · rw [if_neg e, if_neg (Ne.symm e)]
theorem ext0 {l r : List Int} (hl : l.length = r.length) (h : ∀ s, s < l.length → at0 l s = at0 r s) : l = r := by
  apply List.ext_getElem hl
  intro i h1 h2
  have := h i h1
  unfold at0 at this
  rw [List.getD_eq_getElem?_getD, List.getD_eq_getElem?_getD, List.getElem?_eq_getElem h1, List.getElem?_eq_getElem h2] at this
  exact this
theorem at0_map {N s : Nat} (f : Nat → Int) (h : s < N) : at0 ((List.range N).map f) s = f s := by
  unfold at0
  rw [List.getD_eq_getElem?_getD, List.getElem?_map, List.getElem?_range h] <;> rfl
theorem and_bit (j k : Nat) : (j &&& 2 ^ k = 0) ↔ j.testBit k = false := by
  constructor
  · intro h
    have : (j &&& 2 ^ k).testBit k = false := by rw [h, Nat.zero_testBit]
    rw [Nat.testBit_and, Nat.testBit_two_pow_self, Bool.and_true] at this
    exact this
  · intro h
    refine Nat.eq_of_testBit_eq fun i => ?_
    rw [Nat.testBit_and, Nat.zero_testBit, Nat.testBit_two_pow]
    by_cases e : k = i
    · subst e
      rw [h] <;> rfl
    · rw [decide_eq_false e, Bool.and_false]
theorem or_bit {j k : Nat} (h : j.testBit k = false) : j ||| 2 ^ k = j ^^^ 2 ^ k := by
  refine Nat.eq_of_testBit_eq fun i => ?_
  rw [Nat.testBit_or, Nat.testBit_xor, Nat.testBit_two_pow]
  by_cases e : k = i
  · subst e
    rw [h, decide_eq_true rfl] <;> rfl
  · rw [decide_eq_false e, Bool.or_false, Bool.xor_false]
theorem flip_flip (j k : Nat) : (j ^^^ 2 ^ k) ^^^ 2 ^ k = j := by rw [Nat.xor_assoc, Nat.xor_self, Nat.xor_zero]
theorem flip_ne (j k : Nat) : j ^^^ 2 ^ k ≠ j := fun h => by
  have := congrArg (fun z => z.testBit k) h
  simp only [flip_bit, decide_true, Bool.xor_true] at this
  cases hb : j.testBit k <;> rw [hb] at this <;> cases this
/-- one pass over all sets, pair by pair -/
theorem pass_stp (m : Mx) {n k : Nat} (hk : k < n) (g : List Int → Nat → List Int) (hlen : ∀ l j, (g l j).length = l.length)
    (h1 : ∀ l j, j.testBit k = true → g l j = l)
    (h0 : ∀ l j, l.length = 2 ^ n → j < 2 ^ n → j.testBit k = false → ∀ s, s < 2 ^ n → at0 (g l j) s = if s = j ∨ s = j ^^^ 2 ^ k then stp m k (at0 l) s else at0 l s)
    (l : List Int) (hl : l.length = 2 ^ n) : ∀ s, s < 2 ^ n → at0 ((List.range (2 ^ n)).foldl g l) s = stp m k (at0 l) s := by
  have key : ∀ j, j ≤ 2 ^ n → ∀ s, s < 2 ^ n → at0 ((List.range j).foldl g l) s = if (if s.testBit k = true then s ^^^ 2 ^ k else s) < j then stp m k (at0 l) s else at0 l s := by
    intro j
    induction j with
    | zero =>
      intro _ s _
      rw [if_neg (Nat.not_lt_zero _)]
      rfl
    | succ j ih =>
      intro hj s hs
      have hj' : j < 2 ^ n := by omega
      rw [foldl_range_succ]
      have lL : ((List.range j).foldl g l).length = 2 ^ n := by rw [foldl_length hlen, hl]
      generalize hL : (List.range j).foldl g l = L at lL
      have ihL : ∀ s, s < 2 ^ n → at0 L s = if (if s.testBit k = true then s ^^^ 2 ^ k else s) < j then stp m k (at0 l) s else at0 l s := fun s hs => by rw [← hL]; exact ih (by omega) s hs
      cases hb : j.testBit k with
      | true =>
        rw [h1 L j hb, ihL s hs]
        have hne : (if s.testBit k = true then s ^^^ 2 ^ k else s) ≠ j := fun e => by
          split at e
          · rename_i ht
            rw [← e, flip_bit, ht, decide_eq_true rfl] at hb
            cases hb
          · rename_i ht
            rw [e] at ht
            exact ht hb
        generalize (if s.testBit k = true then s ^^^ 2 ^ k else s) = z at hne ⊢
        by_cases hz : z < j
        · rw [if_pos hz, if_pos (by omega)]
        · rw [if_neg hz, if_neg (by omega)]
      | false =>
        have hp : (j ^^^ 2 ^ k).testBit k = true := by rw [flip_bit, hb, decide_eq_true rfl] <;> rfl
        have hj2 := flip_lt hj' hk
        rw [h0 L j lL hj' hb s hs]
        have vj : at0 L j = at0 l j := by
          rw [ihL j hj', hb, if_neg (show ¬ false = true by decide), if_neg (Nat.lt_irrefl j)]
        have vj2 : at0 L (j ^^^ 2 ^ k) = at0 l (j ^^^ 2 ^ k) := by
          rw [ihL _ hj2, hp, if_pos rfl, flip_flip, if_neg (Nat.lt_irrefl j)]
        by_cases e : s = j ∨ s = j ^^^ 2 ^ k
        · rw [if_pos e]
          rcases e with e | e
          · subst e
            rw [hb, if_neg (show ¬ false = true by decide), if_pos (Nat.lt_succ_self s)]
            unfold stp
            rw [vj, vj2]
          · subst e
            rw [hp, if_pos rfl, flip_flip, if_pos (Nat.lt_succ_self j)]
            unfold stp
            rw [flip_flip, vj, vj2]
        · rw [if_neg e, ihL s hs]
          have hne : (if s.testBit k = true then s ^^^ 2 ^ k else s) ≠ j := fun z => by
            split at z
            · exact e (.inr (by rw [← z, flip_flip]))
            · exact e (.inl z)
          generalize (if s.testBit k = true then s ^^^ 2 ^ k else s) = z at hne ⊢
          by_cases hz : z < j
          · rw [if_pos hz, if_pos (by omega)]
          · rw [if_neg hz, if_neg (by omega)]
  intro s hs
  rw [key _ (Nat.le_refl _) s hs, if_pos]
  split
  · exact flip_lt hs hk
  · exact hs
/-- name by name -/
theorem names_tr (m : Mx) {n : Nat} (G : List Int → Nat → List Int) (hlen : ∀ l k, (G l k).length = l.length)
    (hG : ∀ l k, l.length = 2 ^ n → k < n → ∀ s, s < 2 ^ n → at0 (G l k) s = stp m k (at0 l) s) (l : List Int) (hl : l.length = 2 ^ n) {s : Nat} (hs : s < 2 ^ n) :
    at0 ((List.range n).foldl G l) s = tr m n (at0 l) s := by
  rw [← fold_tr m n _ hs]
  have key : ∀ j, j ≤ n → ∀ s, s < 2 ^ n → at0 ((List.range j).foldl G l) s = fold_ m j (at0 l) s := by
    intro j
    induction j with
    | zero => intro _ s _; rfl
    | succ j ih =>
      intro hj s hs
      rw [foldl_range_succ, fold_succ, hG _ j (by rw [foldl_length hlen, hl]) (by omega) s hs]
      unfold stp
      rw [ih (by omega) s hs, ih (by omega) _ (flip_lt hs (by omega))]
  exact key n (Nat.le_refl n) s hs
/-! ### the three ways -/
def mS (b : Int) (up : Bool) : Mx := fun x y => if x = y then 1 else if x = up then b else 0
def mG : Mx := fun x y => if x = true ∧ y = true then -1 else 1
theorem spName_stp (b : Int) (up : Bool) {n k : Nat} (hk : k < n) (l : List Int) (hl : l.length = 2 ^ n) {s : Nat} (hs : s < 2 ^ n) : at0 (spName (2 ^ n) b up l k) s = stp (mS b up) k (at0 l) s := by
  refine pass_stp (mS b up) hk (spStep (2 ^ k) b up) (spStep_length _ _ _) (fun l j h => ?_) (fun l j hl hj h s hs => ?_) l hl s hs
  · unfold spStep
    rw [if_neg (fun z => by rw [and_bit] at z; rw [z] at h; cases h)]
  · have hj2 := flip_lt hj hk
    unfold spStep
    rw [if_pos ((and_bit j k).mpr h), or_bit h]
    cases up with
    | true =>
      rw [if_pos rfl, at0_set (by omega)]
      by_cases e : s = j ^^^ 2 ^ k
      · rw [if_pos e, if_pos (.inr e)]
        subst e
        unfold stp mS
        rw [flip_bit, h, flip_flip]
        simp [at0]
      · rw [if_neg e]
        by_cases e2 : s = j
        · rw [if_pos (.inl e2)]
          subst e2
          unfold stp mS
          rw [h]
          simp
        · rw [if_neg (by rintro (z | z); exact e2 z; exact e z)]
    | false =>
      rw [if_neg (by decide), at0_set (by omega)]
      by_cases e : s = j
      · rw [if_pos e, if_pos (.inl e)]
        subst e
        unfold stp mS
        rw [h]
        simp [at0]
      · rw [if_neg e]
        by_cases e2 : s = j ^^^ 2 ^ k
        · rw [if_pos (.inr e2)]
          subst e2
          unfold stp mS
          rw [flip_bit, h]
          simp
        · rw [if_neg (by rintro (z | z); exact e z; exact e2 z)]
theorem spread_tr (b : Int) (up : Bool) {n : Nat} (l : List Int) (hl : l.length = 2 ^ n) {s : Nat} (hs : s < 2 ^ n) : at0 (spreadM n b up l) s = tr (mS b up) n (at0 l) s := by
  unfold spreadM
  rw [hl]
  exact names_tr (mS b up) (spName (2 ^ n) b up) (spName_length _ _ _) (fun l k hl hk s hs => spName_stp b up hk l hl hs) l hl hs
theorem sgName_stp {n k : Nat} (hk : k < n) (l : List Int) (hl : l.length = 2 ^ n) {s : Nat} (hs : s < 2 ^ n) : at0 (sgName (2 ^ n) l k) s = stp mG k (at0 l) s := by
  refine pass_stp mG hk (sgStep (2 ^ k)) (sgStep_length _) (fun l j h => ?_) (fun l j hl hj h s hs => ?_) l hl s hs
  · unfold sgStep
    rw [if_neg (fun z => by rw [and_bit] at z; rw [z] at h; cases h)]
  · have hj2 := flip_lt hj hk
    unfold sgStep
    rw [if_pos ((and_bit j k).mpr h), or_bit h, at0_set (by rw [List.length_set]; omega), at0_set (by omega)]
    by_cases e : s = j ^^^ 2 ^ k
    · rw [if_pos e, if_pos (.inr e)]
      subst e
      unfold stp mG
      rw [flip_bit, h, flip_flip]
      simp [at0]
      omega
    · rw [if_neg e]
      by_cases e2 : s = j
      · rw [if_pos e2, if_pos (.inl e2)]
        subst e2
        unfold stp mG
        rw [h]
        simp [at0]
      · rw [if_neg e2, if_neg (by rintro (z | z); exact e2 z; exact e z)]
theorem signed_tr {n : Nat} (l : List Int) (hl : l.length = 2 ^ n) {s : Nat} (hs : s < 2 ^ n) : at0 (signedM n l) s = tr mG n (at0 l) s := by
  unfold signedM
  rw [hl]
  exact names_tr mG (sgName (2 ^ n)) (sgName_length _) (fun l k hl hk s hs => sgName_stp hk l hl hs) l hl hs
end SS

/-! the plain law k03 -/
namespace SS
def weiChk (n : Nat) : Bool := (List.range (2 ^ n)).all fun s => (List.range (2 ^ n)).all fun o =>
  decide (weiM 0 s o = ker (mS 1 true) n s o) && (decide (weiM 1 s o = ker (mS 1 false) n s o) && decide (weiM 2 s o = ker mG n s o))
theorem weiChk_ok : (List.range 6).all weiChk = true := by decide +kernel
theorem wei_ker {n s o : Nat} (hn : n ≤ 5) (hs : s < 2 ^ n) (ho : o < 2 ^ n) : weiM 0 s o = ker (mS 1 true) n s o ∧ weiM 1 s o = ker (mS 1 false) n s o ∧ weiM 2 s o = ker mG n s o := by
  have h1 := List.all_eq_true.mp weiChk_ok n (List.mem_range.mpr (by omega))
  have h2 := List.all_eq_true.mp (List.all_eq_true.mp h1 s (List.mem_range.mpr hs)) o (List.mem_range.mpr ho)
  simp only [Bool.and_eq_true, decide_eq_true_eq] at h2
  exact h2
theorem dueM_at {way : Nat} {t : List Int} {n s : Nat} (h : t.length = 2 ^ n) (hs : s < 2 ^ n) : at0 (dueM way t) s = sm (2 ^ n) fun o => weiM way s o * at0 t o := by
  unfold dueM
  rw [at0_map _ (by omega)]
  unfold totM
  rw [h, foldl_sm, Int.zero_add]
  exact sm_congr fun o _ => Int.mul_comm _ _
theorem dueM_length (way : Nat) (t : List Int) : (dueM way t).length = t.length := by
  unfold dueM
  rw [List.length_map, List.length_range]
theorem k03_math (t : List Int) {n : Nat} (h : t.length = 2 ^ n) (hn : n ≤ 5) : spreadM n 1 true t = dueM 0 t ∧ spreadM n 1 false t = dueM 1 t ∧ signedM n t = dueM 2 t := by
  refine ⟨ext0 (by rw [spreadM_length, dueM_length]) fun s hs => ?_, ext0 (by rw [spreadM_length, dueM_length]) fun s hs => ?_, ext0 (by rw [signedM_length, dueM_length]) fun s hs => ?_⟩
  · rw [spreadM_length, h] at hs
    rw [spread_tr 1 true t h hs, dueM_at h hs]
    exact sm_congr fun o ho => by rw [(wei_ker hn hs ho).1]
  · rw [spreadM_length, h] at hs
    rw [spread_tr 1 false t h hs, dueM_at h hs]
    exact sm_congr fun o ho => by rw [(wei_ker hn hs ho).2.1]
  · rw [signedM_length, h] at hs
    rw [signed_tr t h hs, dueM_at h hs]
    exact sm_congr fun o ho => by rw [(wei_ker hn hs ho).2.2]
end SS

namespace SS
open PySem PySem.Spec PyProof.Rows L2 Evl

local macro_rules | `(tactic| walk_at "rd") => `(tactic| simp only [tSeq, tNext, tAsg, gName, tRet, tRetN, tDrop, tIfS, tCall, tCallS, tCons, tNil, tVar, tC, tOp, tUn, rI0, rI, rU, tCB, tB, tTest, tAnd, tOr, tNot, tAndV, tOrV, tNotV, tIf, tChain, tLst, tTup, rEq, rNe, is_int, is_bool, is_list, is_tuple, tIsN, tNotN, rLenS, rListS, rIxL, rIxT, gSub, rSetL, tBM, tBM0, rAppend, rClear, rExtend, rPop, rCat, rRep, reduceCtorEq, false_and, exists_false, false_or, or_false, L2.wipe, List.length_map, tSl, rSlL, tPart, tNoPart, rSum, rAll, 
  List.getElem?_cons_zero, List.getElem?_cons_succ, List.set_cons_zero, List.set_cons_succ, List.append_nil, List.nil_append, List.cons_append, List.cons.injEq, and_true, true_and, Option.some.injEq, V.int.injEq, V.bl.injEq, V.ref.injEq, exists_eq_left', exists_eq_left, exists_and_left, exists_eq', if_true, if_false, Bool.false_eq_true, ite_true, ite_false, decide_eq_true_eq, Int.toNat_natCast, Int.one_mul, band_nn, bor_nn, bxor_nn])
local macro_rules | `(tactic| walk_at "rl") => `(tactic| simp only [tFor_W, tLc_W, iList, iTup, iRng1, iRng2, iEnum, iZip, tSeq, tNext, tAsg, gName, tRet, tRetN, tDrop, tIfS, tCall, tCallS, tCons, tNil, tVar, tC, tOp, tUn, rI0, rI, rU, tCB, tB, tTest, tAnd, tOr, tNot, tAndV, tOrV, tNotV, tIf, tChain, tLst, tTup, rEq, rNe, is_int, is_bool, is_list, is_tuple, tIsN, tNotN, rLenS, rListS, rIxL, rIxT, gSub, rSetL, tBM, tBM0, rAppend, rClear, rExtend, rPop, rCat, rRep, reduceCtorEq, false_and, exists_false, false_or, or_false, L2.wipe, List.length_map, tSl, rSlL, tPart, tNoPart, rSum, rAll, 
  List.getElem?_cons_zero, List.getElem?_cons_succ, List.set_cons_zero, List.set_cons_succ, List.append_nil, List.nil_append, List.cons_append, List.cons.injEq, and_true, true_and, Option.some.injEq, V.int.injEq, V.bl.injEq, V.ref.injEq, exists_eq_left', exists_eq_left, exists_and_left, exists_eq', if_true, if_false, Bool.false_eq_true, ite_true, ite_false, decide_eq_true_eq, Int.toNat_natCast, Int.one_mul, band_nn, bor_nn, bxor_nn])
local macro_rules | `(tactic| walk_at "eva") => `(tactic| (intro H1 e1 Q1 q1; walk_at "rd"; exact q1 _ (Ex.refl _)))
local macro_rules | `(tactic| walk_at "go1") => `(tactic| first
  | refine ⟨_, by assumption, ?_⟩
  | refine ⟨_, Or.inl (Or.inl (Or.inl (by assumption))), ?_⟩
  | refine ⟨_, Or.inl (by assumption), ?_⟩
  | refine ⟨_, at_int (by first | assumption | omega), ?_⟩
  | refine ⟨_, ix_int (by first | assumption | omega), ?_⟩
  | refine ⟨_, rfl, ?_⟩
  | refine ⟨Or.inl (Or.inl ⟨by omega, by omega⟩), ?_⟩
  | refine ⟨Or.inl (Or.inr ⟨by omega, by omega⟩), ?_⟩
  | refine ⟨by assumption, ?_⟩
  | refine ⟨(rfl : scal _ _ = true), ?_⟩)
local macro_rules | `(tactic| walk_at "go") => `(tactic| repeat (walk_at "go1"))

def top (i : Nat) : Stmt := PySem.Challenge.pw_setsums_k03_sums_set_by_set.main.body.getD i (.Pass ⟨0, 0, 0, 0⟩)
abbrev s_is_whole : Stmt := top 5
abbrev N_is_whole : List Str := ["thing"]
theorem sc_is_whole : FnScope N_is_whole ["thing"] (defScope s_is_whole) := ⟨rfl, rfl, rfl, by decide +kernel, rfl, by decide +kernel, by decide +kernel⟩
abbrev s_names_of : Stmt := top 7
abbrev N_names_of : List Str := ["table", "number", "many"]
theorem sc_names_of : FnScope N_names_of ["table"] (defScope s_names_of) := ⟨rfl, rfl, rfl, by decide +kernel, rfl, by decide +kernel, by decide +kernel⟩
abbrev s_spread : Stmt := top 9
abbrev N_spread : List Str := ["table", "by", "is_up", "many", "found", "name", "bit", "one"]
theorem sc_spread : FnScope N_spread ["table", "by", "is_up"] (defScope s_spread) := ⟨rfl, rfl, rfl, by decide +kernel, rfl, by decide +kernel, by decide +kernel⟩
abbrev s_below : Stmt := top 10
abbrev N_below : List Str := ["table"]
theorem sc_below : FnScope N_below ["table"] (defScope s_below) := ⟨rfl, rfl, rfl, by decide +kernel, rfl, by decide +kernel, by decide +kernel⟩
abbrev s_above : Stmt := top 11
abbrev N_above : List Str := ["table"]
theorem sc_above : FnScope N_above ["table"] (defScope s_above) := ⟨rfl, rfl, rfl, by decide +kernel, rfl, by decide +kernel, by decide +kernel⟩
abbrev s_signed : Stmt := top 12
abbrev N_signed : List Str := ["table", "many", "found", "name", "bit", "one", "low", "high"]
theorem sc_signed : FnScope N_signed ["table"] (defScope s_signed) := ⟨rfl, rfl, rfl, by decide +kernel, rfl, by decide +kernel, by decide +kernel⟩
abbrev s_law_cell : Stmt := top 14
abbrev N_law_cell : List Str := ["_law_script", "_law_k"]
theorem sc_law_cell : FnScope N_law_cell ["_law_script", "_law_k"] (defScope s_law_cell) := ⟨rfl, rfl, rfl, by decide +kernel, rfl, by decide +kernel, by decide +kernel⟩
abbrev s_law_mixed : Stmt := top 15
abbrev N_law_mixed : List Str := ["_law_script", "_law_k", "_law_cell_here"]
theorem sc_law_mixed : FnScope N_law_mixed ["_law_script", "_law_k"] (defScope s_law_mixed) := ⟨rfl, rfl, rfl, by decide +kernel, rfl, by decide +kernel, by decide +kernel⟩
abbrev s_law_table : Stmt := top 16
abbrev N_law_table : List Str := ["_law_script", "_law_many", "_law_turn", "_law_found", "_law_k", "_law_cell_here", "_law_number", "_law_spot", "_law_more"]
theorem sc_law_table : FnScope N_law_table ["_law_script", "_law_many", "_law_turn"] (defScope s_law_table) := ⟨rfl, rfl, rfl, by decide +kernel, rfl, by decide +kernel, by decide +kernel⟩
abbrev s_law_bits : Stmt := top 17
abbrev N_law_bits : List Str := ["_law_one", "_law_found", "_law_name"]
theorem sc_law_bits : FnScope N_law_bits ["_law_one"] (defScope s_law_bits) := ⟨rfl, rfl, rfl, by decide +kernel, rfl, by decide +kernel, by decide +kernel⟩
abbrev s_law_is_table : Stmt := top 18
abbrev N_law_is_table : List Str := ["_law_found", "_law_due_here", "_law_number"]
theorem sc_law_is_table : FnScope N_law_is_table ["_law_found", "_law_due_here"] (defScope s_law_is_table) := ⟨rfl, rfl, rfl, by decide +kernel, rfl, by decide +kernel, by decide +kernel⟩
abbrev s_law_due : Stmt := top 19
abbrev N_law_due : List Str := ["_law_table_here", "_law_way", "_law_rows", "_law_one", "_law_found", "_law_own", "_law_total", "_law_other", "_law_number", "_law_both", "_law_name"]
theorem sc_law_due : FnScope N_law_due ["_law_table_here", "_law_way"] (defScope s_law_due) := ⟨rfl, rfl, rfl, by decide +kernel, rfl, by decide +kernel, by decide +kernel⟩
abbrev s_law : Stmt := top 20
abbrev N_law : List Str := ["_law_script", "_law_table_here", "_law_kept", "_law_due_here", "_law_way", "_law_turn", "_law_found"]
theorem sc_law : FnScope N_law ["_law_script"] (defScope s_law) := ⟨rfl, rfl, rfl, by decide +kernel, rfl, by decide +kernel, by decide +kernel⟩
structure Txt (K : PySem.W.Frag) (mg : Str → Option Value) : Prop where
  n_all : mg "all" = none
  n_bool : mg "bool" = none
  n_enumerate : mg "enumerate" = none
  n_int : mg "int" = none
  n_isinstance : mg "isinstance" = none
  n_len : mg "len" = none
  n_list : mg "list" = none
  n_max : mg "max" = none
  n_range : mg "range" = none
  k_MOST_NAMES : ∃ t, mg "MOST_NAMES" = some (.int 10 t)
  c_SetError : ExcT K mg "SetError"
  c_BadTable : ExcT K mg "BadTable"
  d_is_whole : DefAt K mg "is_whole" s_is_whole ["thing"]
  d_names_of : DefAt K mg "names_of" s_names_of ["table"]
  d_spread : DefAt K mg "spread" s_spread ["table", "by", "is_up"]
  d_below : DefAt K mg "below" s_below ["table"]
  d_above : DefAt K mg "above" s_above ["table"]
  d_signed : DefAt K mg "signed" s_signed ["table"]
  d_law_cell : DefAt K mg "_law_cell" s_law_cell ["_law_script", "_law_k"]
  d_law_mixed : DefAt K mg "_law_mixed" s_law_mixed ["_law_script", "_law_k"]
  d_law_table : DefAt K mg "_law_table" s_law_table ["_law_script", "_law_many", "_law_turn"]
  d_law_bits : DefAt K mg "_law_bits" s_law_bits ["_law_one"]
  d_law_is_table : DefAt K mg "_law_is_table" s_law_is_table ["_law_found", "_law_due_here"]
  d_law_due : DefAt K mg "_law_due" s_law_due ["_law_table_here", "_law_way"]
  d_law : DefAt K mg "law" s_law ["_law_script"]
section
variable {P : Program} {w : World} {K : PySem.W.Frag} {mg : Str → Option Value} {base : Heap}

def sp_is_whole (K : PySem.W.Frag) : Sp := fun vs H Q _ => ∃ x t, vs = [x] ∧ Kd K H x t ∧ Q (.bl (decide (t = .int))) H
theorem ok_is_whole (T : Txt K mg)  : Has P w K mg base 1 "is_whole" ["thing"] (sp_is_whole K) := by
  refine DefAt.has T.d_is_whole sc_is_whole (fun vs H Q E h => ?_) (fun f cdv A outer s H vs Q E hr h => ⟨_, (pss_one (ps_ret (pe_and (pe_callB (id := "isinstance") (k_isK K) (by rfl) T.n_isinstance (by decide +kernel) (pa_cons (pv 0) (pa_cons (pe_ty "int" (by rfl) T.n_int (by decide +kernel)) pa_nil))) (pe_one (pe_not (pe_callB (id := "isinstance") (k_isK K) (by rfl) T.n_isinstance (by decide +kernel) (pa_cons (pv 0) (pa_cons (pe_ty "bool" (by rfl) T.n_bool (by decide +kernel)) pa_nil)))))))), ?_⟩)
  · obtain ⟨x, t, rfl, _⟩ := h
    rfl
  · obtain ⟨x, t, rfl, hk, q⟩ := h
    simp only [L2.start, N_is_whole, List.map_cons, List.map_nil, List.length_cons, List.length_nil, List.replicate_succ, List.replicate_zero, Nat.reduceAdd, Nat.reduceSub, List.cons_append, List.nil_append]
    walk_at "rd"
    refine ⟨t, hk, ?_⟩
    cases t <;> first | exact q | exact ⟨_, hk, q⟩

def sp_names_of (K : PySem.W.Frag) : Sp := fun vs H Q E => ∃ x, vs = [x] ∧ ((∃ n ns, IsTab K H x n ns ∧ ∀ H', Ex H H' → Q (.int (n : Nat)) H') ∨ (NoTab K H x ∧ ∀ H', Ex H H' → E (.ref (He.ga K "BadTable")) none H'))
theorem ok_names_of (T : Txt K mg) (h_is_whole : Has P w K mg base 1 "is_whole" ["thing"] (sp_is_whole K)) : Has P w K mg base 2 "names_of" ["table"] (sp_names_of K) := by
  refine DefAt.has T.d_names_of sc_names_of (fun vs H Q E h => ?_) (fun f cdv A outer s H vs Q E hr h => ⟨_, (pss_cons (ps_if (PW.pt (pw_or (pt_not (pt_val (pe_callB (id := "isinstance") (k_isK K) (by rfl) T.n_isinstance (by decide +kernel) (pa_cons (pv 0) (pa_cons (pe_ty "list" (by rfl) T.n_list (by decide +kernel)) pa_nil))))) (pw_or1 (pt_not (pt_val (pe_callB (id := "all") (k_all K rfl) (by rfl) T.n_all (by decide +kernel) (pa_cons (pe_lc (own := [("number", 1)]) (g := gName 1) rfl sc_names_of.nd (k_pil K (pv 0)) (blkOk_by (own := [("number", 1)]) (N := N_names_of) (sc := defScope s_names_of) (by decide +kernel)) (fun _ _ _ _ _ => (pg_name (i := 1) sc_names_of.nd rfl (Or.inl rfl))) (fun _ _ _ _ _ => pts_nil) (fun _ _ _ _ _ => (pe_has h_is_whole (hr.mono (by decide)) rfl passL (pa_cons (pv 1) pa_nil)))) pa_nil)))))))
      (pss_one (k_rz K rfl takesB T.c_BadTable rfl)) pss_nil)
      (pss_cons (ps_for (passes_of rfl) rfl (pi_range1 rfl T.n_range (pa_cons (pe_op op_add (pe_kint T.k_MOST_NAMES rfl) pe_int) pa_nil)) (pg_name (i := 2) sc_names_of.nd rfl (Or.inl rfl))
      (pss_one (ps_if (pt_cmpR op_eq (pe_callB (id := "len") (k_len K) (by rfl) T.n_len (by decide +kernel) (pa_cons (pv 0) pa_nil)) (pe_op op_sh pe_int (pv 2)) (nomark _))
      (pss_one (ps_ret (pv 2))) pss_nil)))
      (pss_one (k_rz K rfl takesB T.c_BadTable rfl)))), ?_⟩)
  · obtain ⟨x, rfl, _⟩ := h
    rfl
  · obtain ⟨x, rfl, h⟩ := h
    simp only [L2.start, N_names_of, List.map_cons, List.map_nil, List.length_cons, List.length_nil, List.replicate_succ, List.replicate_zero, Nat.reduceAdd, Nat.reduceSub, List.cons_append, List.nil_append]
    walk_at "rd"
    have main : (∃ t, Kd K H x t ∧ t ≠ .lst ∧ ∀ H', Ex H H' → E (.ref (He.ga K "BadTable")) none H') ∨
        ∃ a xs, x = .ref a ∧ SqL K H a xs ∧ xs.length ≤ 40000 ∧ (∀ y ∈ xs, El K H y) ∧ (xs.all isI = true → (∀ n, n ≤ 10 → xs.length ≠ 2 ^ n) → ∀ H', Ex H H' → E (.ref (He.ga K "BadTable")) none H') ∧
          (xs.all isI = false → ∀ H', Ex H H' → E (.ref (He.ga K "BadTable")) none H') ∧ ∀ n, n ≤ 10 → xs.all isI = true → xs.length = 2 ^ n → ∀ H', Ex H H' → Q (.int (n : Nat)) H' := by
      rcases h with ⟨n, ns, ⟨a, rfl, hA, hn, hl⟩, q⟩ | ⟨⟨t, k, ht⟩ | ⟨a, xs, rfl, hA, hz, hE, hb⟩, q⟩
      · have hall : (ns.map V.int).all isI = true := by simp [List.all_map, isI]
        have hl2 : (ns.map V.int).length = 2 ^ n := by rw [List.length_map, hl]
        refine .inr ⟨a, _, rfl, hA, ?_, ?_, fun _ h2 => ?_, fun h2 => ?_, fun m hm _ h2 => ?_⟩
        · have := pow_le hn
          omega
        · intro y hy
          obtain ⟨i, _, rfl⟩ := List.mem_map.mp hy
          exact .int i
        · exact absurd hl2 (h2 n hn)
        · rw [hall] at h2
          cases h2
        · have := pow_inj (hl2.symm.trans h2)
          subst this
          exact q
      · exact .inl ⟨t, k, ht, q⟩
      · refine .inr ⟨a, xs, rfl, hA, hz, hE, fun _ _ => q, fun _ => q, fun n hn h1 h2 => ?_⟩
        rcases hb with hb | ⟨_, hb⟩
        · rw [hb] at h1
          cases h1
        · exact absurd h2 (hb n hn)
    rcases main with ⟨t, k, ht, q⟩ | ⟨a, xs, rfl, hA, hz, hE, q1, q2, q3⟩
    · refine ⟨t, k, ?_⟩
      have e : t.isa .lst = false := by cases t <;> first | rfl | exact absurd rfl ht
      rw [e]
      exact q H (Ex.refl H)
    · refine ⟨.lst, .lst hA, ?_⟩
      refine iteF ?_
      refine lc_vals (K := K) (fun _ => true) (fun y => .bl (isI y)) (fun H1 _ _ q => ⟨_, rfl, q H1 (Ex.refl _)⟩) hA hz (fun _ => rfl) (fun _ _ _ _ => yes_ev) (fun y hy H1 e1 _ H2 e2 Q2 q2 => ?_) H (Ex.refl H) _ (fun p H2 np e2 h2 => ?_)
      · obtain ⟨t, k, hi⟩ := (hE y hy).mono (e1.trans e2)
        exact ⟨y, rfl, y, t, rfl, k, by rw [hi]; exact q2 _ (Ex.refl _)⟩
      · have eb : ((xs.filter fun _ => true).map fun y => V.bl (isI y)) = (xs.map isI).map V.bl := by
          rw [List.filter_eq_self.mpr (fun _ _ => rfl), List.map_map]
          rfl
        rw [eb] at h2
        refine ⟨p, rfl, _, .inl (.inl h2), ?_⟩
        have ea : (xs.map isI).all id = xs.all isI := by rw [List.all_map]; rfl
        rw [ea]
        cases hall : xs.all isI with
        | false => exact q2 hall H2 e2
        | true =>
          refine s_forR1 (n := 11) (by walk_at "eva") (by decide) (fun i σ H' => Ex H H' ∧ (∃ z, σ = [some (.ref a), none, z]) ∧ ∀ m, m < i → xs.length ≠ 2 ^ m) (fun H1 e1 => ⟨e2.trans e1, ⟨_, rfl⟩, fun m hm => absurd hm (Nat.not_lt_zero m)⟩) (fun i σ' H' hi hP => ?_) (fun σ' H' hP => ?_)
          · obtain ⟨e3, ⟨z, rfl⟩, hm⟩ := hP
            walk_at "rd"
            refine ⟨_, .inl (ex_l e3 hA), ⟨by omega, by omega, by decide⟩, rfl, ?_⟩
            refine ite2 (fun h => ?_) (fun h => ?_)
            · exact q3 i (by omega) hall (by omega) H' e3
            · refine ⟨e3, fun m hm2 => ?_⟩
              by_cases hmi : m = i
              · subst hmi
                omega
              · exact hm m (by omega)
          · obtain ⟨e3, _, hm⟩ := hP
            exact q1 hall (fun n hn => hm n (by show n < 11; omega)) H' e3

def sp_spread (K : PySem.W.Frag) : Sp := fun vs H Q E => ∃ x b up, vs = [x, .int b, .bl up] ∧ -(2 ^ 64) < b ∧ b < 2 ^ 64 ∧
  ((∃ n ns, IsTab K H x n ns ∧ RetL ((spreadM n b up ns).map V.int) H Q) ∨ (NoTab K H x ∧ ∀ H', Ex H H' → E (.ref (He.ga K "BadTable")) none H'))
theorem ok_spread (T : Txt K mg) (h_names_of : Has P w K mg base 2 "names_of" ["table"] (sp_names_of K)) : Has P w K mg base 3 "spread" ["table", "by", "is_up"] (sp_spread K) := by
  refine DefAt.has T.d_spread sc_spread (fun vs H Q E h => ?_) (fun f cdv A outer s H vs Q E hr h => ⟨_, (pss_cons (ps_set (i := 3) sc_spread.nd rfl (Or.inl rfl) (pe_has h_names_of (hr.mono (by decide)) rfl passB (pa_cons (pv 0) pa_nil)))
      (pss_cons (ps_set (i := 4) sc_spread.nd rfl (Or.inl rfl) (pe_callTy (T := "list") (k_list K) (by rfl) T.n_list (by decide +kernel) (pa_cons (pv 0) pa_nil)))
      (pss_cons (ps_for (passes_of rfl) rfl (pi_range1 rfl T.n_range (pa_cons (pv 3) pa_nil)) (pg_name (i := 5) sc_spread.nd rfl (Or.inl rfl))
      (pss_cons (ps_set (i := 6) sc_spread.nd rfl (Or.inl rfl) (pe_op op_sh pe_int (pv 5)))
      (pss_one (ps_for (passes_of rfl) rfl (pi_range1 rfl T.n_range (pa_cons (pe_callB (id := "len") (k_len K) (by rfl) T.n_len (by decide +kernel) (pa_cons (pv 4) pa_nil)) pa_nil)) (pg_name (i := 7) sc_spread.nd rfl (Or.inl rfl))
      (pss_one (ps_if (pt_cmpR op_eq (pe_op op_and (pv 7) (pv 6)) pe_int (nomark _))
      (pss_one (ps_if (pt_val (pv 2))
      (pss_one (ps_asg (pe_op op_add (pe_ix (k_ixl K) (pv 4) (pe_op op_or (pv 7) (pv 6)) (fun _ _ => rfl)) (pe_op op_mu (pv 1) (pe_ix (k_ixl K) (pv 4) (pv 7) (fun _ _ => rfl)))) (pg_sub (pv 4) (pe_op op_or (pv 7) (pv 6)) set_list))) (pss_one (ps_asg (pe_op op_add (pe_ix (k_ixl K) (pv 4) (pv 7) (fun _ _ => rfl)) (pe_op op_mu (pv 1) (pe_ix (k_ixl K) (pv 4) (pe_op op_or (pv 7) (pv 6)) (fun _ _ => rfl)))) (pg_sub (pv 4) (pv 7) set_list))))) pss_nil))))))
      (pss_one (ps_ret (pv 4)))))), ?_⟩)
  · obtain ⟨x, b, up, rfl, _⟩ := h
    rfl
  · obtain ⟨x, b, up, rfl, b1, b2, h⟩ := h
    simp only [L2.start, N_spread, List.map_cons, List.map_nil, List.length_cons, List.length_nil, List.replicate_succ, List.replicate_zero, Nat.reduceAdd, Nat.reduceSub, List.cons_append, List.nil_append]
    walk_at "rd"
    refine ⟨x, rfl, ?_⟩
    rcases h with ⟨n, ns, hT, q⟩ | ⟨hN, q⟩
    · refine .inl ⟨n, ns, hT, fun H1 e1 => ?_⟩
      obtain ⟨a, rfl, hA, hn, hl⟩ := hT
      walk_at "rd"
      have hp := pow_le hn
      refine ⟨_, .inl (ex_l e1 hA), fun p np => ?_⟩
      have nS : H p = none := fresh_back e1 np
      refine s_forR1 (n := n) (by walk_at "eva") (by omega) (fun i σ H' => ∃ z5 z6 z7, σ = [some (.ref a), some (.int b), some (.bl up), some (.int n), some (.ref p), z5, z6, z7] ∧ Ex H H' ∧ H' p = some (.lst (((List.range i).foldl (spName ns.length b up) ns).map V.int)))
        (fun H2 e2 => ⟨_, _, _, rfl, (e1.trans (Ex.new np)).trans e2, e2 p _ upd_same⟩) (fun i σ' H' hi hP => ?_) (fun σ' H' hP => ?_)
      · obtain ⟨z5, z6, z7, rfl, e2, h2⟩ := hP
        generalize hL : (List.range i).foldl (spName ns.length b up) ns = L at h2
        have lL : L.length = 2 ^ n := by rw [← hL, foldl_length (spName_length _ _ _), hl]
        walk_at "rd"
        refine ⟨cpow1 (by omega), ?_⟩
        have hb : 2 ^ i < 2 ^ n := Nat.pow_lt_pow_right (by decide) (by omega)
        refine s_forR1 (n := (ns.length : Nat)) (fun H3 e3 Q1 q1 => ?_) (by omega) (fun j σ H'' => ∃ z7, σ = [some (.ref a), some (.int b), some (.bl up), some (.int n), some (.ref p), some (.int i), some (.int ((2 ^ i : Nat) : Int)), z7] ∧ Ex H H'' ∧ H'' p = some (.lst (((List.range j).foldl (spStep (2 ^ i) b up) L).map V.int)))
          (fun H3 e3 => ⟨_, rfl, e2.trans e3, e3 p _ h2⟩) (fun j σ'' H'' hj hP => ?_) (fun σ'' H'' hP => ?_)
        · walk_at "rd"
          refine ⟨_, .inl (.inl (.inl (e3 p _ h2))), ?_⟩
          rw [List.length_map, lL, ← hl]
          exact q1 _ (Ex.refl _)
        · obtain ⟨z7, rfl, e3, h3⟩ := hP
          generalize hM : (List.range j).foldl (spStep (2 ^ i) b up) L = M at h3
          have lM : M.length = 2 ^ n := by rw [← hM, foldl_length (spStep_length _ _ _), lL]
          have hj' : j < 2 ^ n := by omega
          have hor : j ||| 2 ^ i < 2 ^ n := Nat.or_lt_two_pow hj' hb
          have hq : SqL K H'' p (M.map V.int) := .inl (.inl h3)
          have fin : ∀ M', spStep (2 ^ i) b up M j = M' → Ex H (upd H'' p (.lst (M'.map V.int))) ∧ (upd H'' p (.lst (M'.map V.int))) p = some (.lst (((List.range (j + 1)).foldl (spStep (2 ^ i) b up) L).map V.int)) := fun M' e => by
            refine ⟨ex_mut e3 nS, ?_⟩
            rw [upd_same, foldl_range_succ, hM, e]
          walk_at "rd"
          refine ⟨rfl, ite2 (fun hc => ?_) (fun hc => ?_)⟩
          · have hc' : j &&& 2 ^ i = 0 := by exact_mod_cast hc
            refine ite2 (fun hup => ?_) (fun hup => ?_)
            · have f := fin _ (by unfold spStep; rw [if_pos hc', if_pos hup])
              walk_at "go"
              rw [set_int]
              exact f
            · have f := fin _ (by unfold spStep; rw [if_pos hc', if_neg hup])
              walk_at "go"
              rw [set_int]
              exact f
          · have hc' : ¬ j &&& 2 ^ i = 0 := fun z => hc (by exact_mod_cast z)
            refine ⟨e3, ?_⟩
            rw [foldl_range_succ, hM]
            unfold spStep
            rw [if_neg hc']
            exact h3
        · obtain ⟨z7, rfl, e3, h3⟩ := hP
          refine ⟨_, _, _, rfl, e3, ?_⟩
          rw [foldl_range_succ, hL]
          exact h3
      · obtain ⟨z5, z6, z7, rfl, e2, h2⟩ := hP
        walk_at "rd"
        exact q p H' nS e2 h2
    · exact .inr ⟨hN, q⟩

def sp_below (K : PySem.W.Frag) : Sp := fun vs H Q E => ∃ x, vs = [x] ∧
  ((∃ n ns, IsTab K H x n ns ∧ RetL ((spreadM n 1 true ns).map V.int) H Q) ∨ (NoTab K H x ∧ ∀ H', Ex H H' → E (.ref (He.ga K "BadTable")) none H'))
theorem ok_below (T : Txt K mg) (h_spread : Has P w K mg base 3 "spread" ["table", "by", "is_up"] (sp_spread K)) : Has P w K mg base 4 "below" ["table"] (sp_below K) := by
  refine DefAt.has T.d_below sc_below (fun vs H Q E h => ?_) (fun f cdv A outer s H vs Q E hr h => ⟨_, (pss_one (ps_ret (pe_has h_spread (hr.mono (by decide)) rfl passB (pa_cons (pv 0) (pa_cons pe_int (pa_cons pe_bl pa_nil)))))), ?_⟩)
  · obtain ⟨x, rfl, _⟩ := h
    rfl
  · obtain ⟨x, rfl, h⟩ := h
    simp only [L2.start, N_below, List.map_cons, List.map_nil, List.length_cons, List.length_nil, List.replicate_succ, List.replicate_zero, Nat.reduceAdd, Nat.reduceSub, List.cons_append, List.nil_append]
    walk_at "rd"
    exact ⟨x, 1, true, rfl, by decide, by decide, h⟩

def sp_above (K : PySem.W.Frag) : Sp := fun vs H Q E => ∃ x, vs = [x] ∧
  ((∃ n ns, IsTab K H x n ns ∧ RetL ((spreadM n 1 false ns).map V.int) H Q) ∨ (NoTab K H x ∧ ∀ H', Ex H H' → E (.ref (He.ga K "BadTable")) none H'))
theorem ok_above (T : Txt K mg) (h_spread : Has P w K mg base 3 "spread" ["table", "by", "is_up"] (sp_spread K)) : Has P w K mg base 4 "above" ["table"] (sp_above K) := by
  refine DefAt.has T.d_above sc_above (fun vs H Q E h => ?_) (fun f cdv A outer s H vs Q E hr h => ⟨_, (pss_one (ps_ret (pe_has h_spread (hr.mono (by decide)) rfl passB (pa_cons (pv 0) (pa_cons pe_int (pa_cons pe_bl pa_nil)))))), ?_⟩)
  · obtain ⟨x, rfl, _⟩ := h
    rfl
  · obtain ⟨x, rfl, h⟩ := h
    simp only [L2.start, N_above, List.map_cons, List.map_nil, List.length_cons, List.length_nil, List.replicate_succ, List.replicate_zero, Nat.reduceAdd, Nat.reduceSub, List.cons_append, List.nil_append]
    walk_at "rd"
    exact ⟨x, 1, false, rfl, by decide, by decide, h⟩

def sp_signed (K : PySem.W.Frag) : Sp := fun vs H Q E => ∃ x, vs = [x] ∧
  ((∃ n ns, IsTab K H x n ns ∧ RetL ((signedM n ns).map V.int) H Q) ∨ (NoTab K H x ∧ ∀ H', Ex H H' → E (.ref (He.ga K "BadTable")) none H'))
theorem ok_signed (T : Txt K mg) (h_names_of : Has P w K mg base 2 "names_of" ["table"] (sp_names_of K)) : Has P w K mg base 3 "signed" ["table"] (sp_signed K) := by
  refine DefAt.has T.d_signed sc_signed (fun vs H Q E h => ?_) (fun f cdv A outer s H vs Q E hr h => ⟨_, (pss_cons (ps_set (i := 1) sc_signed.nd rfl (Or.inl rfl) (pe_has h_names_of (hr.mono (by decide)) rfl passB (pa_cons (pv 0) pa_nil)))
      (pss_cons (ps_set (i := 2) sc_signed.nd rfl (Or.inl rfl) (pe_callTy (T := "list") (k_list K) (by rfl) T.n_list (by decide +kernel) (pa_cons (pv 0) pa_nil)))
      (pss_cons (ps_for (passes_of rfl) rfl (pi_range1 rfl T.n_range (pa_cons (pv 1) pa_nil)) (pg_name (i := 3) sc_signed.nd rfl (Or.inl rfl))
      (pss_cons (ps_set (i := 4) sc_signed.nd rfl (Or.inl rfl) (pe_op op_sh pe_int (pv 3)))
      (pss_one (ps_for (passes_of rfl) rfl (pi_range1 rfl T.n_range (pa_cons (pe_callB (id := "len") (k_len K) (by rfl) T.n_len (by decide +kernel) (pa_cons (pv 2) pa_nil)) pa_nil)) (pg_name (i := 5) sc_signed.nd rfl (Or.inl rfl))
      (pss_one (ps_if (pt_cmpR op_eq (pe_op op_and (pv 5) (pv 4)) pe_int (nomark _))
      (pss_cons (ps_set (i := 6) sc_signed.nd rfl (Or.inl rfl) (pe_ix (k_ixl K) (pv 2) (pv 5) (fun _ _ => rfl)))
      (pss_cons (ps_set (i := 7) sc_signed.nd rfl (Or.inl rfl) (pe_ix (k_ixl K) (pv 2) (pe_op op_or (pv 5) (pv 4)) (fun _ _ => rfl)))
      (pss_cons (ps_asg (pe_op op_add (pv 6) (pv 7)) (pg_sub (pv 2) (pv 5) set_list))
      (pss_one (ps_asg (pe_op op_sub (pv 6) (pv 7)) (pg_sub (pv 2) (pe_op op_or (pv 5) (pv 4)) set_list)))))) pss_nil))))))
      (pss_one (ps_ret (pv 2)))))), ?_⟩)
  · obtain ⟨x, rfl, _⟩ := h
    rfl
  · obtain ⟨x, rfl, h⟩ := h
    simp only [L2.start, N_signed, List.map_cons, List.map_nil, List.length_cons, List.length_nil, List.replicate_succ, List.replicate_zero, Nat.reduceAdd, Nat.reduceSub, List.cons_append, List.nil_append]
    walk_at "rd"
    refine ⟨x, rfl, ?_⟩
    rcases h with ⟨n, ns, hT, q⟩ | ⟨hN, q⟩
    · refine .inl ⟨n, ns, hT, fun H1 e1 => ?_⟩
      obtain ⟨a, rfl, hA, hn, hl⟩ := hT
      walk_at "rd"
      have hp := pow_le hn
      refine ⟨_, .inl (ex_l e1 hA), fun p np => ?_⟩
      have nS : H p = none := fresh_back e1 np
      refine s_forR1 (n := n) (by walk_at "eva") (by omega) (fun i σ H' => ∃ z3 z4 z5 z6 z7, σ = [some (.ref a), some (.int n), some (.ref p), z3, z4, z5, z6, z7] ∧ Ex H H' ∧ H' p = some (.lst (((List.range i).foldl (sgName ns.length) ns).map V.int)))
        (fun H2 e2 => ⟨_, _, _, _, _, rfl, (e1.trans (Ex.new np)).trans e2, e2 p _ upd_same⟩) (fun i σ' H' hi hP => ?_) (fun σ' H' hP => ?_)
      · obtain ⟨z3, z4, z5, z6, z7, rfl, e2, h2⟩ := hP
        generalize hL : (List.range i).foldl (sgName ns.length) ns = L at h2
        have lL : L.length = 2 ^ n := by rw [← hL, foldl_length (sgName_length _), hl]
        walk_at "rd"
        refine ⟨cpow1 (by omega), ?_⟩
        have hb : 2 ^ i < 2 ^ n := Nat.pow_lt_pow_right (by decide) (by omega)
        refine s_forR1 (n := (ns.length : Nat)) (fun H3 e3 Q1 q1 => ?_) (by omega) (fun j σ H'' => ∃ z5 z6 z7, σ = [some (.ref a), some (.int n), some (.ref p), some (.int i), some (.int ((2 ^ i : Nat) : Int)), z5, z6, z7] ∧ Ex H H'' ∧ H'' p = some (.lst (((List.range j).foldl (sgStep (2 ^ i)) L).map V.int)))
          (fun H3 e3 => ⟨_, _, _, rfl, e2.trans e3, e3 p _ h2⟩) (fun j σ'' H'' hj hP => ?_) (fun σ'' H'' hP => ?_)
        · walk_at "rd"
          refine ⟨_, .inl (.inl (.inl (e3 p _ h2))), ?_⟩
          rw [List.length_map, lL, ← hl]
          exact q1 _ (Ex.refl _)
        · obtain ⟨z5, z6, z7, rfl, e3, h3⟩ := hP
          generalize hM : (List.range j).foldl (sgStep (2 ^ i)) L = M at h3
          have lM : M.length = 2 ^ n := by rw [← hM, foldl_length (sgStep_length _), lL]
          have hj' : j < 2 ^ n := by omega
          have hor : j ||| 2 ^ i < 2 ^ n := Nat.or_lt_two_pow hj' hb
          have hq : SqL K H'' p (M.map V.int) := .inl (.inl h3)
          walk_at "rd"
          refine ⟨rfl, ite2 (fun hc => ?_) (fun hc => ?_)⟩
          · have hc' : j &&& 2 ^ i = 0 := by exact_mod_cast hc
            refine ⟨_, hq, _, at_int (by omega), ?_⟩
            refine ⟨_, hq, _, at_int (by omega), ?_⟩
            walk_at "rd"
            refine ⟨_, h3, _, ix_int (by omega), ?_⟩
            have lS : ∀ z : Int, (M.set j z).length = 2 ^ n := fun z => by rw [List.length_set, lM]
            refine ⟨_, upd_same, _, by rw [set_int]; exact ix_int (by rw [lS]; omega), ?_⟩
            rw [upd_upd, set_int, set_int]
            refine ⟨_, _, _, ⟨rfl, rfl, rfl⟩, ex_mut e3 nS, ?_⟩
            rw [upd_same, foldl_range_succ, hM]
            unfold sgStep
            rw [if_pos hc']
          · have hc' : ¬ j &&& 2 ^ i = 0 := fun z => hc (by exact_mod_cast z)
            refine ⟨_, _, _, ⟨rfl, rfl, rfl⟩, e3, ?_⟩
            rw [foldl_range_succ, hM]
            unfold sgStep
            rw [if_neg hc']
            exact h3
        · obtain ⟨z5, z6, z7, rfl, e3, h3⟩ := hP
          refine ⟨_, _, _, _, _, rfl, e3, ?_⟩
          rw [foldl_range_succ, hL]
          exact h3
      · obtain ⟨z3, z4, z5, z6, z7, rfl, e2, h2⟩ := hP
        walk_at "rd"
        exact q p H' nS e2 h2
    · exact .inr ⟨hN, q⟩

def sp_law_cell (K : PySem.W.Frag) : Sp := fun vs H Q _ => ∃ a ns k, vs = [.ref a, .int (k : Nat)] ∧ SqL K H a (ns.map V.int) ∧ RetV (.int (cellM ns k)) H Q
theorem ok_law_cell (T : Txt K mg)  : Has P w K mg base 1 "_law_cell" ["_law_script", "_law_k"] (sp_law_cell K) := by
  refine DefAt.has T.d_law_cell sc_law_cell (fun vs H Q E h => ?_) (fun f cdv A outer s H vs Q E hr h => ⟨_, (pss_one (ps_ret (pe_op op_mod (pe_ix (k_ixl K) (pe_op op_cat (pe_slice (k_sll K) (pv 0) (po_some (pv 1)) (po_some (pe_op op_add (pv 1) pe_int))) (pe_lst (pa_cons pe_int pa_nil))) pe_int (fun _ _ => rfl)) (pe_op op_pw pe_int pe_int)))), ?_⟩)
  · obtain ⟨a, ns, k, rfl, _⟩ := h
    rfl
  · obtain ⟨a, ns, k, rfl, hA, q⟩ := h
    simp only [L2.start, N_law_cell, List.map_cons, List.map_nil, List.length_cons, List.length_nil, List.replicate_succ, List.replicate_zero, Nat.reduceAdd, Nat.reduceSub, List.cons_append, List.nil_append]
    walk_at "rd"
    refine ⟨_, hA, fun p np => ⟨by decide, fun p1 np1 => ?_⟩⟩
    have e1 := Ex.new (o := HO.lst (cutV (ns.map V.int) (some (k : Int)) (some ((k : Int) + 1)))) np
    have e2 := Ex.new (o := HO.lst [V.int 0]) np1
    refine ⟨_, e2 p _ upd_same, _, upd_same, ?_, fun p2 np2 => ?_⟩
    · rw [cut1]
      exact sz_of (by simp; omega)
    · have e3 := Ex.new (o := HO.lst (cutV (ns.map V.int) (some (k : Int)) (some ((k : Int) + 1)) ++ [V.int 0])) np2
      refine ⟨_, .inl (.inl upd_same), _, by rw [cut1]; exact cell_at ns k, ⟨by decide, by decide⟩, _, rfl, by decide, ?_⟩
      exact q _ ((e1.trans e2).trans e3)

def sp_law_mixed (K : PySem.W.Frag) : Sp := fun vs H Q _ => ∃ a ns k, vs = [.ref a, .int (k : Nat)] ∧ SqL K H a (ns.map V.int) ∧ k < 1000 ∧ RetV (.int (mixedM ns k)) H Q
theorem ok_law_mixed (T : Txt K mg) (h_law_cell : Has P w K mg base 1 "_law_cell" ["_law_script", "_law_k"] (sp_law_cell K)) : Has P w K mg base 2 "_law_mixed" ["_law_script", "_law_k"] (sp_law_mixed K) := by
  refine DefAt.has T.d_law_mixed sc_law_mixed (fun vs H Q E h => ?_) (fun f cdv A outer s H vs Q E hr h => ⟨_, (pss_cons (ps_set (i := 2) sc_law_mixed.nd rfl (Or.inl rfl) (pe_op op_add (pe_op op_add (pe_has h_law_cell (hr.mono (by decide)) rfl passB (pa_cons (pv 0) (pa_cons (pe_op op_mod (pv 1) (pe_callB (id := "max") (call_max2 rfl) (by rfl) T.n_max (by decide +kernel) (pa_cons pe_int (pa_cons (pe_callB (id := "len") (k_len K) (by rfl) T.n_len (by decide +kernel) (pa_cons (pv 0) pa_nil)) pa_nil)))) pa_nil))) (pe_op op_mu (pe_op op_mu pe_int (pv 1)) (pv 1))) pe_int))
      (pss_one (ps_ret (pe_op op_fdiv (pe_op op_mod (pe_op op_mu (pe_op op_mod (pe_op op_mu (pv 2) (pv 2)) pe_int) (pe_op op_add pe_int (pe_op op_mu pe_int (pv 1)))) pe_int) pe_int)))), ?_⟩)
  · obtain ⟨a, ns, k, rfl, _⟩ := h
    rfl
  · obtain ⟨a, ns, k, rfl, hA, hk, q⟩ := h
    simp only [L2.start, N_law_mixed, List.map_cons, List.map_nil, List.length_cons, List.length_nil, List.replicate_succ, List.replicate_zero, Nat.reduceAdd, Nat.reduceSub, List.cons_append, List.nil_append]
    walk_at "rd"
    have em : (if ((ns.map V.int).length : Int) > 1 then ((ns.map V.int).length : Int) else 1) = ((max 1 ns.length : Nat) : Int) := by
      rw [List.length_map]
      split <;> omega
    refine ⟨_, .inl hA, _, _, ⟨rfl, rfl⟩, by rw [em]; omega, a, ns, k % max 1 ns.length, by rw [em]; rfl, hA, fun H1 e1 => ?_⟩
    have h0 := cellM_nn ns (k % max 1 ns.length)
    have h1 := cellM_lt ns (k % max 1 ns.length)
    have hkk : (0 : Int) ≤ 7919 * (k : Int) * (k : Int) ∧ 7919 * (k : Int) * (k : Int) ≤ 7919 * 1000 * 1000 := by
      have hh : k * k ≤ 1000 * 1000 := Nat.mul_le_mul (by omega) (by omega)
      rw [Int.mul_assoc, ← Int.natCast_mul]
      omega
    have hb : (cellM ns (k % max 1 ns.length) + 7919 * (k : Int) * (k : Int) + 104729).natAbs < 2 ^ 300 := by omega
    refine ⟨cmu_l (by decide), cmu_r (by omega), _, rfl, cmu_w hb hb (by decide) (by decide) (by decide), by decide, cmu_l (by decide), cmu_r (by omega), by decide, ⟨by decide, by decide⟩, ?_⟩
    exact q H1 e1

def sp_law_table (K : PySem.W.Frag) : Sp := fun vs H Q _ => ∃ (a : Addr) (ns : List Int) (n turn : Nat), vs = [.ref a, .int (n : Nat), .int (turn : Nat)] ∧ SqL K H a (ns.map V.int) ∧ ns.length ≤ 63 ∧ n ≤ 10 ∧ turn ≤ 1000 ∧ ∀ L : List Int, L.length = 2 ^ n → Bd 212 L → RetL (L.map V.int) H Q
theorem ok_law_table (T : Txt K mg)  : Has P w K mg base 1 "_law_table" ["_law_script", "_law_many", "_law_turn"] (sp_law_table K) := by
  refine DefAt.has T.d_law_table sc_law_table (fun vs H Q E h => ?_) (fun f cdv A outer s H vs Q E hr h => ⟨_, (pss_cons (ps_set (i := 3) sc_law_table.nd rfl (Or.inl rfl) (pe_op op_rep (pe_lst (pa_cons pe_int pa_nil)) (pe_op op_sh pe_int (pv 1))))
      (pss_cons (ps_for (g := gTup K 2 (gCons (gName 4) (gCons (gName 5) gNil))) (passes_of rfl) rfl (k_enum K (by rfl) T.n_enumerate (pa_cons (pe_slice (k_sll K) (pv 0) po_none (po_some pe_int)) pa_nil)) (k_pgt K rfl (pgs_cons (pg_name (i := 4) sc_law_table.nd rfl (Or.inl rfl)) (pgs_cons (pg_name (i := 5) sc_law_table.nd rfl (Or.inl rfl)) pgs_nil)))
      (pss_cons (ps_set (i := 6) sc_law_table.nd rfl (Or.inl rfl) (pe_op op_mod (pe_op op_mu (pe_op op_mod (pv 5) (pe_op op_pw pe_int pe_int)) (pe_op op_add (pe_op op_add pe_int (pe_op op_mu pe_int (pv 2))) (pv 4))) (pe_op op_pw pe_int pe_int)))
      (pss_cons (ps_set (i := 7) sc_law_table.nd rfl (Or.inl rfl) (pe_op op_mod (pe_op op_add (pe_op op_fdiv (pv 6) pe_int) (pe_op op_mu (pv 4) (pe_op op_add (pe_op op_mu pe_int (pv 2)) pe_int))) (pe_callB (id := "len") (k_len K) (by rfl) T.n_len (by decide +kernel) (pa_cons (pv 3) pa_nil))))
      (pss_cons (ps_set (i := 8) sc_law_table.nd rfl (Or.inl rfl) (pe_ix (k_ixl K) (pe_lst (pa_cons (pv 6) (pa_cons (pe_op op_sub pe_int (pv 6)) (pa_cons (pe_op op_mod (pv 6) pe_int) (pa_cons pe_int (pa_cons (pe_op op_sub pe_int (pe_op op_mod (pv 6) pe_int)) pa_nil)))))) (pe_op op_mod (pe_op op_add (pe_op op_add (pe_op op_fdiv (pv 6) pe_int) (pv 4)) (pv 2)) pe_int) (fun _ _ => rfl)))
      (pss_one (ps_asg (pe_op op_add (pe_ix (k_ixl K) (pv 3) (pv 7) (fun _ _ => rfl)) (pv 8)) (pg_sub (pv 3) (pv 7) set_list)))))))
      (pss_one (ps_ret (pv 3))))), ?_⟩)
  · obtain ⟨a, ns, n, turn, rfl, _⟩ := h
    rfl
  · obtain ⟨a, ns, n, turn, rfl, hA, hz, hn, ht, q⟩ := h
    simp only [L2.start, N_law_table, List.map_cons, List.map_nil, List.length_cons, List.length_nil, List.replicate_succ, List.replicate_zero, Nat.reduceAdd, Nat.reduceSub, List.cons_append, List.nil_append]
    walk_at "rl"
    have hp := pow_le hn
    have hp1 : 1 ≤ 2 ^ n := Nat.one_le_two_pow
    generalize hN : 2 ^ n = N at *
    refine ⟨by decide, fun o no => ⟨cpow1 (by omega), _, upd_same, by omega, by omega, ?_, fun p np => ?_⟩⟩
    · exact sz_of (by simp; omega)
    have s1 : Ex H (upd H o (.lst [.int 0])) := Ex.new no
    have s2 := s1.trans (Ex.new (o := .lst (List.replicate (N) [V.int 0]).flatten) np)
    refine ⟨_, ex_l s2 hA, fun c nc => ?_⟩
    have s3 := s2.trans (Ex.new (o := .lst (cutV (ns.map V.int) none (some 400))) nc)
    have nSp : H p = none := fresh_back s1 np
    have ncp : c ≠ p := fun z => by
      rw [z, upd_same] at nc
      cases nc
    have hcut : cutV (ns.map V.int) none (some 400) = ns.map V.int := by
      rw [show (400 : Int) = ((400 : Nat) : Int) by rfl, cut_to, List.take_of_length_le (by rw [List.length_map]; omega)]
    rw [hcut]
    rw [hcut] at s3
    refine ⟨_, .inl (.inl upd_same), ?_⟩
    refine w_enum (ns.map V.int) (fun i σ H' => ∃ z4 z5 z6 z7 z8, σ = [some (.ref a), some (.int n), some (.int turn), some (.ref p), z4, z5, z6, z7, z8] ∧ Ex H H' ∧ H' c = some (.lst (ns.map V.int)) ∧ ∃ L : List Int, H' p = some (.lst (L.map V.int)) ∧ L.length = N ∧ ∀ x ∈ L, x.natAbs ≤ i * 10 ^ 60)
      ⟨_, _, _, _, _, rfl, s3, upd_same, List.replicate (N) 0, ?_, List.length_replicate, fun x hx => ?_⟩ (fun i σ H' hP => ?_) (fun k x T σ H' hx nT hP => ?_) (fun σ H' hP => ?_)
    · rw [upd_ne (Ne.symm ncp), upd_same, rep0]
    · rw [(List.mem_replicate.mp hx).2]
      decide
    · obtain ⟨_, _, _, _, _, _, _, hc, _⟩ := hP
      exact .inl (.inl hc)
    · obtain ⟨z4, z5, z6, z7, z8, rfl, e1, hc, L, hL, lL, bL⟩ := hP
      obtain ⟨m, hm, rfl⟩ := get_ints hx
      have hk : k < ns.length := (List.getElem?_eq_some_iff.mp hm).1
      walk_at "rd"
      have eT := Ex.new (o := HO.tup [.int (k : Nat), .int m]) nT
      generalize hH : upd H' T (.tup [.int (k : Nat), .int m]) = H2 at eT
      have e2 : Ex H H2 := e1.trans eT
      have hL2 := eT p _ hL
      have hc2 := eT c _ hc
      have hm0 := Int.emod_nonneg (m % 10 ^ 60 * (48271 + 2 * (turn : Int) + (k : Int))) (show (10 ^ 60 : Int) ≠ 0 by decide)
      have hm1 := Int.emod_lt_of_pos (m % 10 ^ 60 * (48271 + 2 * (turn : Int) + (k : Int))) (show (0 : Int) < 10 ^ 60 by decide)
      refine ⟨⟨by decide, by decide⟩, by decide, cmu_l (by decide), cmu_r (by omega), ⟨by decide, by decide⟩, by decide, ⟨by decide, by decide⟩, cmu_l (by decide), cmu_l (by omega), _, .inl (.inl (.inl hL2)), by rw [List.length_map, lL]; omega, by decide, by decide, sz_of (by show 5 ≤ 100000; decide), fun u nu => ?_⟩
      change 0 ≤ m % 10 ^ Int.toNat 60 * (48271 + 2 * (turn : Int) + (k : Int)) % 10 ^ Int.toNat 60 at hm0
      change m % 10 ^ Int.toNat 60 * (48271 + 2 * (turn : Int) + (k : Int)) % 10 ^ Int.toNat 60 < 10 ^ 60 at hm1
      generalize m % 10 ^ Int.toNat 60 * (48271 + 2 * (turn : Int) + (k : Int)) % 10 ^ Int.toNat 60 = z at nu hm0 hm1 ⊢
      have h97 : 0 ≤ z / 97 := Int.ediv_nonneg hm0 (by decide)
      obtain ⟨w5, hw5, hlt5⟩ : ∃ w5 : Nat, (z / 97 + (k : Int) + (turn : Int)) % 5 = (w5 : Int) ∧ w5 < 5 := by
        generalize z / 97 = z97 at h97
        exact ⟨((z97 + (k : Int) + (turn : Int)) % 5).toNat, by omega, by omega⟩
      obtain ⟨y, hy, hyb⟩ := more_at hm0 hm1 hlt5
      obtain ⟨sp, hsp, hsl⟩ : ∃ sp : Nat, (z / 485 + (k : Int) * (2 * (turn : Int) + 1)) % ((L.map V.int).length : Int) = (sp : Int) ∧ sp < N := by
        rw [List.length_map, lL]
        have a0 := Int.emod_nonneg (z / 485 + (k : Int) * (2 * (turn : Int) + 1)) (show ((N : Nat) : Int) ≠ 0 by omega)
        have a1 := Int.emod_lt_of_pos (z / 485 + (k : Int) * (2 * (turn : Int) + 1)) (show 0 < ((N : Nat) : Int) by omega)
        exact ⟨_, (Int.toNat_of_nonneg a0).symm, by omega⟩
      refine ⟨⟨by decide, by decide⟩, by decide, _, .inl (.inl upd_same), _, by rw [hw5]; exact hy, ?_⟩
      have e3 := e2.trans (Ex.new (o := HO.lst [V.int z, .int (0 - z), .int (z % 9), .int 1, .int (0 - z % 7)]) nu)
      have hL3 : (upd H2 u (.lst [V.int z, .int (0 - z), .int (z % 9), .int 1, .int (0 - z % 7)])) p = some (.lst (L.map V.int)) := by
        rw [upd_ne (ne_fresh hL2 nu)]
        exact hL2
      have hc3 : (upd H2 u (.lst [V.int z, .int (0 - z), .int (z % 9), .int 1, .int (0 - z % 7)])) c = some (.lst (ns.map V.int)) := by
        rw [upd_ne (ne_fresh hc2 nu)]
        exact hc2
      refine ⟨_, .inl (.inl hL3), ?_⟩
      rw [hsp]
      refine ⟨_, at_int (by omega), _, rfl, _, rfl, _, hL3, _, ix_int (by omega), _, _, _, _, _, ⟨rfl, rfl, rfl, rfl, rfl⟩, ex_mut e3 nSp, ?_, L.set sp (L.getD sp 0 + y), ?_, ?_, fun x hx => ?_⟩
      · rw [upd_ne ncp]
        exact hc3
      · rw [upd_same, set_int]
      · rw [List.length_set, lL]
      · have key : ∀ (u B : Nat), u ≤ k * B → u ≤ (k + 1) * B := fun u B h => Nat.le_trans h (Nat.mul_le_mul_right _ (Nat.le_succ k))
        rcases List.mem_or_eq_of_mem_set hx with hx | hx
        · exact key _ _ (bL x hx)
        · have h4 : (L.getD sp 0).natAbs ≤ k * 10 ^ 60 := by
            rw [List.getD_eq_getElem?_getD, List.getElem?_eq_getElem (show sp < L.length by omega)]
            exact bL _ (List.getElem_mem _)
          rw [hx, Nat.succ_mul]
          exact Nat.le_trans (Int.natAbs_add_le _ _) (Nat.add_le_add h4 hyb)
    · obtain ⟨z4, z5, z6, z7, z8, rfl, e1, hc, L, hL, lL, bL⟩ := hP
      walk_at "rd"
      refine q L lL (fun x hx => ?_) p H' nSp e1 hL
      have h1 := bL x hx
      rw [List.length_map] at h1
      have h2 : ns.length * 10 ^ 60 ≤ 63 * 10 ^ 60 := Nat.mul_le_mul_right _ hz
      have h3 : 63 * 10 ^ 60 < 2 ^ 212 := by decide
      omega

def sp_law_bits (K : PySem.W.Frag) : Sp := fun vs H Q _ => ∃ m : Nat, vs = [.int m] ∧ m < 1024 ∧ RetL ((bitsM m).map V.int) H Q
theorem ok_law_bits (T : Txt K mg)  : Has P w K mg base 1 "_law_bits" ["_law_one"] (sp_law_bits K) := by
  refine DefAt.has T.d_law_bits sc_law_bits (fun vs H Q E h => ?_) (fun f cdv A outer s H vs Q E hr h => ⟨_, (pss_cons (ps_set (i := 1) sc_law_bits.nd rfl (Or.inl rfl) (pe_lst pa_nil))
      (pss_cons (ps_set (i := 2) sc_law_bits.nd rfl (Or.inl rfl) pe_int)
      (pss_cons (ps_while (passes_of rfl) (pt_cmpR op_gt (pv 0) pe_int (nomark _))
      (pss_cons (ps_if (pt_cmpR op_eq (pe_op op_mod (pv 0) pe_int) pe_int (nomark _))
      (pss_one (ps_expr (k_bm K PySem.F.plainAttrs_list PySem.F.slot_list_append PySem.F.type_list_append mt_append (pv 1) (pa_cons (pv 2) pa_nil)))) pss_nil)
      (pss_cons (ps_set (i := 0) sc_law_bits.nd rfl (Or.inl rfl) (pe_op op_fdiv (pv 0) pe_int))
      (pss_one (ps_set (i := 2) sc_law_bits.nd rfl (Or.inl rfl) (pe_op op_add (pv 2) pe_int))))))
      (pss_one (ps_ret (pv 1)))))), ?_⟩)
  · obtain ⟨m, rfl, _⟩ := h
    rfl
  · obtain ⟨m, rfl, hm, q⟩ := h
    simp only [L2.start, N_law_bits, List.map_cons, List.map_nil, List.length_cons, List.length_nil, List.replicate_succ, List.replicate_zero, Nat.reduceAdd, Nat.reduceSub, List.cons_append, List.nil_append]
    walk_at "rd"
    refine ⟨by decide, fun p np => ?_⟩
    refine s_while (fun k σ H' => ∃ n, k = 11 - n ∧ n ≤ 10 ∧ σ = [some (.int ((m / 2 ^ n : Nat) : Int)), some (.ref p), some (.int (n : Nat))] ∧ Ex H H' ∧ H' p = some (.lst ((((List.range n).filter fun i => m.testBit i).map fun i : Nat => (i : Int)).map V.int))) 11
      ⟨0, rfl, by decide, by rw [Nat.pow_zero, Nat.div_one] <;> rfl, Ex.new np, upd_same⟩ (fun k σ' H' hW => ?_)
    obtain ⟨n, rfl, hn, rfl, e1, h1⟩ := hW
    refine ⟨decide (0 < m / 2 ^ n), fun H1 e2 Q1 q1 => ?_, fun hb H2 e2 => ?_, fun hb H2 e2 => ?_⟩
    · walk_at "rd"
      have e : decide ((0 : Int) < ((m / 2 ^ n : Nat) : Int)) = decide (0 < m / 2 ^ n) := by
        by_cases h : 0 < m / 2 ^ n
        · rw [decide_eq_true h, decide_eq_true (by omega)]
        · rw [decide_eq_false h, decide_eq_false (by omega)]
      rw [e]
      exact q1 _ (Ex.refl _)
    · have hpos : 0 < m / 2 ^ n := of_decide_eq_true hb
      have hn9 : n ≤ 9 := by
        refine Nat.le_of_not_lt fun h => ?_
        have : n = 10 := by omega
        subst this
        rw [Nat.div_eq_of_lt (by omega)] at hpos
        omega
      have hdiv : m / 2 ^ n / 2 = m / 2 ^ (n + 1) := by rw [Nat.div_div_eq_div_mul, Nat.pow_succ]
      refine ⟨fun σ2 H3 => σ2 = [some (.int ((m / 2 ^ (n + 1) : Nat) : Int)), some (.ref p), some (.int ((n + 1 : Nat) : Int))] ∧ Ex H H3 ∧ H3 p = some (.lst ((((List.range (n + 1)).filter fun i => m.testBit i).map fun i : Nat => (i : Int)).map V.int)), fun σ2 H3 hN => ?_, ?_⟩
      · obtain ⟨rfl, a, b⟩ := hN
        exact ⟨11 - (n + 1), by omega, n + 1, rfl, by omega, rfl, a, b⟩
      · walk_at "rd"
        have hq := e2 p _ h1
        refine ⟨by decide, rfl, ite2 (fun hc => ?_) (fun hc => ?_)⟩
        · have hc' : m / 2 ^ n % 2 = 1 := by omega
          refine ⟨ty_lst (.inl (.inl hq)), ?_⟩
          refine ⟨_, hq, ?_, ⟨by decide, by decide⟩, ⟨by omega, by omega⟩, ex_mut (e1.trans e2) np, ?_⟩
          · rw [List.length_map, List.length_map]
            have h9 := List.length_filter_le (fun i => m.testBit i) (List.range n)
            rw [List.length_range] at h9
            exact sz_lt (by omega)
          · rw [upd_same, bits_step, if_pos hc', List.map_append, List.map_append]
            rfl
        · have hc' : ¬ m / 2 ^ n % 2 = 1 := fun z => hc (by omega)
          refine ⟨⟨by decide, by decide⟩, ⟨by omega, by omega⟩, e1.trans e2, ?_⟩
          rw [bits_step, if_neg hc', List.append_nil]
          exact hq
    · have hz : m / 2 ^ n = 0 := by
        have := of_decide_eq_false hb
        exact Nat.eq_zero_of_not_pos this
      walk_at "rd"
      have hq := e2 p _ h1
      rw [bits_below hn hz] at hq
      exact q p H2 np (e1.trans e2) hq

def sp_law_is_table (K : PySem.W.Frag) : Sp := fun vs H Q _ => ∃ (a b : Addr) (ns ms : List Int), vs = [.ref a, .ref b] ∧ SqL K H a (ns.map V.int) ∧ SqL K H b (ms.map V.int) ∧ ns.length ≤ 40000 ∧ RetV (.bl (decide (ns = ms))) H Q
theorem ok_law_is_table (T : Txt K mg)  : Has P w K mg base 1 "_law_is_table" ["_law_found", "_law_due_here"] (sp_law_is_table K) := by
  refine DefAt.has T.d_law_is_table sc_law_is_table (fun vs H Q E h => ?_) (fun f cdv A outer s H vs Q E hr h => ⟨_, (pss_cons (ps_if (PW.pt (pw_or (pt_not (pt_val (pe_callB (id := "isinstance") (k_isK K) (by rfl) T.n_isinstance (by decide +kernel) (pa_cons (pv 0) (pa_cons (pe_ty "list" (by rfl) T.n_list (by decide +kernel)) pa_nil))))) (pw_or1 (pt_cmpR (k_neD K hr.units) (pv 0) (pv 1) (nomark _)))))
      (pss_one (ps_ret pe_bl)) pss_nil)
      (pss_one (ps_ret (pe_callB (id := "all") (k_all K rfl) (by rfl) T.n_all (by decide +kernel) (pa_cons (pe_lc (own := [("_law_number", 2)]) (g := gName 2) rfl sc_law_is_table.nd (k_pil K (pv 0)) (blkOk_by (own := [("_law_number", 2)]) (N := N_law_is_table) (sc := defScope s_law_is_table) (by decide +kernel)) (fun _ _ _ _ _ => (pg_name (i := 2) sc_law_is_table.nd rfl (Or.inl rfl))) (fun _ _ _ _ _ => pts_nil) (fun _ _ _ _ _ => (pe_and (pe_callB (id := "isinstance") (k_isK K) (by rfl) T.n_isinstance (by decide +kernel) (pa_cons (pv 2) (pa_cons (pe_ty "int" (by rfl) T.n_int (by decide +kernel)) pa_nil))) (pe_one (pe_not (pe_callB (id := "isinstance") (k_isK K) (by rfl) T.n_isinstance (by decide +kernel) (pa_cons (pv 2) (pa_cons (pe_ty "bool" (by rfl) T.n_bool (by decide +kernel)) pa_nil)))))))) pa_nil))))), ?_⟩)
  · obtain ⟨a, b, ns, ms, rfl, _⟩ := h
    rfl
  · obtain ⟨a, b, ns, ms, rfl, hA, hB, hz, q⟩ := h
    simp only [L2.start, N_law_is_table, List.map_cons, List.map_nil, List.length_cons, List.length_nil, List.replicate_succ, List.replicate_zero, Nat.reduceAdd, Nat.reduceSub, List.cons_append, List.nil_append]
    walk_at "rl"
    refine ⟨.lst, .lst hA, ?_⟩
    refine iteF (ne_ints hA hB ⟨_, rfl, ?_⟩)
    by_cases h : ns = ms
    · rw [decide_eq_true h]
      rw [decide_eq_true h] at q
      refine iteF ⟨⟨_, hA⟩, ?_⟩
      refine wl_ints (K := K) ns (fun _ => true) (fun _ => .bl true) hA hz (fun _ => rfl) (fun _ _ _ _ => yes_ev) (fun n _ H1 e1 _ H2 e2 Q2 q2 => ?_) (fun p H2 np e2 h2 => ?_)
      · walk_at "rd"
        exact ⟨.int, .int n, .int, .int n, q2 _ (Ex.refl _)⟩
      · have eb : ((ns.filter fun _ => true).map fun _ => V.bl true) = (ns.map fun _ => true).map V.bl := by
          rw [List.filter_eq_self.mpr (fun _ _ => rfl), List.map_map]
          rfl
        rw [eb] at h2
        refine ⟨p, rfl, _, .inl (.inl h2), ?_⟩
        have ea : (ns.map fun _ => true).all id = true := by simp
        rw [ea]
        exact q H2 e2
    · rw [decide_eq_false h]
      rw [decide_eq_false h] at q
      exact q H (Ex.refl H)

def sp_law_due (K : PySem.W.Frag) : Sp := fun vs H Q _ => ∃ (a : Addr) (t : List Int) (way : Nat), vs = [.ref a, .int (way : Nat)] ∧ SqL K H a (t.map V.int) ∧ t.length ≤ 1024 ∧ RetL ((dueM way t).map V.int) H Q
theorem ok_law_due (T : Txt K mg) (h_law_bits : Has P w K mg base 1 "_law_bits" ["_law_one"] (sp_law_bits K)) : Has P w K mg base 2 "_law_due" ["_law_table_here", "_law_way"] (sp_law_due K) := by
  refine DefAt.has T.d_law_due sc_law_due (fun vs H Q E h => ?_) (fun f cdv A outer s H vs Q E hr h => ⟨_, (pss_cons (ps_set (i := 2) sc_law_due.nd rfl (Or.inr rfl) (pe_lc (own := [("_law_one", 3)]) (g := gName 3) rfl sc_law_due.nd (pi_range1 rfl T.n_range (pa_cons (pe_callB (id := "len") (k_len K) (by rfl) T.n_len (by decide +kernel) (pa_cons (pv 0) pa_nil)) pa_nil)) (blkOk_by (own := [("_law_one", 3)]) (N := N_law_due) (sc := defScope s_law_due) (by decide +kernel)) (fun _ _ _ _ _ => (pg_name (i := 3) sc_law_due.nd rfl (Or.inl rfl))) (fun _ _ _ _ _ => pts_nil) (fun _ _ _ _ _ => (pe_has h_law_bits (hr.mono (by decide)) rfl passL (pa_cons (pv 3) pa_nil)))))
      (pss_cons (ps_set (i := 4) sc_law_due.nd rfl (Or.inl rfl) (pe_lst pa_nil))
      (pss_cons (ps_for (passes_of rfl) rfl (k_pil K (pv 2)) (pg_name (i := 5) sc_law_due.nd rfl (Or.inl rfl))
      (pss_cons (ps_set (i := 6) sc_law_due.nd rfl (Or.inl rfl) pe_int)
      (pss_cons (ps_for (g := gTup K 2 (gCons (gName 7) (gCons (gName 8) gNil))) (passes_of rfl) rfl (k_enum K (by rfl) T.n_enumerate (pa_cons (pv 0) pa_nil)) (k_pgt K rfl (pgs_cons (pg_name (i := 7) sc_law_due.nd rfl (Or.inr rfl)) (pgs_cons (pg_name (i := 8) sc_law_due.nd rfl (Or.inl rfl)) pgs_nil)))
      (pss_cons (ps_set (i := 9) sc_law_due.nd rfl (Or.inl rfl) (pe_callB (id := "len") (k_len K) (by rfl) T.n_len (by decide +kernel) (pa_cons (pe_lc (own := [("_law_name", 10)]) (g := gName 10) rfl sc_law_due.nd (k_pil K (pv 5)) (blkOk_by (own := [("_law_name", 10)]) (N := N_law_due) (sc := defScope s_law_due) (by decide +kernel)) (fun _ _ _ _ _ => (pg_name (i := 10) sc_law_due.nd rfl (Or.inl rfl))) (fun _ _ _ _ _ => (pts_one (pt_cmpR (k_in K) (pv 10) (pe_ix (k_ixl K) (pv 2) (pv 7) (fun _ _ => rfl)) (by rfl)))) (fun _ _ _ _ _ => (pv 10))) pa_nil)))
      (pss_one (ps_if (pt_cmpR op_eq (pv 1) pe_int (nomark _))
      (pss_one (ps_set (i := 6) sc_law_due.nd rfl (Or.inl rfl) (pe_op op_add (pv 6) (pe_op op_mu (pv 8) (pe_callTy (T := "int") call_int1 (by rfl) T.n_int (by decide +kernel) (pa_cons (pe_cmpR op_eq (pv 9) (pe_callB (id := "len") (k_len K) (by rfl) T.n_len (by decide +kernel) (pa_cons (pe_ix (k_ixl K) (pv 2) (pv 7) (fun _ _ => rfl)) pa_nil)) (nomark _)) pa_nil)))))) (pss_one (ps_if (pt_cmpR op_eq (pv 1) pe_int (nomark _))
      (pss_one (ps_set (i := 6) sc_law_due.nd rfl (Or.inl rfl) (pe_op op_add (pv 6) (pe_op op_mu (pv 8) (pe_callTy (T := "int") call_int1 (by rfl) T.n_int (by decide +kernel) (pa_cons (pe_cmpR op_eq (pv 9) (pe_callB (id := "len") (k_len K) (by rfl) T.n_len (by decide +kernel) (pa_cons (pv 5) pa_nil)) (nomark _)) pa_nil)))))) (pss_one (ps_set (i := 6) sc_law_due.nd rfl (Or.inl rfl) (pe_op op_add (pv 6) (pe_op op_mu (pv 8) (pe_op op_sub pe_int (pe_op op_mu pe_int (pe_op op_mod (pv 9) pe_int)))))))))))))
      (pss_one (ps_expr (k_bm K PySem.F.plainAttrs_list PySem.F.slot_list_append PySem.F.type_list_append mt_append (pv 4) (pa_cons (pv 6) pa_nil)))))))
      (pss_one (ps_ret (pv 4)))))), ?_⟩)
  · obtain ⟨a, t, way, rfl, _⟩ := h
    rfl
  · obtain ⟨a, t, way, rfl, hA, hz, q⟩ := h
    simp only [L2.start, N_law_due, List.map_cons, List.map_nil, List.length_cons, List.length_nil, List.replicate_succ, List.replicate_zero, Nat.reduceAdd, Nat.reduceSub, List.cons_append, List.nil_append]
    walk_at "rl"
    refine ⟨_, .inl hA, by rw [List.length_map]; omega, by rw [List.length_map]; omega, ?_⟩
    rw [List.length_map]
    refine wl_rowsR (K := K) (n := t.length) (fun s => bitsM s) (by omega) (fun _ => rfl) (fun k H1 hk e1 H2 e2 Q2 q2 => ?_) (fun r xs S nr eS hr hR => ?_)
    · walk_at "rd"
      exact ⟨k, rfl, by omega, fun p H3 np e3 h3 => q2 p H3 np e3 h3⟩
    · have hxl : xs.length = t.length := by rw [hR.len, List.length_map, List.length_range]
      have hAS := ex_l eS hA
      refine ⟨by decide, fun p np => ⟨r, rfl, ⟨_, .inl (.inl (Ex.new np r _ hr))⟩, ?_⟩⟩
      have hrow : ∀ k, k < t.length → ∃ b, xs[k]? = some (.ref b) ∧ SqL K S b ((bitsM k).map V.int) := fun k hk =>
        hR.get (by rw [List.getElem?_map, List.getElem?_range hk] <;> rfl)
      refine w_list xs (fun i σ H' => ∃ z5 z6 z7 z8 z9, σ = [some (.ref a), some (.int way), some (.ref r), none, some (.ref p), z5, z6, z7, z8, z9, none] ∧ Ex S H' ∧ H' p = some (.lst (((List.range i).map fun s => totM way t s t.length).map V.int)))
        ⟨_, _, _, _, _, rfl, Ex.new np, upd_same⟩ (fun i σ H' _ hP => ?_) (fun i x σ H' hx hP => ?_) (fun σ H' hP => ?_)
      · obtain ⟨_, _, _, _, _, _, e1, _⟩ := hP
        exact ex_l e1 (.inl (.inl hr))
      · obtain ⟨z5, z6, z7, z8, z9, rfl, e1, h1⟩ := hP
        have hi : i < t.length := by rw [← hxl]; exact (List.getElem?_eq_some_iff.mp hx).1
        obtain ⟨b, hb, hbS⟩ := hrow i hi
        cases hb.symm.trans hx
        walk_at "rl"
        refine ⟨_, ex_l (eS.trans e1) hA, ?_⟩
        refine w_enum (t.map V.int) (fun j σ H'' => ∃ z7 z8 z9, σ = [some (.ref a), some (.int way), some (.ref r), none, some (.ref p), some (.ref b), some (.int (totM way t i j)), z7, z8, z9, none] ∧ Ex S H'' ∧ H'' p = some (.lst (((List.range i).map fun s => totM way t s t.length).map V.int)))
          ⟨_, _, _, rfl, e1, h1⟩ (fun j σ H'' hP => ?_) (fun j x T σ H'' hx nT hP => ?_) (fun σ H'' hP => ?_)
        · obtain ⟨_, _, _, _, e2, _⟩ := hP
          exact ex_l e2 hAS
        · obtain ⟨z7, z8, z9, rfl, e2, h2⟩ := hP
          obtain ⟨m, hm, rfl⟩ := get_ints hx
          have hj : j < t.length := (List.getElem?_eq_some_iff.mp hm).1
          have eT := Ex.new (o := HO.tup [.int (j : Nat), .int m]) nT
          have e3 := e2.trans eT
          have h3 := eT p _ h2
          generalize upd H'' T (.tup [.int (j : Nat), .int m]) = H3 at eT e3 h3
          obtain ⟨c, hc, hcS⟩ := hrow j hj
          walk_at "rl"
          refine ⟨⟨_, ex_l e3 hbS⟩, ?_⟩
          refine wl_ints (K := K) (bitsM i) (fun n => decide (n ∈ bitsM j)) (fun n => .int n) (ex_l e3 hbS) (by have := bitsM_len i; omega) (fun _ => rfl) (fun n _ H4 e4 H5 e5 Q5 q5 => ?_) (fun n _ H4 e4 _ H5 e5 Q5 q5 => ?_) (fun u H4 nu e4 h4 => ?_)
          · walk_at "rd"
            refine ⟨_, ex_l ((e3.trans e4).trans e5) (.inl (.inl hr)), _, atI_nat hc, ?_⟩
            exact in_ints (ex_l ((e3.trans e4).trans e5) hcS) ⟨_, rfl, q5 _ (Ex.refl _)⟩
          · walk_at "rd"
            exact q5 _ (Ex.refl _)
          · have hlen : ((((bitsM i).filter fun n => decide (n ∈ bitsM j)).map V.int)).length = bothM i j := by rw [List.length_map] <;> rfl
            have hmj : m = t.getD j 0 := by rw [List.getD_eq_getElem?_getD, hm] <;> rfl
            have htot : totM way t i (j + 1) = totM way t i j + m * weiM way i j := by
              unfold totM
              rw [foldl_range_succ, hmj]
            have eS4 := e3.trans e4
            have fin : Ex S H4 ∧ H4 p = some (.lst (((List.range i).map fun s => totM way t s t.length).map V.int)) := ⟨eS4, e4 p _ h3⟩
            rw [htot]
            refine ⟨u, rfl, _, .inl (.inl (.inl h4)), rfl, ite2 (fun h0 => ?_) (fun h0 => ?_)⟩
            · refine ⟨_, ex_l eS4 (.inl (.inl hr)), _, atI_nat hc, c, rfl, _, .inl (ex_l eS4 hcS), rfl, ?_⟩
              rw [hlen, List.length_map]
              have hw : weiM way i j = if (bothM i j : Int) = ((bitsM j).length : Int) then 1 else 0 := by
                unfold weiM
                rw [if_pos (by omega)]
                by_cases h : bothM i j = (bitsM j).length
                · rw [if_pos h, if_pos (by omega)]
                · rw [if_neg h, if_neg (by omega)]
              rw [hw]
              refine ⟨cmu_r ?_, _, _, _, ⟨rfl, rfl, rfl, rfl⟩, fin⟩
              split <;> decide
            · refine ⟨rfl, ite2 (fun h1 => ?_) (fun h1 => ?_)⟩
              · refine ⟨_, .inl (ex_l eS4 hbS), rfl, ?_⟩
                rw [hlen, List.length_map]
                have hw : weiM way i j = if (bothM i j : Int) = ((bitsM i).length : Int) then 1 else 0 := by
                  unfold weiM
                  rw [if_neg (by omega), if_pos (by omega)]
                  by_cases h : bothM i j = (bitsM i).length
                  · rw [if_pos h, if_pos (by omega)]
                  · rw [if_neg h, if_neg (by omega)]
                rw [hw]
                refine ⟨cmu_r ?_, _, _, _, ⟨rfl, rfl, rfl, rfl⟩, fin⟩
                split <;> decide
              · rw [hlen]
                have hw : weiM way i j = 1 - 2 * ((bothM i j : Int) % 2) := by
                  unfold weiM
                  rw [if_neg (by omega), if_neg (by omega)]
                  omega
                rw [hw]
                exact ⟨by decide, cmu_l (by decide), cmu_r (by omega), _, _, _, ⟨rfl, rfl, rfl, rfl⟩, fin⟩
        · obtain ⟨z7, z8, z9, rfl, e2, h2⟩ := hP
          walk_at "rd"
          refine ⟨ty_lst (.inl (.inl h2)), _, h2, ?_, ?_⟩
          · rw [List.length_map, List.length_map, List.length_range]
            exact sz_lt (by omega)
          · refine ⟨_, _, _, _, _, ⟨rfl, rfl, rfl, rfl, rfl⟩, ex_mut e2 np, ?_⟩
            rw [upd_same, List.range_succ, List.map_append, List.map_append]
            rfl
      · obtain ⟨_, _, _, _, _, rfl, e1, h1⟩ := hP
        walk_at "rd"
        rw [hxl] at h1
        exact q p H' (fresh_back eS np) (eS.trans e1) h1

def sp_law (K : PySem.W.Frag) : Sp := fun vs H Q _ => ∃ (a : Addr) (ns : List Int), vs = [.ref a] ∧ SqL K H a (ns.map V.int) ∧ ns.length ≤ 63 ∧ ∀ H', Q (.bl true) H'
theorem ok_law (T : Txt K mg) (h_law_due : Has P w K mg base 2 "_law_due" ["_law_table_here", "_law_way"] (sp_law_due K)) (h_law_is_table : Has P w K mg base 1 "_law_is_table" ["_law_found", "_law_due_here"] (sp_law_is_table K)) (h_law_mixed : Has P w K mg base 2 "_law_mixed" ["_law_script", "_law_k"] (sp_law_mixed K)) (h_law_table : Has P w K mg base 1 "_law_table" ["_law_script", "_law_many", "_law_turn"] (sp_law_table K)) (h_above : Has P w K mg base 4 "above" ["table"] (sp_above K)) (h_below : Has P w K mg base 4 "below" ["table"] (sp_below K)) (h_signed : Has P w K mg base 3 "signed" ["table"] (sp_signed K)) {f : Addr} {fd : FuncData} (F : FunD K "law" "law" (defArgs s_law) (defBody s_law) (defScope s_law) [] [] f fd) : FnOk P w K mg base (L2.CX P w) 5 f fd ["_law_script"] (sp_law K) := by
  refine FunD.ok F sc_law (fun vs H Q E h => ?_) (fun cdv A outer s H vs Q E hr h => ⟨_, (pss_cons (ps_set (i := 1) sc_law.nd rfl (Or.inr rfl) (pe_has h_law_table (hr.mono (by decide)) rfl passB (pa_cons (pv 0) (pa_cons (pe_op op_mod (pe_has h_law_mixed (hr.mono (by decide)) rfl passB (pa_cons (pv 0) (pa_cons pe_int pa_nil))) pe_int) (pa_cons (pe_op op_mod (pe_has h_law_mixed (hr.mono (by decide)) rfl passB (pa_cons (pv 0) (pa_cons pe_int pa_nil))) pe_int) pa_nil)))))
      (pss_cons (ps_set (i := 2) sc_law.nd rfl (Or.inl rfl) (pe_callTy (T := "list") (k_list K) (by rfl) T.n_list (by decide +kernel) (pa_cons (pv 1) pa_nil)))
      (pss_cons (ps_setLc (i := 3) (own := [("_law_way", 4)]) (g := gName 4) rfl sc_law.nd rfl rfl (sw_true rfl rfl rfl (by decide +kernel)) (pi_range1 rfl T.n_range (pa_cons pe_int pa_nil)) (blkOk_by (own := [("_law_way", 4)]) (N := N_law) (sc := defScope s_law) (by decide +kernel)) (fun _ _ _ _ _ => (pg_name (i := 4) sc_law.nd rfl (Or.inl rfl))) (fun _ _ _ _ _ => pts_nil) (fun _ _ _ _ _ => (pe_has h_law_due (hr.mono (by decide)) rfl passL (pa_cons (pv 1) (pa_cons (pv 4) pa_nil)))))
      (pss_cons (ps_for (passes_of rfl) rfl (pi_range1 rfl T.n_range (pa_cons pe_int pa_nil)) (pg_name (i := 5) sc_law.nd rfl (Or.inl rfl))
      (pss_cons (ps_set (i := 6) sc_law.nd rfl (Or.inl rfl) (pe_lst (pa_cons (pe_has h_below (hr.mono (by decide)) rfl passB (pa_cons (pv 1) pa_nil)) (pa_cons (pe_has h_above (hr.mono (by decide)) rfl passB (pa_cons (pv 1) pa_nil)) (pa_cons (pe_has h_signed (hr.mono (by decide)) rfl passB (pa_cons (pv 1) pa_nil)) pa_nil)))))
      (pss_one (ps_for (passes_of rfl) rfl (pi_range1 rfl T.n_range (pa_cons pe_int pa_nil)) (pg_name (i := 4) sc_law.nd rfl (Or.inl rfl))
      (pss_cons (ps_if (PW.pt (pw_or (pt_not (pt_val (pe_has h_law_is_table (hr.mono (by decide)) rfl passB (pa_cons (pe_ix (k_ixl K) (pv 6) (pv 4) (fun _ _ => rfl)) (pa_cons (pe_ix (k_ixl K) (pv 3) (pv 4) (fun _ _ => rfl)) pa_nil))))) (pw_or1 (pt_cmpR (k_neD K hr.units) (pv 1) (pv 2) (nomark _)))))
      (pss_one (ps_ret pe_bl)) pss_nil)
      (pss_one (ps_expr (k_bm0 K PySem.F.plainAttrs_list PySem.F.slot_list_clear PySem.F.type_list_clear mt_clear (pe_ix (k_ixl K) (pv 6) (pv 4) (fun _ _ => rfl))))))))))
      (pss_one (ps_ret pe_bl)))))), ?_⟩)
  · obtain ⟨a, ns, rfl, _⟩ := h
    rfl
  · obtain ⟨a, ns, rfl, hA, hz, q⟩ := h
    simp only [L2.start, N_law, List.map_cons, List.map_nil, List.length_cons, List.length_nil, List.replicate_succ, List.replicate_zero, Nat.reduceAdd, Nat.reduceSub, List.cons_append, List.nil_append]
    walk_at "rl"
    obtain ⟨n, hn6, hn⟩ : ∃ n : Nat, mixedM ns 0 % 6 = (n : Int) ∧ n ≤ 5 := ⟨(mixedM ns 0 % 6).toNat, by have := mixedM_nn ns 0; omega, by omega⟩
    obtain ⟨tn, ht5, htn⟩ : ∃ n : Nat, mixedM ns 1 % 5 = (n : Int) ∧ n ≤ 5 := ⟨(mixedM ns 1 % 5).toNat, by have := mixedM_nn ns 1; omega, by omega⟩
    refine ⟨a, ns, 0, rfl, hA, by decide, fun H1 e1 => ⟨_, rfl, by decide, a, ns, 1, rfl, ex_l e1 hA, by decide, fun H2 e2 => ⟨_, rfl, by decide, ?_⟩⟩⟩
    rw [hn6, ht5]
    refine ⟨a, ns, n, tn, rfl, ex_l (e1.trans e2) hA, hz, by omega, by omega, fun t lt _ p H3 np e3 h3 => ?_⟩
    obtain ⟨mb, ma, ms⟩ := k03_math t lt hn
    have hp := pow_le (show n ≤ 10 by omega)
    have hT3 : SqL K H3 p (t.map V.int) := .inl (.inl h3)
    refine ⟨p, rfl, _, .inl hT3, fun c nc => ?_⟩
    have e4 := Ex.new (o := HO.lst (t.map V.int)) nc
    generalize hH4 : upd H3 c (.lst (t.map V.int)) = H4 at e4
    have hc4 : SqL K H4 c (t.map V.int) := by rw [← hH4]; exact .inl (.inl upd_same)
    have hT4 := ex_l e4 hT3
    refine ⟨by decide, by decide, wl_rowsR (K := K) (n := 3) (fun s => dueM s t) (by decide) (fun _ => rfl) (fun k H5 hk e5 H6 e6 Q6 q6 => ?_) (fun r xs S nr eS hr hR => ?_)⟩
    · walk_at "rd"
      exact ⟨p, t, k, rfl, ex_l (e5.trans e6) hT4, by omega, fun u H7 nu e7 h7 => q6 u H7 nu e7 h7⟩
    have hTS := ex_l eS hT4
    have hcS := ex_l eS hc4
    have hrow : ∀ k, k < 3 → ∃ b, xs[k]? = some (.ref b) ∧ SqL K S b ((dueM k t).map V.int) := fun k hk =>
      hR.get (by rw [List.getElem?_map, List.getElem?_range hk] <;> rfl)
    refine ⟨by decide, by decide, w_rng0 (n := 2) (fun i σ H' => ∃ z4 z5 z6, σ = [some (.ref a), some (.ref p), some (.ref c), some (.ref r), z4, z5, z6] ∧ Ex S H')
      ⟨_, _, _, rfl, Ex.refl S⟩ (fun i σ H' hi hP => ?_) (fun σ H' hP => ?_)⟩
    · obtain ⟨z4, z5, z6, rfl, e5⟩ := hP
      walk_at "rl"
      have tab : ∀ H6, Ex S H6 → IsTab K H6 (.ref p) n t := fun H6 e6 => ⟨p, rfl, ex_l e6 hTS, by omega, lt⟩
      refine ⟨_, rfl, .inl ⟨n, t, tab _ e5, fun b0 H6 n0 e6 h6 => ⟨_, rfl, .inl ⟨n, t, tab _ (e5.trans e6), fun b1 H7 n1 e7 h7 => ⟨_, rfl, .inl ⟨n, t, tab _ ((e5.trans e6).trans e7), fun b2 H8 n2 e8 h8 => ⟨sz_of (by show 3 ≤ 100000; decide), fun f nf => ⟨by decide, by decide, ?_⟩⟩⟩⟩⟩⟩⟩⟩
      rw [mb] at h6
      rw [ma] at h7
      rw [ms] at h8
      have E8 : Ex S H8 := ((e5.trans e6).trans e7).trans e8
      have g0 := (e7.trans e8) _ _ h6
      have g1 := e8 _ _ h7
      have f10 : b1 ≠ b0 := fun z => by rw [z, h6] at n1; cases n1
      have f20 : b2 ≠ b0 := fun z => by rw [z, e7 _ _ h6] at n2; cases n2
      have f21 : b2 ≠ b1 := fun z => by rw [z, h7] at n2; cases n2
      have ff0 : b0 ≠ f := ne_fresh g0 nf
      have ff1 : b1 ≠ f := ne_fresh g1 nf
      have ff2 : b2 ≠ f := ne_fresh h8 nf
      have S0 : S b0 = none := fresh_back e5 n0
      have S1 : S b1 = none := fresh_back (e5.trans e6) n1
      have S2 : S b2 = none := fresh_back ((e5.trans e6).trans e7) n2
      have Sf : S f = none := fresh_back E8 nf
      have bs : ∀ k, k < 3 → ∃ b, [V.ref b0, .ref b1, .ref b2][k]? = some (.ref b) ∧ S b = none ∧ b ≠ f ∧ ∀ j b', j ≠ k → [V.ref b0, .ref b1, .ref b2][j]? = some (.ref b') → b' ≠ b := fun k hk => by
        match k, hk with
        | 0, _ =>
          refine ⟨b0, rfl, S0, ff0, fun j b' hj e => ?_⟩
          match j, hj, e with
          | 1, _, e => cases e; exact f10
          | 2, _, e => cases e; exact f20
          | j + 3, _, e => simp at e
        | 1, _ =>
          refine ⟨b1, rfl, S1, ff1, fun j b' hj e => ?_⟩
          match j, hj, e with
          | 0, _, e => cases e; exact Ne.symm f10
          | 2, _, e => cases e; exact f21
          | j + 3, _, e => simp at e
        | 2, _ =>
          refine ⟨b2, rfl, S2, ff2, fun j b' hj e => ?_⟩
          match j, hj, e with
          | 0, _, e => cases e; exact Ne.symm f20
          | 1, _, e => cases e; exact Ne.symm f21
          | j + 3, _, e => simp at e
      refine w_rng0 (n := 3) (fun w σ H' => ∃ z4, σ = [some (.ref a), some (.ref p), some (.ref c), some (.ref r), z4, some (.int (i : Nat)), some (.ref f)] ∧ Ex S H' ∧ H' f = some (.lst [.ref b0, .ref b1, .ref b2]) ∧ ∀ k b, w ≤ k → [V.ref b0, .ref b1, .ref b2][k]? = some (.ref b) → H' b = some (.lst ((dueM k t).map V.int)))
        ⟨_, rfl, E8.trans (Ex.new nf), upd_same, fun k b _ hb => ?_⟩ (fun w σ H' hw hP => ?_) (fun σ H' hP => ?_)
      · have hk : k < 3 := (List.getElem?_eq_some_iff.mp hb).1
        match k, hk, hb with
        | 0, _, hb => cases hb; rw [upd_ne ff0]; exact g0
        | 1, _, hb => cases hb; rw [upd_ne ff1]; exact g1
        | 2, _, hb => cases hb; rw [upd_ne ff2]; exact h8
      · obtain ⟨z4, rfl, e9, hf, hb⟩ := hP
        obtain ⟨b, hb1, hSb, hbf, hbo⟩ := bs w hw
        obtain ⟨d, hd, hdS⟩ := hrow w hw
        have hbb := hb w b (Nat.le_refl w) hb1
        walk_at "rd"
        have lend : (dueM w t).length ≤ 40000 := by
          unfold dueM
          rw [List.length_map, List.length_range]
          omega
        refine ⟨_, .inl (.inl hf), _, atI_nat hb1, _, ex_l e9 (.inl (.inl hr)), _, atI_nat hd, b, d, dueM w t, dueM w t, rfl, .inl (.inl hbb), ex_l e9 hdS, lend, fun H9 e10 => ?_⟩
        have e11 := e9.trans e10
        rw [decide_eq_true rfl]
        refine ⟨true, rfl, ?_⟩
        refine iteF (ne_ints (ex_l e11 hTS) (ex_l e11 hcS) ?_)
        rw [decide_eq_true rfl]
        refine ⟨false, rfl, iteF ?_⟩
        refine ⟨_, .inl (.inl (e10 _ _ hf)), _, atI_nat hb1, ty_lst (.inl (.inl (e10 _ _ hbb))), b, rfl, _, e10 _ _ hbb, ?_⟩
        refine ⟨ex_mut e11 hSb, ?_, fun k b' hk hb' => ?_⟩
        · rw [upd_ne (Ne.symm hbf)]
          exact e10 _ _ hf
        · rw [upd_ne (hbo k b' (by omega) hb')]
          exact e10 _ _ (hb k b' (by omega) hb')
      · obtain ⟨z4, rfl, e9, _⟩ := hP
        exact ⟨_, _, _, rfl, e9⟩
    · obtain ⟨z4, z5, z6, rfl, e5⟩ := hP
      walk_at "rd"
      exact q H'

end
def dd_is_whole : He.DefD := ⟨("is_whole", none), "is_whole", "is_whole", defArgs s_is_whole, defBody s_is_whole, defScope s_is_whole, [], []⟩
def dd_names_of : He.DefD := ⟨("names_of", none), "names_of", "names_of", defArgs s_names_of, defBody s_names_of, defScope s_names_of, [], []⟩
def dd_spread : He.DefD := ⟨("spread", none), "spread", "spread", defArgs s_spread, defBody s_spread, defScope s_spread, [], []⟩
def dd_below : He.DefD := ⟨("below", none), "below", "below", defArgs s_below, defBody s_below, defScope s_below, [], []⟩
def dd_above : He.DefD := ⟨("above", none), "above", "above", defArgs s_above, defBody s_above, defScope s_above, [], []⟩
def dd_signed : He.DefD := ⟨("signed", none), "signed", "signed", defArgs s_signed, defBody s_signed, defScope s_signed, [], []⟩
def dd_law_cell : He.DefD := ⟨("_law_cell", none), "_law_cell", "_law_cell", defArgs s_law_cell, defBody s_law_cell, defScope s_law_cell, [], []⟩
def dd_law_mixed : He.DefD := ⟨("_law_mixed", none), "_law_mixed", "_law_mixed", defArgs s_law_mixed, defBody s_law_mixed, defScope s_law_mixed, [], []⟩
def dd_law_table : He.DefD := ⟨("_law_table", none), "_law_table", "_law_table", defArgs s_law_table, defBody s_law_table, defScope s_law_table, [], []⟩
def dd_law_bits : He.DefD := ⟨("_law_bits", none), "_law_bits", "_law_bits", defArgs s_law_bits, defBody s_law_bits, defScope s_law_bits, [], []⟩
def dd_law_is_table : He.DefD := ⟨("_law_is_table", none), "_law_is_table", "_law_is_table", defArgs s_law_is_table, defBody s_law_is_table, defScope s_law_is_table, [], []⟩
def dd_law_due : He.DefD := ⟨("_law_due", none), "_law_due", "_law_due", defArgs s_law_due, defBody s_law_due, defScope s_law_due, [], []⟩
def dd_law : He.DefD := ⟨("law", none), "law", "law", defArgs s_law, defBody s_law, defScope s_law, [], []⟩
def fnL : List He.DefD := [dd_is_whole, dd_names_of, dd_spread, dd_below, dd_above, dd_signed, dd_law_cell, dd_law_mixed, dd_law_table, dd_law_bits, dd_law_is_table, dd_law_due, dd_law]
def faL : List He.Fa := [.glo "is_whole", .glo "names_of", .glo "spread", .glo "below", .glo "above", .glo "signed", .glo "_law_cell", .glo "_law_mixed", .glo "_law_table", .glo "_law_bits", .glo "_law_is_table", .glo "_law_due", .glo "law", .free "all", .free "bool", .free "enumerate", .free "int", .free "isinstance", .free "len", .free "list", .free "max", .free "range", .int "MOST_NAMES" 10, .glo "SetError", .exc "SetError", .glo "BadTable", .exc "BadTable"]
abbrev RR : PySem.W.OpenRow := PySem.W.OpenLaw.row PySem.Challenge.rw_setsums_k03_sums_set_by_set
abbrev hkL : PySem.W.Hook := He.hookD 5 faL fnL
def obL (s : PySem.W.SharedT) : He.AlD := He.obsDG 5 faL fnL (HandSHeadRun.getT s)
theorem obL_eq (s : PySem.W.SharedT) : obL s = hkL.obs s.abs := He.obsDG_eq (HandSHeadRun.getT_eq s)
def looseL : List Str := (["SetError", "BadTable", "is_whole", "names_of", "spread", "below", "above", "signed", "_law_cell", "_law_mixed", "_law_table", "_law_bits", "_law_is_table", "_law_due", "MOST_NAMES"] : List Str)
theorem runL (w : World) : HandSHeadRun.RunEq RR (PySem.W.view RR.prog [20]) hkL obL 6000 looseL w := by
  intro os
  kernel_rfl
theorem txt_mk {K : PySem.W.Frag} {h : Heap} {mg : Str → Option Value} (X : K.In h) (G : h.Ns mainGlobals mg) (c : He.SaysD faL fnL K) : Txt K mg where
  n_all := He.free_ok X G (c.fact 13 (f := .free "all") rfl)
  n_bool := He.free_ok X G (c.fact 14 (f := .free "bool") rfl)
  n_enumerate := He.free_ok X G (c.fact 15 (f := .free "enumerate") rfl)
  n_int := He.free_ok X G (c.fact 16 (f := .free "int") rfl)
  n_isinstance := He.free_ok X G (c.fact 17 (f := .free "isinstance") rfl)
  n_len := He.free_ok X G (c.fact 18 (f := .free "len") rfl)
  n_list := He.free_ok X G (c.fact 19 (f := .free "list") rfl)
  n_max := He.free_ok X G (c.fact 20 (f := .free "max") rfl)
  n_range := He.free_ok X G (c.fact 21 (f := .free "range") rfl)
  k_MOST_NAMES := He.int_ok X G (c.fact 22 (f := .int "MOST_NAMES" 10) rfl)
  c_SetError := by
    obtain ⟨h1, h2, h3, h4⟩ := He.exc_ok (c.fact 24 (f := .exc "SetError") rfl)
    exact ⟨He.glo_ok X G (c.fact 23 (f := .glo "SetError") rfl), h1, h2, h3, h4⟩
  c_BadTable := by
    obtain ⟨h1, h2, h3, h4⟩ := He.exc_ok (c.fact 26 (f := .exc "BadTable") rfl)
    exact ⟨He.glo_ok X G (c.fact 25 (f := .glo "BadTable") rfl), h1, h2, h3, h4⟩
  d_is_whole := by
    obtain ⟨fd, F⟩ := c.def_ 0 (d := dd_is_whole) rfl
    exact ⟨_, fd, F, He.glo_ok X G (c.fact 0 (f := .glo "is_whole") rfl), FunD.bindsN (ps := ["thing"]) F fun _ _ _ _ _ _ us hl => match us, hl with | [_], _ => rfl, FunD.bindsA (ps := ["thing"]) F fun _ _ _ _ _ _ us hl => match us, hl with | [_], _ => rfl⟩
  d_names_of := by
    obtain ⟨fd, F⟩ := c.def_ 1 (d := dd_names_of) rfl
    exact ⟨_, fd, F, He.glo_ok X G (c.fact 1 (f := .glo "names_of") rfl), FunD.bindsN (ps := ["table"]) F fun _ _ _ _ _ _ us hl => match us, hl with | [_], _ => rfl, FunD.bindsA (ps := ["table"]) F fun _ _ _ _ _ _ us hl => match us, hl with | [_], _ => rfl⟩
  d_spread := by
    obtain ⟨fd, F⟩ := c.def_ 2 (d := dd_spread) rfl
    exact ⟨_, fd, F, He.glo_ok X G (c.fact 2 (f := .glo "spread") rfl), FunD.bindsN (ps := ["table", "by", "is_up"]) F fun _ _ _ _ _ _ us hl => match us, hl with | [_, _, _], _ => rfl, FunD.bindsA (ps := ["table", "by", "is_up"]) F fun _ _ _ _ _ _ us hl => match us, hl with | [_, _, _], _ => rfl⟩
  d_below := by
    obtain ⟨fd, F⟩ := c.def_ 3 (d := dd_below) rfl
    exact ⟨_, fd, F, He.glo_ok X G (c.fact 3 (f := .glo "below") rfl), FunD.bindsN (ps := ["table"]) F fun _ _ _ _ _ _ us hl => match us, hl with | [_], _ => rfl, FunD.bindsA (ps := ["table"]) F fun _ _ _ _ _ _ us hl => match us, hl with | [_], _ => rfl⟩
  d_above := by
    obtain ⟨fd, F⟩ := c.def_ 4 (d := dd_above) rfl
    exact ⟨_, fd, F, He.glo_ok X G (c.fact 4 (f := .glo "above") rfl), FunD.bindsN (ps := ["table"]) F fun _ _ _ _ _ _ us hl => match us, hl with | [_], _ => rfl, FunD.bindsA (ps := ["table"]) F fun _ _ _ _ _ _ us hl => match us, hl with | [_], _ => rfl⟩
  d_signed := by
    obtain ⟨fd, F⟩ := c.def_ 5 (d := dd_signed) rfl
    exact ⟨_, fd, F, He.glo_ok X G (c.fact 5 (f := .glo "signed") rfl), FunD.bindsN (ps := ["table"]) F fun _ _ _ _ _ _ us hl => match us, hl with | [_], _ => rfl, FunD.bindsA (ps := ["table"]) F fun _ _ _ _ _ _ us hl => match us, hl with | [_], _ => rfl⟩
  d_law_cell := by
    obtain ⟨fd, F⟩ := c.def_ 6 (d := dd_law_cell) rfl
    exact ⟨_, fd, F, He.glo_ok X G (c.fact 6 (f := .glo "_law_cell") rfl), FunD.bindsN (ps := ["_law_script", "_law_k"]) F fun _ _ _ _ _ _ us hl => match us, hl with | [_, _], _ => rfl, FunD.bindsA (ps := ["_law_script", "_law_k"]) F fun _ _ _ _ _ _ us hl => match us, hl with | [_, _], _ => rfl⟩
  d_law_mixed := by
    obtain ⟨fd, F⟩ := c.def_ 7 (d := dd_law_mixed) rfl
    exact ⟨_, fd, F, He.glo_ok X G (c.fact 7 (f := .glo "_law_mixed") rfl), FunD.bindsN (ps := ["_law_script", "_law_k"]) F fun _ _ _ _ _ _ us hl => match us, hl with | [_, _], _ => rfl, FunD.bindsA (ps := ["_law_script", "_law_k"]) F fun _ _ _ _ _ _ us hl => match us, hl with | [_, _], _ => rfl⟩
  d_law_table := by
    obtain ⟨fd, F⟩ := c.def_ 8 (d := dd_law_table) rfl
    exact ⟨_, fd, F, He.glo_ok X G (c.fact 8 (f := .glo "_law_table") rfl), FunD.bindsN (ps := ["_law_script", "_law_many", "_law_turn"]) F fun _ _ _ _ _ _ us hl => match us, hl with | [_, _, _], _ => rfl, FunD.bindsA (ps := ["_law_script", "_law_many", "_law_turn"]) F fun _ _ _ _ _ _ us hl => match us, hl with | [_, _, _], _ => rfl⟩
  d_law_bits := by
    obtain ⟨fd, F⟩ := c.def_ 9 (d := dd_law_bits) rfl
    exact ⟨_, fd, F, He.glo_ok X G (c.fact 9 (f := .glo "_law_bits") rfl), FunD.bindsN (ps := ["_law_one"]) F fun _ _ _ _ _ _ us hl => match us, hl with | [_], _ => rfl, FunD.bindsA (ps := ["_law_one"]) F fun _ _ _ _ _ _ us hl => match us, hl with | [_], _ => rfl⟩
  d_law_is_table := by
    obtain ⟨fd, F⟩ := c.def_ 10 (d := dd_law_is_table) rfl
    exact ⟨_, fd, F, He.glo_ok X G (c.fact 10 (f := .glo "_law_is_table") rfl), FunD.bindsN (ps := ["_law_found", "_law_due_here"]) F fun _ _ _ _ _ _ us hl => match us, hl with | [_, _], _ => rfl, FunD.bindsA (ps := ["_law_found", "_law_due_here"]) F fun _ _ _ _ _ _ us hl => match us, hl with | [_, _], _ => rfl⟩
  d_law_due := by
    obtain ⟨fd, F⟩ := c.def_ 11 (d := dd_law_due) rfl
    exact ⟨_, fd, F, He.glo_ok X G (c.fact 11 (f := .glo "_law_due") rfl), FunD.bindsN (ps := ["_law_table_here", "_law_way"]) F fun _ _ _ _ _ _ us hl => match us, hl with | [_, _], _ => rfl, FunD.bindsA (ps := ["_law_table_here", "_law_way"]) F fun _ _ _ _ _ _ us hl => match us, hl with | [_, _], _ => rfl⟩
  d_law := by
    obtain ⟨fd, F⟩ := c.def_ 12 (d := dd_law) rfl
    exact ⟨_, fd, F, He.glo_ok X G (c.fact 12 (f := .glo "law") rfl), FunD.bindsN (ps := ["_law_script"]) F fun _ _ _ _ _ _ us hl => match us, hl with | [_], _ => rfl, FunD.bindsA (ps := ["_law_script"]) F fun _ _ _ _ _ _ us hl => match us, hl with | [_], _ => rfl⟩
section
variable {P : Program} {w : World} {K : PySem.W.Frag} {mg : Str → Option Value} {base : Heap}

theorem all_ok (T : Txt K mg) {f : Addr} {fd : FuncData} (F : FunD K "law" "law" (defArgs s_law) (defBody s_law) (defScope s_law) [] [] f fd) : FnOk P w K mg base (L2.CX P w) 5 f fd ["_law_script"] (sp_law K) := by
  have h_is_whole : Has P w K mg base 1 "is_whole" ["thing"] (sp_is_whole K) := ok_is_whole T 
  have h_names_of : Has P w K mg base 2 "names_of" ["table"] (sp_names_of K) := ok_names_of T h_is_whole
  have h_spread : Has P w K mg base 3 "spread" ["table", "by", "is_up"] (sp_spread K) := ok_spread T h_names_of
  have h_below : Has P w K mg base 4 "below" ["table"] (sp_below K) := ok_below T h_spread
  have h_above : Has P w K mg base 4 "above" ["table"] (sp_above K) := ok_above T h_spread
  have h_signed : Has P w K mg base 3 "signed" ["table"] (sp_signed K) := ok_signed T h_names_of
  have h_law_cell : Has P w K mg base 1 "_law_cell" ["_law_script", "_law_k"] (sp_law_cell K) := ok_law_cell T 
  have h_law_mixed : Has P w K mg base 2 "_law_mixed" ["_law_script", "_law_k"] (sp_law_mixed K) := ok_law_mixed T h_law_cell
  have h_law_table : Has P w K mg base 1 "_law_table" ["_law_script", "_law_many", "_law_turn"] (sp_law_table K) := ok_law_table T 
  have h_law_bits : Has P w K mg base 1 "_law_bits" ["_law_one"] (sp_law_bits K) := ok_law_bits T 
  have h_law_is_table : Has P w K mg base 1 "_law_is_table" ["_law_found", "_law_due_here"] (sp_law_is_table K) := ok_law_is_table T 
  have h_law_due : Has P w K mg base 2 "_law_due" ["_law_table_here", "_law_way"] (sp_law_due K) := ok_law_due T h_law_bits
  exact ok_law T h_law_due h_law_is_table h_law_mixed h_law_table h_above h_below h_signed F
end
theorem factsL {P : Program} {w : World} {K : PySem.W.Frag} {h : Heap} {mg : Str → Option Value} {f : Addr} (X : K.In h) (G : h.Ns mainGlobals mg) (hfa : mg ("law" : Str) = some (.ref f)) (c : He.SaysD faL fnL K) :
    ∃ fd : FuncData, (∀ (s : Shared) (v : Value), BindsTo s fd ⟨[v], []⟩ [("_law_script", v)]) ∧ ∀ base : Heap, K.In base → base.Ns mainGlobals mg → FnOk P w K mg base (L2.CX P w) 5 f fd ["_law_script"] (sp_law K) := by
  have T := txt_mk X G c
  obtain ⟨fd, F⟩ := c.def_ 12 (d := dd_law) rfl
  cases hfa.symm.trans (He.glo_ok X G (c.fact 12 (f := .glo "law") rfl))
  have b := FunD.bindsA (ps := ["_law_script"]) F fun _ _ _ _ _ _ us hl => match us, hl with | [_], _ => rfl
  exact ⟨fd, fun s v => b s [v] rfl, fun base _ _ => all_ok T F⟩
end SS
open PySem PySem.W PySem.Calls PyProof.Rows
set_option maxHeartbeats 0 in
theorem PySem.Challenge.cw_setsums_k03_sums_set_by_set_holds : PySem.Challenge.rw_setsums_k03_sums_set_by_set.Holds := by
  w_on; o_law
  refine HandSHeadRun.head_any (r := OpenLaw.row PySem.Challenge.rw_setsums_k03_sums_set_by_set) (q := view (OpenLaw.row PySem.Challenge.rw_setsums_k03_sums_set_by_set).prog [20]) (H := SS.hkL) (ob := SS.obL) (M := 6000) (loose := SS.looseL) (d := HandSHeadRun.topDef (OpenLaw.row PySem.Challenge.rw_setsums_k03_sums_set_by_set).prog 20) (kwd := []) SS.obL_eq
    (by kernel_rfl) (fun s => by kernel_rfl) SS.runL (by kernel_rfl) (by kernel_rfl) (by kernel_rfl) (by rfl) (by first | assumption | decide +kernel) (by decide +kernel) ⟨rfl, rfl, rfl, rfl, rfl, by decide +kernel⟩ ?hw ?hc
  case hw => w_witness2
  case hc =>
    refine SS.walk_ofE2 (l := PySem.Challenge.rw_setsums_k03_sums_set_by_set) (n := 63) (k := 5) (x := "_law_script") (CX := fun w => L2.CX (PySem.Challenge.rw_setsums_k03_sums_set_by_set).prog w) rfl (by decide) (by kernel_rfl) ⟨rfl, by decide, by decide⟩ ?F (fun w _ s e s' z => SS.cx_end z)
    intro w mg fa h Y G hmg0
    obtain ⟨K, KX, c⟩ := Y
    have hmg : mg ("law" : PySem.Str) = some (.ref fa) := by
      have e : (HandSHeadRun.topDef (OpenLaw.row PySem.Challenge.rw_setsums_k03_sums_set_by_set).prog 20).name = ("law" : PySem.Str) := by kernel_rfl
      rw [← e]
      exact hmg0
    obtain ⟨fd, hb, hF⟩ := SS.factsL (P := (PySem.Challenge.rw_setsums_k03_sums_set_by_set).prog) (w := w) KX G hmg c
    exact ⟨K, fd, SS.sp_law K, KX, hb, fun H a ns hl _ hS => ⟨a, ns, rfl, hS, hl, fun _ => rfl⟩, hF⟩

