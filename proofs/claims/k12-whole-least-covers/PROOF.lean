import PyProof.Rows.All
import Wide.All
import OpenK.AllK
import Wide.FinOn
import KE.KStateDown
import Lean
import HandS.ForMost
import HandS.ForExc
import HandS.ExcValue
import HandS.ExcIs
import HandS.IsInst
import HandS.Wide
import HandS.WideBits
import HandS.Flow
import HandS.Style
import HandS.Conv
import HandS.More
import HandS.Evl
import HandS.Defaults
import HandS.Head0
import HandS.Head1
import HandS.Head2
import HandS.HeadEnd
import HandS.HeadHook1
import HandS.HeadHook2
import HandS.HeadHook3
import HandS.HeadHook4
import HandS.SetFor
import HandS.SortInts
import HandS.Strs
import HandS.Small
import PySem.Challenge.RW_setsums_k12_whole_least_covers
set_option Elab.async false
set_option linter.all false
set_option maxRecDepth 100000
set_option maxHeartbeats 1000000
/-! the layer of this program's laws over HandS -/
namespace SS
open PySem PySem.Spec PyProof.Rows L2 Evl

/-! ### heaps -/
theorem ex_upd {S H : Hp} {p : Addr} {o : HO} (e : Ex S H) (h : H p = none) : Ex S (upd H p o) := e.trans (Ex.new h)
theorem ex_mut {S H : Hp} {p : Addr} {o : HO} (e : Ex S H) (h : S p = none) : Ex S (upd H p o) := Ex.mut e h
theorem upd_at {H G : Hp} {p : Addr} {o : HO} (h : upd H p o = G) : G p = some o := by
  rw [← h]
  exact upd_same
theorem upd_ex {H G : Hp} {p : Addr} {o : HO} (h : upd H p o = G) (n : H p = none) : Ex H G := by
  rw [← h]
  exact Ex.new n
theorem ne_fresh {H : Hp} {p q : Addr} {o : HO} (h : H p = some o) (h' : H q = none) : p ≠ q := ne_of_none h h'

/-! ### the calls of defs -/
/-- the def x is there and keeps its promise -/
structure Has (P : Program) (w : World) (K : PySem.W.Frag) (mg : Str → Option Value) (base : Heap) (k : Nat) (x : Str) (ps : List Str) (sp : Sp) : Prop where
  ex : ∃ (f : Addr) (fd : FuncData), FnOk P w K mg base (L2.CX P w) k f fd ps sp ∧ mg x = some (.ref f) ∧ PySem.W.keepIn K (.ref f) = true ∧ Binds K fd ps [] ∧ ∀ (s : Shared) (us : List Value), us.length = ps.length → BindsTo s fd ⟨us, []⟩ (ps.zip us)
section
variable {X : Cx} {k : Nat} {x : Str} {ps : List Str} {sp : Sp} {E : XK} {p pos : Pos} {e : Expr} {es : List Expr} {t : TA}
theorem pe_has (h : Has X.prog X.w X.K X.mg X.base k x ps sp) (hr : Room k X.A) (hg : Gl X x) (hx : Passes (L2.CX X.prog X.w) X E)
    (ha : PA X (e :: es) t) (hdb : (x == ("__debug__" : Str)) = false := by decide) (he : starEach (e :: es) X.env = (false, eval e X.env) :: starEach es X.env := by rfl) (hpl : (backTo pos (starEach es X.env)).any (·.1) = false := by rfl) :
    PE X (.Call (.Name x p) (e :: es) [] pos) (tCall sp [] E t) := by
  obtain ⟨f, fd, F, hm, hk, hb, _⟩ := h.ex
  exact pe_call F hr hg hm hk hb .nil hx ha hdb he hpl
theorem pe_hasS {W : WX} (h : Has X.prog X.w X.K X.mg X.base k x ps sp) (hr : Room k X.A) (hg : Gl X x) (tk : Takes X W)
    (ha : PA X (e :: es) t) (hdb : (x == ("__debug__" : Str)) = false := by decide) (he : starEach (e :: es) X.env = (false, eval e X.env) :: starEach es X.env := by rfl) (hpl : (backTo pos (starEach es X.env)).any (·.1) = false := by rfl) :
    PE X (.Call (.Name x p) (e :: es) [] pos) (tCallS sp (WE W) t) := by
  obtain ⟨f, fd, F, hm, hk, hb, _⟩ := h.ex
  exact pe_callS F hr hg hm hk hb (fun σ => passAt tk σ) ha hdb he hpl
/-- a def as the head tells it -/
structure DefAt (K : PySem.W.Frag) (mg : Str → Option Value) (x : Str) (st : Stmt) (ps : List Str) : Prop where
  ex : ∃ (f : Addr) (fd : FuncData), FunD K x x (defArgs st) (defBody st) (defScope st) [] [] f fd ∧ mg x = some (.ref f) ∧ Binds K fd ps [] ∧ ∀ (s : Shared) (us : List Value), us.length = ps.length → BindsTo s fd ⟨us, []⟩ (ps.zip us)
theorem DefAt.has {P : Program} {w : World} {K : PySem.W.Frag} {mg : Str → Option Value} {base : Heap} {x : Str} {st : Stmt} {N ps : List Str} {k : Nat} {sp : Sp} (D : DefAt K mg x st ps) (S : FnScope N ps (defScope st)) (len : ∀ vs H Q E, sp vs H Q E → vs.length = ps.length)
    (hbody : ∀ (f : Addr) (cdv : Value) (A : Around) (outer : List Env) (s : Shared) (H : Hp) (vs : List V) (Q : VK) (E : XK), Room k (A.deeper (envOfC x (defScope st) s.heap.objs.size f cdv)) → sp vs H Q E →
      ∃ t, PSs (cxOf (L2.CX P w) P w K mg base N x (defScope st) f cdv A outer s H E) (defBody st) t ∧ t { nx := fun _ H' => Q .non H', rt := Q } (start N vs) H) : Has P w K mg base (k + 1) x ps sp := by
  obtain ⟨f, fd, F, hm, hb, ha⟩ := D.ex
  exact ⟨f, fd, FunD.ok F S len (hbody f), hm, F.kp, hb, ha⟩
theorem Has.mono {P : Program} {w : World} {K : PySem.W.Frag} {mg : Str → Option Value} {base : Heap} {x : Str} {j k : Nat} (h : Has P w K mg base j x ps sp) (l : j ≤ k) : Has P w K mg base k x ps sp := by
  obtain ⟨f, fd, F, r⟩ := h.ex
  exact ⟨f, fd, F.mono l, r⟩
/-- in a def's body: what a callee lets out goes on -/
theorem passB {P : Program} {w : World} {K : PySem.W.Frag} {mg : Str → Option Value} {base : Heap} {N : List Str} {qual : Str} {scope : Scope} {f : Addr} {cd : Value} {A : Around} {outer : List Env} {s : Shared} {H : Hp} {E : XK} :
    Passes (L2.CX P w) (cxOf (L2.CX P w) P w K mg base N qual scope f cd A outer s H E) E := passes_call (takes_of rfl rfl rfl rfl) (fun _ _ _ _ h => h)
theorem takesB {P : Program} {w : World} {K : PySem.W.Frag} {mg : Str → Option Value} {base : Heap} {N : List Str} {qual : Str} {scope : Scope} {f : Addr} {cd : Value} {A : Around} {outer : List Env} {s : Shared} {H : Hp} {E : XK} :
    Takes (cxOf (L2.CX P w) P w K mg base N qual scope f cd A outer s H E) (fun cls d _ H => E cls d H) := takes_of rfl rfl rfl rfl
end

/-! ### an int of the module -/
theorem pe_kint {X : Cx} {x : Str} {i : Int} {pos : Pos} (h : ∃ t, X.mg x = some (.int i t)) (hg : Gl X x) (hd : (x == ("__debug__" : Str)) = false := by decide) : PE X (.Name x pos) (tC (.int i)) := by
  obtain ⟨t, ht⟩ := h
  exact pe_glob hg ht ⟨_, rfl⟩ hd

/-- a built-in class as a value -/
theorem pe_ty {X : Cx} {x : Str} {pos : Pos} (n : String) (hg : Gl X x) (hm : X.mg x = none) (hv : bootBuiltins x = some (.type n)) (hn : x ≠ "__name__" := by decide) (hd : (x == ("__debug__" : Str)) = false := by decide) : PE X (.Name x pos) (tC (.ty n)) :=
  pe_bltn hg hm hv (v := .ty n) rfl hn hd
/-! ### types -/
inductive Ty where | non | bl | int | str | lst | tup | dct
  deriving DecidableEq
def Ty.nm : Ty → String
  | .non => "NoneType" | .bl => "bool" | .int => "int" | .str => "str" | .lst => "list" | .tup => "tuple" | .dct => "dict"
def Ty.isa : Ty → Ty → Bool
  | .bl, .int => true
  | a, b => decide (a = b)
def Ty.ask : Ty → Bool
  | .non => false
  | _ => true
theorem kit_isa {a b : Ty} (h : b.ask = true) : kitB a.nm b.nm = some (a.isa b) := by
  cases b <;> first | (exact absurd h (by decide)) | (cases a <;> decide +kernel)
/-- a value whose type is known -/
def Kd (K : PySem.W.Frag) (H : Hp) (x : V) (t : Ty) : Prop := TyX K H x (.type t.nm)
section
variable {K : PySem.W.Frag} {H H' : Hp} {a : Addr} {xs : List V}
theorem Kd.non : Kd K H .non .non := .base .non
theorem Kd.bl (b : Bool) : Kd K H (.bl b) .bl := .base (.bl b)
theorem Kd.int (i : Int) : Kd K H (.int i) .int := .base (.int i)
theorem Kd.str (s : Str) : Kd K H (.str s) .str := .base (.str s)
theorem Kd.lst (h : SqL K H a xs) : Kd K H (.ref a) .lst := by
  rcases h with (h | ⟨o, h⟩) | ⟨o, its, n, h, c, _⟩
  · exact .base (.lst h)
  · exact .base (.frz h)
  · exact .kList h c
theorem Kd.tup (h : SqT K H a xs) : Kd K H (.ref a) .tup := by
  rcases h with (h | ⟨o, h⟩) | ⟨o, its, n, h, c, _⟩
  · exact .base (.tup h)
  · exact .fTuple h
  · exact .kTuple h c
theorem Kd.dct {kvs : List (Key × V)} (h : H a = some (.dK kvs)) : Kd K H (.ref a) .dct := .base (.dK h)
end
/-- isinstance(x, T), T built-in -/
def rIsK (K : PySem.W.Frag) : List V → Hp → VK → Prop := fun xs H Q => ∃ (x : V) (t c : Ty), xs = [x, .ty c.nm] ∧ c.ask = true ∧ Kd K H x t ∧ Q (.bl (t.isa c)) H
theorem rIsK_ty {K : PySem.W.Frag} {x : V} {H : Hp} {Q : VK} {n : String} (c : Ty) (hn : n = c.nm) (ha : c.ask = true) : rIsK K [x, .ty n] H Q = (∃ t, Kd K H x t ∧ Q (.bl (t.isa c)) H) := by
  subst hn
  apply propext
  constructor
  · rintro ⟨x', t, c', e, _, k, q⟩
    injection e with e1 e2
    injection e2 with e3 _
    injection e3 with e4
    have ec : c = c' := by
      cases c <;> cases c' <;> first | rfl | (exact absurd e4 (by decide))
    subst e1 ec
    exact ⟨t, k, q⟩
  · rintro ⟨t, k, q⟩
    exact ⟨x, t, c, rfl, ha, k, q⟩
theorem is_int {K : PySem.W.Frag} {x : V} {H : Hp} {Q : VK} : rIsK K [x, .ty "int"] H Q = (∃ t, Kd K H x t ∧ Q (.bl (t.isa .int)) H) := rIsK_ty .int rfl rfl
theorem is_bool {K : PySem.W.Frag} {x : V} {H : Hp} {Q : VK} : rIsK K [x, .ty "bool"] H Q = (∃ t, Kd K H x t ∧ Q (.bl (t.isa .bl)) H) := rIsK_ty .bl rfl rfl
theorem is_list {K : PySem.W.Frag} {x : V} {H : Hp} {Q : VK} : rIsK K [x, .ty "list"] H Q = (∃ t, Kd K H x t ∧ Q (.bl (t.isa .lst)) H) := rIsK_ty .lst rfl rfl
theorem is_tuple {K : PySem.W.Frag} {x : V} {H : Hp} {Q : VK} : rIsK K [x, .ty "tuple"] H Q = (∃ t, Kd K H x t ∧ Q (.bl (t.isa .tup)) H) := rIsK_ty .tup rfl rfl
theorem call_isK {X : Cx} : CallR X (.builtin "isinstance") (rIsK X.K) := by
  intro pins s σ H xs us Q I r h
  obtain ⟨x, t, c, rfl, ha, k, q⟩ := h
  exact call_isi pins s σ H _ us Q I r ⟨x, .ty c.nm, _, _, _, rfl, .ty _, k, kit_ty (kit_isa ha), q⟩

/-! ### operators -/
/-- a product: one factor small, or both together below a million bits -/
def CMu (i j : Int) : Prop := CMul i j ∨ CMulW i j
theorem op_mu {X : Cx} : OpR X (binaryOp .Mult) (rI CMu fun i j => .int (i * j)) := opI fun _ _ _ _ _ _ _ hc q => mul_int q (hc.elim CMul.ok CMulW.ok)
/-- a power -/
def CPw (i j : Int) : Prop := 0 ≤ j ∧ (Builtin.Int.intBits i : Int) * j ≤ 2 ^ 27
theorem op_pw {X : Cx} : OpR X (binaryOp .Pow) (rI CPw fun i j => .int (i ^ j.toNat)) := opI fun _ _ _ _ _ _ _ hc q => pow_int hc.1 hc.2 q
theorem pow2c (i : Nat) : (2 : Int) ^ i = ((2 ^ i : Nat) : Int) := by norm_cast
theorem op_sh {X : Cx} : OpR X (binaryOp .LShift) (rI CPow fun i j => .int (i * ((2 ^ j.toNat : Nat) : Int))) := opI fun _ _ _ _ _ _ _ hc q => lshift_int_small hc.1 hc.2.1 hc.2.2 (by rw [pow2c]; exact q)
theorem op_sr {X : Cx} : OpR X (binaryOp .RShift) (rI (fun _ j => 0 ≤ j) fun i j => .int (i / ((2 ^ j.toNat : Nat) : Int))) := opI fun i j s t u Q h hc q =>
  rshift_int hc (by rw [show i.fdiv (2 ^ j.toNat) = i / ((2 ^ j.toNat : Nat) : Int) by rw [← pow2c]; exact Int.fdiv_eq_ediv_of_nonneg i (two_pow_nn _)]; exact q)
theorem band_nn (n m : Nat) : Builtin.bitAnd (n : Int) (m : Int) = ((n &&& m : Nat) : Int) := rfl
theorem bor_nn (n m : Nat) : Builtin.bitOr (n : Int) (m : Int) = ((n ||| m : Nat) : Int) := bitOr_nn (by omega) (by omega)
theorem bxor_nn (n m : Nat) : Builtin.bitXor (n : Int) (m : Int) = ((n ^^^ m : Nat) : Int) := Bits.bitXor_pp (by omega) (by omega)

/-! ### own exception classes -/
structure ExcT (K : PySem.W.Frag) (mg : Str → Option Value) (x : Str) : Prop where
  g : mg x = some (.ref (He.ga K x))
  xc : PySem.W.excIn K (He.ga K x) He.veBase "ValueError.__new__" = true
  k : PySem.W.keepIn K (.ref (He.ga K x)) = true
  b : PySem.W.subIn K (.ref (He.ga K x)) (.type "BaseException") = some true
  t : PySem.W.typeIn K (.ref (He.ga K x)) = some (.type "type")
theorem ps_rz {X : Cx} {W : WX} {x m : Str} {j : Nat} {p p2 pos pos' : Pos} (hc : X.calm = true) (tk : Takes X W) (E : ExcT X.K X.mg x) (hg : Gl X x) (hdb : (x == ("__debug__" : Str)) = false := by decide) :
    PS X (.Raise (some (.Call (.Name x p) [.Constant (.str m) j p2] [] pos)) none pos') (fun _ σ H => W (.ref (He.ga X.K x)) none σ H) :=
  ps_raise hc tk (pmk_own PySem.F.excBase_ValueError E.xc E.g E.k (raises_own E.b E.t) hg hdb)


theorem k_cls {X : Cx} (K : PySem.W.Frag) {x : Str} {pos : Pos} (E : ExcT K X.mg x) (hg : Gl X x) (hd : (x == ("__debug__" : Str)) = false := by decide) : PE X (.Name x pos) (tC (.ref (He.ga K x))) := pe_glob hg E.g (show L2.RelV (.ref (He.ga K x)) (.ref (He.ga K x)) from rfl) hd
/-! ### the rules with the written part named (within a comprehension) -/
section
variable {X : Cx} (K : PySem.W.Frag)
theorem k_isK (h : X.K = K := by rfl) : CallR X (.builtin "isinstance") (rIsK K) := h ▸ call_isK
theorem k_ixl (h : X.K = K := by rfl) : IxR X (rIxL K) := h ▸ ix_list
theorem k_ixt (h : X.K = K := by rfl) : IxR X (rIxT K) := h ▸ ix_tup
theorem k_in (h : X.K = K := by rfl) : OpR X (compareOp .In) (rIn K false) := h ▸ op_in_seq
theorem k_nin (h : X.K = K := by rfl) : OpR X (compareOp .NotIn) (rIn K true) := h ▸ op_notIn_seq
theorem k_eqD (hu : X.A.units + 64 < cLine) (h : X.K = K := by rfl) : OpR X (compareOp .Eq) (rEqD K) := h ▸ op_eqD hu
theorem k_neD (hu : X.A.units + 64 < cLine) (h : X.K = K := by rfl) : OpR X (compareOp .NotEq) (rNeD K) := h ▸ op_neD hu
theorem k_len (h : X.K = K := by rfl) : CallR X (.builtin "len") (rLenS K) := h ▸ call_len_seq
theorem k_list (h : X.K = K := by rfl) : CallR X (.type "list") (rListS K) := h ▸ call_list_of
theorem k_rz {W : WX} {x m : Str} {j : Nat} {p p2 pos pos' : Pos} (hc : X.calm = true) (tk : Takes X W) (E : ExcT K X.mg x) (hg : Gl X x) (hK : X.K = K := by rfl) (hdb : (x == ("__debug__" : Str)) = false := by decide) :
    PS X (.Raise (some (.Call (.Name x p) [.Constant (.str m) j p2] [] pos)) none pos') (fun _ σ H => W (.ref (He.ga K x)) none σ H) := by
  subst hK
  exact ps_rz hc tk E hg hdb
theorem k_tuple (h : X.K = K := by rfl) : CallR X (.type "tuple") (fun xs H Q => ∃ p ys, xs = [.ref p] ∧ ((SqL K H p ys ∧ ∀ l, H l = none → Q (.ref l) (upd H l (.tup ys))) ∨ (SqT K H p ys ∧ Q (.ref p) H))) := h ▸ call_tuple_of
theorem k_bm0 {o : Expr} {to : TE} {name : Str} {apos cpos : Pos} {T id : String} {r : V → List V → Hp → VK → Prop} (pa : PlainAttrs T) (slot : Slot T name id) (hty : typeOf (.builtin id) = pure (.type "method_descriptor")) (hm : MtR X id r) (ho : PE X o to)
    (hK : X.K = K := by rfl) (hbase : attributeBase o name X.env (eval o X.env) = eval o X.env := by rfl) (hline : (apos.endLine == cpos.line) = true := by rfl) : PE X (.Call (.Attribute o name apos) [] [] cpos) (tBM0 K T r to) := by
  subst hK
  exact pe_bm0 pa slot hty hm ho hbase hline
theorem k_bm {o e : Expr} {es : List Expr} {to : TE} {t : TA} {name : Str} {apos cpos : Pos} {T id : String} {r : V → List V → Hp → VK → Prop} (pa : PlainAttrs T) (slot : Slot T name id) (hty : typeOf (.builtin id) = pure (.type "method_descriptor")) (hm : MtR X id r) (ho : PE X o to) (ha : PA X (e :: es) t)
    (hK : X.K = K := by rfl) (hbase : attributeBase o name X.env (eval o X.env) = eval o X.env := by rfl)
    (hfew : ((backTo cpos (starEach (e :: es) X.env)).all (fun x => !x.1) && (backToKw cpos (keywordEach [] X.env)).all (fun x => x.1.isSome)
      && decide ((e :: es).length + ([] : List Keyword).length + (if ([] : List Keyword).isEmpty then 0 else 1) < 30)) = true := by rfl)
    (hline : (apos.endLine == cpos.line) = true := by rfl) (hs : starEach (e :: es) X.env = (false, eval e X.env) :: starEach es X.env := by rfl) (hplain : (backTo cpos (starEach es X.env)).any (·.1) = false := by rfl) :
    PE X (.Call (.Attribute o name apos) (e :: es) [] cpos) (tBM K T r to t) := by
  subst hK
  exact pe_bm pa slot hty hm ho ha hbase hfew hline hs hplain
theorem k_sum (hc : X.calm = true) (h : X.K = K := by rfl) : CallR X (.builtin "sum") (rSum K) := h ▸ cr_sum hc
theorem k_all (hc : X.calm = true) (h : X.K = K := by rfl) : CallR X (.builtin "all") (rAll K) := h ▸ cr_all hc
theorem k_sorted (h : X.K = K := by rfl) : CallR X (.builtin "sorted") (rSorted K) := h ▸ cr_sorted
theorem k_sll (h : X.K = K := by rfl) : SlR X (rSlL K) := h ▸ sl_list
theorem k_pil {tg l : Expr} {tl : TE} (hl : PE X l tl) (h : X.K = K := by rfl) : PI X tg l (iList K tl) := h ▸ pi_list hl
theorem k_pgt {es : List Expr} {k : Nat} {t : TGs} {n : Nat} {pos : Pos} (hc : X.calm = true) (hp : PGs X es t) (hn : (assignEach es X.env).length = n := by rfl) (hst : (assignEach es X.env).findIdx? (·.1) = none := by rfl) (h : X.K = K := by rfl) : PG X (.Tuple es k pos) (gTup K n t) := h ▸ pg_tup hc hp hn hst
theorem k_pgl {es : List Expr} {k : Nat} {t : TGs} (n : Nat) {pos : Pos} (hc : X.calm = true) (hp : PGs X es t) (hn : (assignEach es X.env).length = n := by rfl) (hst : (assignEach es X.env).findIdx? (·.1) = none := by rfl) (h : X.K = K := by rfl) : PG X (.Tuple es k pos) (gLst K n t) := h ▸ pg_lst hc hp hn hst
theorem k_enum {e : Expr} {ta : TA} {p pos tpos : Pos} {elts : List Expr} {kk : Nat} (hg : Gl X "enumerate") (hm : X.mg "enumerate" = none) (ha : PA X [e] ta) (h : X.K = K := by rfl) (hs : starEach [e] X.env = [(false, eval e X.env)] := by rfl) :
    PI X (.Tuple elts kk tpos) (.Call (.Name "enumerate" p) [e] [] pos) (iEnum K ta) := h ▸ pi_enum hg hm ha hs
theorem k_zip {e e2 : Expr} {ta : TA} {p pos tpos : Pos} {elts : List Expr} {kk : Nat} (hg : Gl X "zip") (hm : X.mg "zip" = none) (ha : PA X [e, e2] ta) (h : X.K = K := by rfl)
    (hs : starEach [e, e2] X.env = (false, eval e X.env) :: starEach [e2] X.env := by rfl) (hpl : (backTo pos (starEach [e2] X.env)).any (·.1) = false := by rfl) :
    PI X (.Tuple elts kk tpos) (.Call (.Name "zip" p) [e, e2] [] pos) (iZip K ta) := by
  subst h
  exact pi_zip hg hm ha hs hpl
theorem k_pit {tg l : Expr} {tl : TE} (hl : PE X l tl) (h : X.K = K := by rfl) : PI X tg l (iTup K tl) := h ▸ pi_tup hl
end
/-! ### loops, read from the left -/
section
variable {K : PySem.W.Frag} {D : Ends} {σ : L2.St} {H : Hp} {tb : TS} {g : TG}
/-- range(n): the args are told -/
theorem l_rng {n : Nat} {R : It → Hp → Prop} (hn : n ≤ 100000) (h : R (Itr 0 n) H) : ∃ j : Int, [V.int (n : Int)] = [.int j] ∧ -(2 ^ 62) ≤ j ∧ j < 2 ^ 62 ∧ R (Itr 0 j.toNat) H := ⟨n, rfl, by omega, by omega, h⟩
end
/-! ### the end of a law -/
theorem cx_end {P : Program} {w : World} {H : Hp} {s : Shared} {e : Value} {s' : Shared} (h : L2.CX P w [] H s (fun _ _ _ => False) e s') : False := by
  obtain ⟨_, _, _, _, _, _, _, _, _, _, _, _, z⟩ := h
  exact z.elim
theorem walk_ofE2 {l : PySem.W.OpenLaw} {n k : Nat} {q : Program} {loose : List Str} {XP : (Str → Option Value) → Heap → Prop} {YP : World → Heap → Prop} {d : DefRec} {CX : World → CXT} {x : Str}
    (hn : l.most = some n) (hn2 : n ≤ sizeLine) (hdf : d.params.defaults = []) (hr : Room k callerA)
    (F : ∀ (w : World) (mg : Str → Option Value) (fa : Addr) (h : Heap), YP w h → h.Ns mainGlobals mg → mg d.name = some (.ref fa) →
      ∃ (K : PySem.W.Frag) (fd : FuncData) (sp : Sp), K.In h ∧ (∀ (s : Shared) (u : Value), BindsTo s fd ⟨[u], []⟩ [(x, u)]) ∧
        (∀ (H : Hp) (a : Addr) (ns : List Int), ns.length ≤ n → Only H → SqL K H a (ns.map V.int) → sp [.ref a] H (fun v _ => v = .bl true) fun _ _ _ => False) ∧
        ∀ base : Heap, K.In base → base.Ns mainGlobals mg → FnOk l.prog w K mg base (CX w) k fa fd [x] sp)
    (hCX : ∀ (w : World) (H : Hp) (s : Shared) (e : Value) (s' : Shared), CX w [] H s (fun _ _ _ => False) e s' → False) :
    PySem.W.WalkO q loose XP YP l.row.toRowW d [] (fun f vs => PySem.call f vs) := by
  refine Att.attach_call hn hdf fun w s₀ s₁ mg mb fa o pm cd doc a vs ns G Y ho hd hcd hmg hobj hints hlen hg => ?_
  obtain ⟨K, fd, sp, KX, hb, hsp, hF⟩ := F w mg fa _ Y G.T.g hmg
  exact law_call KX G.T.g G.T.b G.T.builtins G.T.nolimit hg hobj hints (Nat.le_trans hlen hn2) hr hF hb (fun H hO hS => hsp H a ns hlen hO hS) fun H e s' => hCX w H s₁ e s'
end SS

/-! 'except C as n: y = n': the refusal stays behind as a value of y -/
namespace SS
open PySem PySem.Spec PyProof.Rows L2 Evl
/-- the object of a refusal of class cls, at a -/
def ExK (cls : Value) (a : Addr) : HO := .ext fun h => ∃ (oe : Obj) (vs : Array Value), h.get? a = some oe ∧ Zc cls none oe ∧ oe.data = .fields vs
section
variable {X : Cx} {pins : List (Addr × Obj)} {σ : L2.St} {H B : Hp} {s : Shared} {a : Addr}
/-- a is none of the frames', cells' and pinned objects, and none of the entry's -/
structure Aside (X : Cx) (pins : List (Addr × Obj)) (a : Addr) : Prop where
  own : a ≠ X.env.locals
  up : a ∉ X.fs
  entry : X.s_0.heap.get? a = none
  cell : ∀ x c, X.env.cells.lookup x = some c → c ≠ a
  pin : ∀ p ∈ X.pn ++ pins, p.1 ≠ a
theorem Aside.of (J : L2.Inv X pins σ H s) (hf : X.env.frame = some X.env.locals) (hex : X.ex = []) (new : s.heap.get? a = none) (off : a ∉ frs (X.env :: X.outer)) : Aside X pins a where
  own := fun z => off (z ▸ List.mem_filterMap.mpr ⟨X.env, .head _, hf⟩)
  up := fun z => by
    obtain ⟨e, h1, h2⟩ := List.mem_filterMap.mp z
    exact off (List.mem_filterMap.mpr ⟨e, .tail _ h1, h2⟩)
  entry := by
    rcases q : X.s_0.heap.get? a with _ | o
    · rfl
    · obtain ⟨o', q'⟩ := J.base.there a o q (by simp [hex])
      exact absurd (new.symm.trans q') (by simp)
  cell := fun x c h z => by
    obtain ⟨v, o, q, _⟩ := J.cell x c h
    exact absurd (new.symm.trans (z ▸ q)) (by simp)
  pin := fun p h z => absurd (new.symm.trans (z ▸ (J.pin p h).1)) (by simp)
/-- from here on the object at a is one of the walk's -/
theorem Aside.track {cls : Value} {oe : Obj} {vs : Array Value} (A : Aside X pins a) (I : L2.Inv X pins σ H s) (na : H a = none) (he : s.heap.get? a = some oe) (hz : Zc cls none oe) (hd : oe.data = .fields vs) : L2.Inv X pins σ (upd H a (ExK cls a)) s := by
  have other : ∀ {b}, b ≠ a → upd H a (ExK cls a) b = H b := fun h => upd_ne h
  have heldNe : ∀ {b o}, H b = some o → b ≠ a := fun e q => by rw [q, na] at e; exact nomatch e
  have oldNe : ∀ {b o}, X.s_0.heap.get? b = some o → b ≠ a := fun e q => by rw [q, A.entry] at e; exact nomatch e
  have same : ∀ {b o}, H b = some o → upd H a (ExK cls a) b = some o := fun e => by rw [other (heldNe e)]; exact e
  refine ⟨I.ok, I.os, I.bare, ⟨I.base.keep, I.base.slot, fun b o e n hx => by rw [other (oldNe e)]; exact I.base.free b o e n hx, I.base.there, fun b xs e => same (I.base.tups b xs e), fun b o u e => same (I.base.frzs b o u e), fun b ps e => ?_⟩, I.loc, I.cell,
    by rw [other A.own.symm]; exact I.free, fun x c e => by rw [other (A.cell x c e)]; exact I.freeC x c e, fun p hp => ?_, fun b u e => ?_, I.len⟩
  · obtain ⟨m, q⟩ := I.base.tbls b ps e
    exact ⟨m, same q⟩
  · obtain ⟨q1, q2, q3⟩ := I.pin p hp
    exact ⟨q1, by rw [other (A.pin p hp)]; exact q2, q3⟩
  · rcases Decidable.em (b = a) with rfl | hb
    · rw [upd_same] at e
      cases e
      exact ⟨⟨oe, vs, he, hz, hd⟩, ⟨oe, he⟩, fun _ _ ⟨o, v, q, r⟩ k => ⟨o, v, k o q, r⟩⟩
    · rw [other hb] at e
      exact (I.hok b u e).stay (fun _ _ _ q => q) (fun c q => same q) fun c xs q => same q
end
/-- what the clause wishes of a refusal: n's slot is i, y's is j -/
def wK (K : PySem.W.Frag) (c : Value) (i j : Nat) (Wout : WX) (D : Ends) : WX := fun cls d σ H =>
  ∃ b, PySem.W.exmOne K cls c = some b ∧ (b = true → d = none ∧ ∀ a, H a = none → D.nx (((σ.set i (some (.ref a))).set j (some (.ref a))).set i none) (upd H a (ExK cls a))) ∧ (b = false → Wout cls d σ H)
theorem Names.of {X : Cx} {x : Str} (E : ExcT X.K X.mg x) (hg : Gl X x) (hdb : (x == ("__debug__" : Str)) = false := by decide) : Names X x (.ref (He.ga X.K x)) := ⟨hg, hdb, .inl E.g⟩
section
variable {X : Cx} {x n y : Str} {c : Value} {i j : Nat} {body : List Stmt} {np pos pos' py pn' sp : Pos} {tb : WX → TS} {Wout : WX}
/-- the class behind 'except', read -/
theorem name_read {X : Cx} {a : Addr} {oe : Obj} {L : List (Addr × Obj)} {σ : L2.St} {H : Hp} {s : Shared} {Q E : Value → Shared → Prop} {np : Pos} {x : Str} {c : Value} (I : L2.Inv (X.suite a ((a, oe) :: L)) [] σ H s) (hc : Names X x c) (q : Q c s) :
    wpAny (model X.prog X.w) (X.A.mark (some (.ref a))) (eval (.Name x np) X.env) Q E s := by
  rcases hc with ⟨g, nd, m | ⟨m, v, nn⟩⟩
  · exact ld_glob (X := X.suite a ((a, oe) :: L)) I g m q nd
  · exact ld_blt (X := X.suite a ((a, oe) :: L)) I g m v q nn nd
variable {pins : List (Addr × Obj)} {σ : L2.St} {H B : Hp} {D : Ends} {a : Addr} {cls : Value} {d : Option Addr}
/-- the refusal on the ground, put to the clause -/
theorem clause_run {G : Heap} {s : Shared} {h : Heap} (hf : X.env.frame = some X.env.locals) (hN : X.N.Nodup) (hi : X.N[i]? = some n) (hj : X.N[j]? = some y) (hln : X.env.kindOf n = some .local) (hly : X.env.kindOf y = some .local) (hc : Names X x c)
    (hd : (n == ("__debug__" : Str)) = false) (hcd : (n == ("__classdict__" : Str)) = false) (A : Aside X pins a) (na : H a = none) (w : wK X.K c i j Wout D cls d σ H)
    (inv : ∀ h', HandSPX.FlyingZ G (X.env :: X.outer) a (Zc cls d) h' → s.heap.UpToSlots h' → L2.Inv X pins σ H { s with heap := h' }) (fl : HandSPX.FlyingZ G (X.env :: X.outer) a (Zc cls d) h) (up : s.heap.UpToSlots h)
    (on : ∀ h', HandSPX.HeldZ G (X.env :: X.outer) a (Zc cls d) X.env.locals h' → s.heap.UpToSlots h' → Wout cls d σ H → X.xe (.ref a) { s with heap := h' }) :
    wpAny (model X.prog X.w) X.A (handleBy (.ref a) X.env [.ExceptHandler (some (.Name x np)) (some n) [.Assign [.Name y py] (.Name n pn') sp] pos']) (SP X pins D) X.xe { s with heap := h } := by
  obtain ⟨b, hb, yes, no⟩ := w
  have J := inv h fl up
  have ⟨_, _, _, oe, vs, T, _, _, ge, ze, de, d1, _⟩ := fl
  refine wpAny_handleBy_cons (codeAny_handlers_test (name_read (J.suite ge de na A.own A.up) hc ?_)) (fun z => nomatch z)
  have isC := PySem.W.exm_one (M := model X.prog X.w) J.kIn (fun A Q E s k q => wpAny_typeOf_ref (k _ _ ge) (by rw [ze.1]; exact q)) hb
  refine isC.here ?_
  rcases b with _ | _
  · -- another one's
    refine wpAny_handleBy_nil ?_
    unfold PySem.passOn
    refine wpAny_bind (wpAny_field ge de d1 ?_)
    rw [if_neg (by simp)]
    refine wpAny_bind ?_
    rw [hf]
    exact HandSPX.setFlight_upZ fl fun h' held up' => wpAny_throw (on h' held (up.trans up') (no rfl))
  · obtain ⟨rfl, fin⟩ := yes rfl
    refine codeAny_handlers_suite_as (HandSPX.lands_againZ fl fun h5 fl5 up5 => ?_)
    have J5 := inv h5 fl5 (up.trans up5)
    have ⟨_, _, _, oe5, vs5, _, _, _, ge5, ze5, de5, _⟩ := fl5
    have len : i < σ.length := J5.len ▸ (List.getElem?_eq_some_iff.mp hi).1
    refine store_ok (X := X.suite a ((a, oe5) :: (X.pn ++ pins))) (v := .ref a) (J5.suite ge5 de5 na A.own A.up) hN hi (.inl hln) rfl (fun s6 J6 => ?_) (.inr hln)
    have put : PSs (X.suite a ((a, oe5) :: (X.pn ++ pins))) [.Assign [.Name y py] (.Name n pn') sp] (tAsg (tVar i) (gName j)) := pss_one (ps_set hN hj (.inl hly) (pe_var hi (.inl hln) hd hcd) (by rfl) (.inr hly))
    refine wpAny_mono (put.run [] s6 _ H { nx := fun σ' H' => σ' = (σ.set i (some (.ref a))).set j (some (.ref a)) ∧ H' = H, rt := fun _ _ => False, bk := fun _ _ => False, ct := fun _ _ => False } J6 ⟨.ref a, by rw [List.getElem?_set_self len], rfl, rfl⟩) (fun f s7 r => ?_) (fun _ _ z => z.elim)
    rcases f with _ | _ | _ | u
    · obtain ⟨_, _, J7, rfl, rfl⟩ := r
      have ⟨p1, p2, _⟩ := J7.pin (a, oe5) (by simp)
      exact gone_ok (A.track (J7.unsuite J.ok) p2 p1 ze5 de5) hN hi hln fun s8 J8 => ⟨_, _, J8, fin a na⟩
    · obtain ⟨_, _, _, z⟩ := r
      exact z.elim
    · obtain ⟨_, _, _, z⟩ := r
      exact z.elim
    · obtain ⟨_, _, _, _, _, z⟩ := r
      exact z.elim
theorem ps_tryk (hs : X.stack = X.env :: X.outer) (hf : X.env.frame = some X.env.locals) (hex : X.ex = []) (hN : X.N.Nodup) (hi : X.N[i]? = some n) (hj : X.N[j]? = some y) (hln : X.env.kindOf n = some .local) (hly : X.env.kindOf y = some .local) (hc : Names X x c) (tk : Takes X Wout)
    (hb : ∀ (W : WX) (pn : List (Addr × Obj)) (xe : Value → Shared → Prop), Takes (X.tr pn xe) W → PassesOwn (model X.prog X.w) X.A X.env xe → PSs (X.tr pn xe) body (tb W))
    (hd : (n == ("__debug__" : Str)) = false := by decide) (hcd : (n == ("__classdict__" : Str)) = false := by decide) :
    PS X (.Try body [.ExceptHandler (some (.Name x np)) (some n) [.Assign [.Name y py] (.Name n pn') sp] pos'] [] [] pos) (fun D σ H => tb (wK X.K c i j Wout D) D σ H) := by
  constructor
  intro pins s σ H D I h
  have ok := I.ok
  let M := model X.prog X.w
  let toClause : Value → Shared → Prop := fun e s2 => wpAny M X.A (handleBy e X.env [.ExceptHandler (some (.Name x np)) (some n) [.Assign [.Name y py] (.Name n pn') sp] pos']) (SP X pins D) X.xe s2
  let caughtBy : Value → Shared → Prop := fun e s0 => wpAny M X.A (noteFrame e X.env) (fun _ s1 => wpAny M X.A (setFlight e none) (fun _ s2 => toClause e s2) X.xe s1) X.xe s0
  refine wpAny_Try_except (wpAny_mono ((hb (wK X.K c i j Wout D) (X.pn ++ pins) caughtBy (fun u s' caught => ?kk) PassesOwn.looking).run [] s σ H D (I.toTry _) h) (fun f s1 r => ?through) (fun e s1 q => q))
  case kk =>
    obtain ⟨a, G, sI, _, σ', H', cls, d, rfl, J', keep, up, sky, na, os, ag, w⟩ := caught
    have J := J'.ofTry ok
    rw [hs] at keep
    refine Sky.land Zc.steady (by rw [ok.frames, hs]) hf (show Sky G (X.env :: X.outer) a (Zc cls d) X.env.locals s'.heap from hs ▸ sky) fun h3 fl3 up3 => ?_
    have ⟨_, fl0, ff, oe, vs, _, _, _, ge, _, de, _⟩ := fl3
    have off : a ∉ frs (X.env :: X.outer) := fun hm => by
      obtain ⟨_, o, e, z⟩ := ff.mem hm
      cases ge.symm.trans e
      exact z _ de
    have new : sI.heap.get? a = none := by
      rcases q : sI.heap.get? a with _ | o
      · rfl
      · exact absurd ((keep a o q off).symm.trans fl0) (by simp)
    exact clause_run hf hN hi hj hln hly hc hd hcd (Aside.of J hf hex new off) na w (fun h' fl' up' => J.landed (by rw [hs]; exact keep) fl'.1 (up.trans up') os ag) fl3 up3
      fun h' held up' q => tk _ _ ⟨a, G, sI, pins, σ', H', cls, d, rfl, J, by rw [hs]; exact keep, up.trans up', .inr (.inr (by rw [hs]; exact held)), na, os, ag, q⟩
  case through =>
    rcases f with _ | _ | _ | u
    · obtain ⟨σ', H', J, q⟩ := r
      exact wpAny_execs_nil ⟨σ', H', J.ofTry ok, q⟩
    · obtain ⟨σ', H', J, q⟩ := r
      exact ⟨σ', H', J.ofTry ok, q⟩
    · obtain ⟨σ', H', J, q⟩ := r
      exact ⟨σ', H', J.ofTry ok, q⟩
    · obtain ⟨v, σ', H', J, r, q⟩ := r
      exact ⟨v, σ', H', J.ofTry ok, r, q⟩
end
theorem k_tryk (K : PySem.W.Frag) {X : Cx} {x n y : Str} {i j : Nat} {body : List Stmt} {np pos pos' py pn' sp : Pos} {tb : WX → TS} {Wout : WX} (hs : X.stack = X.env :: X.outer) (hf : X.env.frame = some X.env.locals) (hex : X.ex = []) (hN : X.N.Nodup) (hi : X.N[i]? = some n) (hj : X.N[j]? = some y) (hln : X.env.kindOf n = some .local) (hly : X.env.kindOf y = some .local)
    (E : ExcT X.K X.mg x) (hg : Gl X x) (tk : Takes X Wout) (hb : ∀ (W : WX) (pn : List (Addr × Obj)) (xe : Value → Shared → Prop), Takes (X.tr pn xe) W → PassesOwn (model X.prog X.w) X.A X.env xe → PSs (X.tr pn xe) body (tb W))
    (hK : X.K = K := by rfl) (hxd : (x == ("__debug__" : Str)) = false := by decide) (hd : (n == ("__debug__" : Str)) = false := by decide) (hcd : (n == ("__classdict__" : Str)) = false := by decide) :
    PS X (.Try body [.ExceptHandler (some (.Name x np)) (some n) [.Assign [.Name y py] (.Name n pn') sp] pos'] [] [] pos) (fun D σ H => tb (wK K (.ref (He.ga K x)) i j Wout D) D σ H) := by
  subst hK
  exact ps_tryk hs hf hex hN hi hj hln hly (Names.of E hg hxd) tk hb hd hcd
/-- isinstance(e, c), e a refusal kept as a value -/
def rIsX (K : PySem.W.Frag) : List V → Hp → VK → Prop := fun xs H Q => ∃ (a D : Addr) (c : V) (cv : Value) (b : Bool), xs = [.ref a, c] ∧ H a = some (ExK (.ref D) a) ∧ ExcC K D ∧ ClsV c cv ∧ PySem.W.kitOne K (.ref D) cv = some b ∧ Q (.bl b) H
theorem call_isX {X : Cx} : CallR X (.builtin "isinstance") (rIsX X.K) := by
  intro pins s σ H xs us Q I r h
  obtain ⟨a, D, c, cv, b, rfl, ha, C, hcv, e, q⟩ := h
  obtain ⟨u1, u2, rfl, r1, r2⟩ := vals2 r
  cases (show u1 = Value.ref a from r1)
  have ec := hcv.eq r2
  subst ec
  obtain ⟨⟨oe, vs, hget, hz, hv⟩, _, _⟩ := I.hok a _ ha
  have J : PySem.W.InstAt s.heap a oe D none := by
    obtain ⟨oc, od, oda, osl⟩ := oe
    obtain ⟨h1, h2⟩ := hz
    dsimp only at h1 h2 hv
    subst h1 h2 hv
    exact ⟨hget, rfl, rfl, trivial⟩
  exact PySem.W.kia_one (PySem.W.handS_kitx_exc C.hg C.hk C.hs C.hd C.ha C.hn C.ht C.hm) I.kIn J e (fun z => nomatch z) fun tk => ⟨.bl b, H, I.kept (t' := tk) fun _ _ z => z, rfl, q⟩
theorem k_isX {X : Cx} (K : PySem.W.Frag) (h : X.K = K := by rfl) : CallR X (.builtin "isinstance") (rIsX K) := h ▸ call_isX
/-! ### what the head must tell of the classes of refusals -/
structure ExF (K : PySem.W.Frag) (cs ds : List Str) : Prop where
  c : ∀ C ∈ cs, ExcC K (He.ga K C)
  o : ∀ C ∈ cs, ∀ D ∈ ds, PySem.W.kitOne K (.ref (He.ga K C)) (.ref (He.ga K D)) = some (decide (C = D))
  v : ∀ C ∈ cs, PySem.W.kitOne K (.ref (He.ga K C)) (.type "ValueError") = some true
  m : ∀ C ∈ cs, PySem.W.exmOne K (.ref (He.ga K C)) (.ref (He.ga K "SetError")) = some true
def excB (K : PySem.W.Frag) (D : Addr) : Bool :=
  decide (PySem.W.findIn K (.ref D) "__getattribute__" = some (some (.builtin "BaseException.__getattribute__"))) && (decide (PySem.W.findIn K (.ref D) "__getattr__" = some none) && (decide (PySem.W.subIn K (.ref D) (.type "BaseException") = some true) && (PySem.W.hasDictIn K D &&
    (decide (PySem.W.findIn K (.ref D) "__class__" = some (some (.builtin "object.__class__"))) && (decide (PySem.W.specialIn K (.builtin "object.__class__") "__get__" = some (some (.builtin "getset_descriptor.__get__"))) &&
      (decide (PySem.W.takesIn K (.builtin "object.__class__") = some true) && decide (PySem.W.mroIn K D (.type "object") = some true)))))))
theorem excB_ok {K : PySem.W.Frag} {D : Addr} (h : excB K D = true) : ExcC K D := by
  unfold excB at h
  simp only [Bool.and_eq_true, decide_eq_true_eq] at h
  obtain ⟨h1, h2, h3, h4, h5, h6, h7, h8⟩ := h
  exact ⟨h1, h2, h3, h4, h5, h6, h7, h8⟩
def exB (cs ds : List Str) (K : PySem.W.Frag) : Bool := cs.all fun C => excB K (He.ga K C) && ((ds.all fun D => decide (PySem.W.kitOne K (.ref (He.ga K C)) (.ref (He.ga K D)) = some (decide (C = D)))) &&
  (decide (PySem.W.kitOne K (.ref (He.ga K C)) (.type "ValueError") = some true) && decide (PySem.W.exmOne K (.ref (He.ga K C)) (.ref (He.ga K "SetError")) = some true)))
theorem exB_ok {cs ds : List Str} {K : PySem.W.Frag} (h : exB cs ds K = true) : ExF K cs ds := by
  have key : ∀ C ∈ cs, ExcC K (He.ga K C) ∧ (∀ D ∈ ds, PySem.W.kitOne K (.ref (He.ga K C)) (.ref (He.ga K D)) = some (decide (C = D))) ∧ PySem.W.kitOne K (.ref (He.ga K C)) (.type "ValueError") = some true ∧ PySem.W.exmOne K (.ref (He.ga K C)) (.ref (He.ga K "SetError")) = some true := fun C hC => by
    have h1 := List.all_eq_true.mp h C hC
    rw [Bool.and_eq_true, Bool.and_eq_true, Bool.and_eq_true] at h1
    obtain ⟨a, b, c, d⟩ := h1
    exact ⟨excB_ok a, fun D hD => of_decide_eq_true (List.all_eq_true.mp b D hD), of_decide_eq_true c, of_decide_eq_true d⟩
  exact ⟨fun C h => (key C h).1, fun C h => (key C h).2.1, fun C h => (key C h).2.2.1, fun C h => (key C h).2.2.2⟩
def nineC : List Str := ["BadCount", "BadSet", "BadName", "BadNumber", "BadOrder", "BadTable", "Unlike", "NoCover", "NothingDone"]
def nineW : List Str := ["count", "set", "name", "number", "order", "table", "unlike", "cover", "nothing", "value"]
/-- the names of a refusal -/
def kindV (C : Str) : List V := given 10 (fun k => (nineC.map (fun D => decide (C = D)) ++ [true]).getD k false) (fun k => .str (nineW.getD k Str.empty))
theorem isx_go {K : PySem.W.Frag} {C D : Str} {a : Addr} {H : Hp} {Q : VK} (F : ExF K nineC nineC) (hC : C ∈ nineC) (ha : H a = some (ExK (.ref (He.ga K C)) a)) (hD : D ∈ nineC) (q : Q (.bl (decide (C = D))) H) : rIsX K [.ref a, .ref (He.ga K D)] H Q :=
  ⟨a, He.ga K C, .ref (He.ga K D), .ref (He.ga K D), decide (C = D), rfl, ha, F.c C hC, .own _, F.o C hC D hD, q⟩
theorem isx_ve {K : PySem.W.Frag} {C : Str} {a : Addr} {H : Hp} {Q : VK} (F : ExF K nineC nineC) (hC : C ∈ nineC) (ha : H a = some (ExK (.ref (He.ga K C)) a)) (q : Q (.bl true) H) : rIsX K [.ref a, .ty "ValueError"] H Q :=
  ⟨a, He.ga K C, .ty "ValueError", .type "ValueError", true, rfl, ha, F.c C hC, .ty _, F.v C hC, q⟩
/-- a refusal that is caught -/
theorem we_go {K : PySem.W.Frag} {C : Str} {i j : Nat} {Wout : WX} {D : Ends} {σ : L2.St} {H : Hp} (F : ExF K nineC nineC) (hC : C ∈ nineC) (q : ∀ a, H a = none → D.nx (((σ.set i (some (.ref a))).set j (some (.ref a))).set i none) (upd H a (ExK (.ref (He.ga K C)) a))) :
    WE (wK K (.ref (He.ga K "SetError")) i j Wout D) σ (.ref (He.ga K C)) none H := ⟨true, F.m C hC, fun _ => ⟨rfl, q⟩, fun z => nomatch z⟩
/-- the names of a refusal are these two -/
theorem kind_ok {K : PySem.W.Frag} {C s1 s2 : Str} {H : Hp} {w : Addr} {Q : VK} (hs : kindV C = [.str s1, .str s2]) (ok : [s1, s2].all PyData.strOk = true) (hw : H w = some (.lst (kindV C))) (q : ∀ H', Ex H H' → Q (.bl false) H') :
    [V.str s1, .str s2].length ≤ sizeLine ∧ ∀ p, H p = none → rNeD K (.ref w) (.ref p) (upd H p (.lst [V.str s1, .str s2])) Q := by
  refine ⟨sz_of (by simp), fun p np => ?_⟩
  have e := Ex.new (o := HO.lst [V.str s1, .str s2]) np
  have h := e _ _ hw
  rw [hs] at h
  refine ⟨.list ([s1, s2].map PyData.str), .list ([s1, s2].map PyData.str), .lst (.inl (.inl h)) (.cons (.str s1) (.cons (.str s2) .nil)), .lst (.inl (.inl upd_same)) (.cons (.str s1) (.cons (.str s2) .nil)), ?_, ?_, ?_⟩
  · simp only [List.all_cons, List.all_nil, Bool.and_true, Bool.and_eq_true] at ok
    simp [SeqAt.shaped, PyData.canLay0, PyData.canLayAll0, PyData.depth, PyData.depthAll, ok.1, ok.2]
  · simp only [List.all_cons, List.all_nil, Bool.and_true, Bool.and_eq_true] at ok
    simp [SeqAt.shaped, PyData.canLay0, PyData.canLayAll0, PyData.depth, PyData.depthAll, ok.1, ok.2]
  · have eq : PyData.eqv (.list ([s1, s2].map PyData.str)) (.list ([s1, s2].map PyData.str)) = true := by simp [PyData.eqv, PyData.eqvAll]
    rw [eq]
    exact q _ e
/-- .. asked by == -/
theorem kind_eq {K : PySem.W.Frag} {C s1 s2 : Str} {H : Hp} {w : Addr} {Q : VK} (hs : kindV C = [.str s1, .str s2]) (ok : [s1, s2].all PyData.strOk = true) (hw : H w = some (.lst (kindV C))) (q : ∀ H', Ex H H' → Q (.bl true) H') :
    [V.str s1, .str s2].length ≤ sizeLine ∧ ∀ p, H p = none → rEqD K (.ref w) (.ref p) (upd H p (.lst [V.str s1, .str s2])) Q := by
  refine ⟨sz_of (by simp), fun p np => ?_⟩
  have e := Ex.new (o := HO.lst [V.str s1, .str s2]) np
  have h := e _ _ hw
  rw [hs] at h
  refine ⟨.list ([s1, s2].map PyData.str), .list ([s1, s2].map PyData.str), .lst (.inl (.inl h)) (.cons (.str s1) (.cons (.str s2) .nil)), .lst (.inl (.inl upd_same)) (.cons (.str s1) (.cons (.str s2) .nil)), ?_, ?_, ?_⟩
  · simp only [List.all_cons, List.all_nil, Bool.and_true, Bool.and_eq_true] at ok
    simp [SeqAt.shaped, PyData.canLay0, PyData.canLayAll0, PyData.depth, PyData.depthAll, ok.1, ok.2]
  · simp only [List.all_cons, List.all_nil, Bool.and_true, Bool.and_eq_true] at ok
    simp [SeqAt.shaped, PyData.canLay0, PyData.canLayAll0, PyData.depth, PyData.depthAll, ok.1, ok.2]
  · have eq : PyData.eqv (.list ([s1, s2].map PyData.str)) (.list ([s1, s2].map PyData.str)) = true := by simp [PyData.eqv, PyData.eqvAll]
    rw [eq]
    exact q _ e
/-- the head's facts, and one more -/
def hookE (n : Nat) (fa : List He.Fa) (fn : List He.DefD) (ex : PySem.W.Frag → Bool) : PySem.W.Hook where
  α := He.AlD × Bool
  obs := fun s => (He.obsD fa fn (He.frG s.heap.get? (He.asD s.heap.get? n)), ex (He.frG s.heap.get? (He.asD s.heap.get? n)))
  val := fun _ => (He.valD fn, true)
  says := fun _ h => ∃ K : PySem.W.Frag, K.In h ∧ He.SaysD fa fn K ∧ ex K = true
  of := fun _ _ e => ⟨_, He.frG_in, congrArg (fun z : He.AlD × Bool => z.1) e, congrArg (fun z : He.AlD × Bool => z.2) e⟩
  keeps := fun _ _ _ ⟨K, hK, c⟩ k => ⟨K, PySem.W.Frag.In.keeps hK k, c⟩
def obsEG (n : Nat) (fa : List He.Fa) (fn : List He.DefD) (ex : PySem.W.Frag → Bool) (g : Addr → Option Obj) : He.AlD × Bool := (He.obsD fa fn (He.frG g (He.asD g n)), ex (He.frG g (He.asD g n)))
theorem obsEG_eq {n : Nat} {fa : List He.Fa} {fn : List He.DefD} {ex : PySem.W.Frag → Bool} {g : Addr → Option Obj} {s : Shared} (h : ∀ a, g a = s.heap.get? a) : obsEG n fa fn ex g = (hookE n fa fn ex).obs s := by
  rw [show g = s.heap.get? from funext h] <;> rfl
end SS

/-! a long body, some statements at a time: the rest under a name -/
namespace SS
open PySem PySem.Spec PyProof.Rows L2 Evl
section
variable {a b c d e f r : TS} {D : Ends} {σ : L2.St} {H : Hp}
theorem seq_cut1 (h : ∀ R, R = r → tSeq a R D σ H) : tSeq a r D σ H := h _ rfl
theorem seq_cut2 (h : ∀ R, R = r → tSeq a (tSeq b R) D σ H) : tSeq a (tSeq b r) D σ H := h _ rfl
theorem seq_cut3 (h : ∀ R, R = r → tSeq a (tSeq b (tSeq c R)) D σ H) : tSeq a (tSeq b (tSeq c r)) D σ H := h _ rfl
theorem seq_cut4 (h : ∀ R, R = r → tSeq a (tSeq b (tSeq c (tSeq d R))) D σ H) : tSeq a (tSeq b (tSeq c (tSeq d r))) D σ H := h _ rfl
theorem seq_cut5 (h : ∀ R, R = r → tSeq a (tSeq b (tSeq c (tSeq d (tSeq e R)))) D σ H) : tSeq a (tSeq b (tSeq c (tSeq d (tSeq e r)))) D σ H := h _ rfl
theorem seq_cut6 (h : ∀ R, R = r → tSeq a (tSeq b (tSeq c (tSeq d (tSeq e (tSeq f R))))) D σ H) : tSeq a (tSeq b (tSeq c (tSeq d (tSeq e (tSeq f r))))) D σ H := h _ rfl
end
end SS

/-! set(a list of numbers), sorted(a set of numbers), any number of them -/
namespace SS
open PySem PySem.Spec PyProof.Rows L2 Evl
section
variable {P : Program} {w : World} {A : Around} {E : Value → Shared → Prop} {s : Shared}
/-- an empty set, new -/
abbrev noSet (w : World) : Obj := { cls := .type "set", dict := none, data := .set #[] 0 (.fresh 0 0 (!w.params.followText "set-order")) }
theorem set_of_list {l : Addr} {vs : Array Value} (ns : List Int) {Q : Value → Shared → Prop} (calm : A.handled = none) (isl : s.heap.IsList l vs) (hin : IntsAre vs.toList ns) (few : ns.length + 1 < scanBound)
    (fin : ∀ (h' : Heap) (tk c : Nat), SetR w h' s.heap.objs.size (fun j => decide (j ∈ ns)) c → c ≤ ns.length → (∀ b o, s.heap.get? b = some o → h'.get? b = some o) → Q (.ref s.heap.objs.size) { s with heap := h', toks := tk }) :
    wpAny (model P w) A (call (.type "set") [.ref l]) Q E s := by
  have vsz : vs.size = ns.length := by rw [← IntsAre.length hin, Array.length_toList]
  have ⟨c0, tl0, mro0⟩ := F.called_set.mro
  have made0 := F.called_set.made
  have sub0 := F.called_set.sub
  apply wpAny_call
  apply codeAny_of_tree
  show wpAny _ _ (callAny (.type "set") _) _ _ _
  refine wpAny_pure ⟨Code.quiet_builtin _ (by decide +kernel), ?_⟩
  refine codeAny_builtin F.entry_type_call ?_
  rw [Around.under_plain (weight_type_call_type "set" [Value.ref l] []) rfl]
  have notT := F.called_set.notType
  have canC := F.called_set.canCreate
  have tcall := F.typeCall_set_1 (Value.ref l)
  repeat any_goals first | assumption | wp_step
  refine codeAny_mono (code_set_led1 (.ref l) (E := E) (Q₁ := fun u s₁ => u = .ref s.heap.objs.size ∧ s₁ = { s with heap := s.heap.push (noSet w) }) ⟨rfl, rfl⟩) fun r s₁ done => ?_
  rcases r with e | fl
  · exact done
  rcases fl with _ | _ | _ | obj
  · exact done.elim
  · exact done.elim
  · exact done.elim
  obtain ⟨rfl, rfl⟩ := done
  have gS : (s.heap.push (noSet w)).get? s.heap.objs.size = some (noSet w) := Heap.get?_push_size _ rfl
  have tyS : Shared.TypeIs { s with heap := s.heap.push (noSet w) } (.ref s.heap.objs.size) "set" := ⟨_, gS, rfl⟩
  have look0 := F.called_set.init.lookup
  have bind0 := F.called_set.init.bind (Value.ref s.heap.objs.size)
  repeat any_goals first | assumption | wp_step
  refine codeAny_mono (codeAny_call_builtin (R := wants (fun u s₂ => u = .none ∧ ∃ h' tk c, s₂ = { s with heap := h', toks := tk } ∧ SetR w h' s.heap.objs.size (fun j => decide (j ∈ ns)) c ∧ c ≤ ns.length ∧
    (∀ b o, s.heap.get? b = some o → h'.get? b = some o)) E) F.called_set.init.plain F.entry_set_init (check_set_init_1 tyS ?run)) fun r₂ s₂ done₂ => ?rest
  case run =>
    obtain ⟨⟨cl, dt, da, sl⟩, gl, ecl, kl, eda⟩ := isl
    dsimp only at ecl eda
    subst ecl eda
    have gl' : (s.heap.push (noSet w)).get? l = some { cls := .type "list", dict := dt, data := .seq vs kl, slots := sl } := Heap.get?_push_of_some _ gl
    have sub1 := F.sub_list_set
    have sub2 := F.sub_list_frozenset
    have noD : (Value.type "list" == Value.type "dict") = false := by decide
    have isl1 : (s.heap.push (noSet w)).IsList l vs := ⟨_, gl', rfl, kl, rfl⟩
    unfold Builtin.«set.__init__» noKeywords Builtin.Frozenset.updateFrom
    generalize hIter : pyIter = iterOf
    wp_walk
    subst hIter
    apply wpAny_pyIter_list isl1
    apply wpAny_bind
    apply wpAny_runValue
    have ltl : l < s.heap.objs.size := Heap.lt_size gl
    have calm3 : A.in1.in1.in1.handled = none := by simp [calm]
    have z1 : (s.heap.push (noSet w)).objs.size = s.heap.objs.size + 1 := Heap.size_push ..
    have neI : l ≠ (s.heap.push (noSet w)).objs.size := by rw [z1]; exact Nat.ne_of_lt (Nat.lt_succ_of_lt ltl)
    have offS : s.heap.objs.size ∉ [(s.heap.push (noSet w)).objs.size, l] := by
      rw [z1]
      simp only [List.mem_cons, List.not_mem_nil, or_false, not_or]
      exact ⟨Nat.ne_of_lt (Nat.lt_succ_self _), Nat.ne_of_gt ltl⟩
    have item : ∀ (i : Nat) (v : Value), vs[i]? = some v → ∃ k t, ns[i]? = some k ∧ v = .int k t := fun i v hv => by
      obtain ⟨hi, _⟩ := Array.getElem?_eq_some_iff.mp hv
      rw [vsz] at hi
      obtain ⟨t, e⟩ := IntsAre.int_at hin i v (by rw [Array.getElem?_toList, hv])
      refine ⟨ns[i], t, by simp [hi], ?_⟩
      rw [e, List.getD_eq_getElem?_getD, List.getElem?_eq_getElem hi]
      rfl
    refine set_update_ints ((Walks.list calm3 _ l neI vs).toS) s.heap.objs.size offS ns vsz few item (vs.size - 0) 0 _ (by omega) (Nat.zero_le _) ⟨⟨_, Heap.get?_push_size _ rfl, rfl, rfl⟩, isl1.push _⟩ ⟨0, Nat.le_refl 0, setR_new_at (Heap.get?_push_of_some _ gS)⟩ fun s' c' mv le' R' => ?_
    obtain ⟨h', gg, dd, tk', oo⟩ := s'
    cases (show gg = s.gens from mv.gens)
    cases (show dd = s.drawn from mv.drawn)
    cases (show oo = s.os from mv.os)
    show wpAny _ _ _ _ _ _
    apply wpAny_pure
    show wpAny _ _ (ret Value.none) _ _ _
    rw [vsz] at le'
    refine wpAny_pure ⟨rfl, h', tk', c', rfl, R', le', fun b o e => ?_⟩
    have lb : b < s.heap.objs.size := Heap.lt_size e
    refine mv.heap b o ?_ (Heap.get?_push_of_some _ (Heap.get?_push_of_some _ e))
    rw [z1]
    simp only [List.mem_cons, List.not_mem_nil, or_false, not_or]
    exact ⟨Nat.ne_of_lt lb, Nat.ne_of_lt (Nat.lt_succ_of_lt lb)⟩
  case rest =>
    rcases r₂ with e | fl
    · exact done₂
    rcases fl with _ | _ | _ | u
    · exact done₂.elim
    · exact done₂.elim
    · exact done₂.elim
    obtain ⟨rfl, h', tk, c, rfl, R', le', kept⟩ := done₂
    repeat any_goals first | assumption | wp_step
    exact fin _ _ _ R' le' kept
/-- sorted of a set of numbers, any number of them -/
theorem sorted_of_set {a : Addr} {S : Int → Bool} {n : Nat} {Q : Value → Shared → Prop} (R : SetR w s.heap a S n) (calm : A.handled = none)
    (fin : ∀ s' p (out : List Value) (c : Nat) (ns : List Int), (∀ b o, s.heap.get? b = some o → s'.heap.get? b = some o) → s'.gens = s.gens → s'.os = s.os → s.heap.objs.size ≤ p →
      s'.heap.get? p = some (seqObj "list" out.toArray c) → IntsAre out ns → ns.Pairwise (· ≤ ·) → ns.Nodup → (∀ k, k ∈ ns ↔ S k = true) → ns.length ≤ sizeLine → Q (.ref p) s') :
    wpAny (model P w) A (call (.builtin "sorted") [.ref a]) Q E s := by
  obtain ⟨o, es, ep, t, ho, hex, hd, good, nd, mem, few, fit, hn, ris, led⟩ := R
  refine Calls.call_function_entry kind_sorted plain_sorted entry_sorted (args_sorted1 _) ?_
  unfold Builtin.«sorted»
  refine wpAny_bind (m := checkCount "sorted" 1 1 _) (wpAny_pure ?_)
  refine wpAny_bind (collect_set (A := A.in1) calm ⟨o, ho, hex.1, hd⟩ fit few ris led fun s1 vs k1 z1 g1 o1 pm => ?_)
  have vl : vs.length = n := by rw [pm.length_eq, List.length_map, Array.length_toList]; exact hn
  have hI : IntsAre vs (vs.map Builtin.Re.reRawOf) := ints_of vs fun v hv => by
    obtain ⟨x, hx, rfl⟩ := List.mem_map.mp (pm.mem_iff.mp hv)
    obtain ⟨k, tk, e1, _⟩ := good x hx
    exact ⟨k, tk, e1⟩
  have keys : (vs.map Builtin.Re.reRawOf).Perm (es.toList.map keyOf) := by
    have z := pm.map Builtin.Re.reRawOf
    rwa [List.map_map] at z
  have room : vs.length ≤ sizeLine := by
    rw [vl, ← hn, sizeLine_eq]
    have : es.size < 4096 := few
    omega
  refine wpAny_bind (wpAny_newList ?_ room)
  have gL : (s1.heap.push (seqObj "list" vs.toArray 0)).get? s1.heap.objs.size = some (seqObj "list" vs.toArray 0) := Heap.get?_push_size _ rfl
  refine wpAny_bind (wpAny_holding (wpAny_call_entry slot_list_sort ⟨_, gL, rfl⟩ entry_list_sort (SrtO.list_sort_ord SrtO.swo_int gL room (fun h2 => SrtO.ints_sortable hI h2) fun out srt stb => ⟨_, rfl, ?_⟩) (args_list_sort _)))
  obtain ⟨i1, i2, i3⟩ := SrtO.ints_out hI srt stb
  obtain ⟨c, gc⟩ := sortedHeap_at (vs := vs) (out := out.toArray) gL
  have pk := i2.trans keys
  refine wpAny_pure ⟨_, rfl, fin _ s1.heap.objs.size out c (out.map SrtO.iv) (fun b u e => ?_) g1 o1 z1 gc i1 i3 (pk.nodup_iff.mpr nd) (fun k => by rw [pk.mem_iff, ← mem k]) ?_⟩
  · have e1 := k1 b u e
    have lb := Heap.lt_size e1
    show (sortedHeap (s1.heap.push (seqObj "list" vs.toArray 0)) s1.heap.objs.size vs out.toArray).get? b = some u
    rw [sortedHeap_old (Nat.ne_of_lt lb) (by rw [size_push']; exact Nat.lt_succ_of_lt lb)]
    exact Heap.get?_push_of_some _ e1
  · rw [i2.length_eq, List.length_map]
    exact room
end
/-- set(xs) -/
def rSetOf (K : PySem.W.Frag) (w : World) : List V → Hp → VK → Prop := fun xs H Q => ∃ (p : Addr) (ns : List Int), xs = [.ref p] ∧ SqL K H p (ns.map V.int) ∧ ns.length ≤ 4000 ∧ ∀ a c, H a = none → Q (.ref a) (upd H a (SetO w a (fun j => decide (j ∈ ns)) c))
theorem k_setOf {X : Cx} (K : PySem.W.Frag) (w : World) (hc : X.calm = true) (hK : X.K = K := by rfl) (hw : X.w = w := by rfl) : CallR X (.type "set") (rSetOf K w) := by
  subst hK hw
  intro pins s σ H xs us Q I r h
  obtain ⟨p, ns, rfl, hs, hz, q⟩ := h
  obtain ⟨its, rv, hl, _⟩ := I.list hs
  rw [Vals.ref1 r]
  have hi := rv.ints
  refine set_of_list ns (I.ok.hd hc) hl.isList (by simpa using hi) (by show ns.length + 1 < 4096; omega) fun h' tk c R le k => ?_
  exact ⟨.ref _, upd H s.heap.objs.size (SetO X.w s.heap.objs.size (fun j => decide (j ∈ ns)) c), I.laid (t' := tk) k (Nat.le_refl _) (setO_new R), rfl, q _ c (I.hok.fresh (Nat.le_refl _))⟩
/-- sorted(a set) -/
def rSortOf (w : World) : List V → Hp → VK → Prop := fun vs H Q => ∃ (a : Addr) (S : Int → Bool) (n : Nat), vs = [V.ref a] ∧ H a = some (SetO w a S n) ∧
  ∀ (ns : List Int) (p : Addr), ns.Pairwise (· ≤ ·) → ns.Nodup → (∀ k : Int, k ∈ ns ↔ S k = true) → H p = none → Q (.ref p) (upd H p (.lst (ns.map V.int)))
theorem k_sortOf {X : Cx} (w : World) (hc : X.calm = true) (hw : X.w = w := by rfl) : CallR X (.builtin "sorted") (rSortOf w) := by
  subst hw
  intro pins s σ H vs us Q I r h
  obtain ⟨a, S, n, rfl, ha, q⟩ := h
  rw [Vals.ref1 r]
  refine sorted_of_set (setO_get I ha) (I.ok.hd hc) fun s' p out c ns k g o hp hg hi hs hd hm hl => ?_
  have fresh : H p = none := I.hok.fresh hp
  have J : L2.Inv X pins σ (upd H p (.lst (ns.map V.int))) { s with heap := s'.heap, gens := s'.gens, drawn := s'.drawn, toks := s'.toks } :=
    I.call (ch := []) (Un.laid k hp fresh) (I.hok.laid k hp ⟨by rw [List.length_map]; exact hl, out, c, vals_of_ints hi, hg⟩) (by rw [g]; exact I.bare) (fun _ z => nomatch z)
  obtain ⟨s1, s2, s3, s4, s5⟩ := s'
  cases (show s5 = s.os from o)
  exact ⟨.ref p, _, J, rfl, q ns p hs hd hm fresh⟩
end SS

/-! comprehensions and loops: what they evaluate to -/
namespace SS
open PySem PySem.Spec PyProof.Rows L2 Evl

theorem ty_lst {K : PySem.W.Frag} {H : Hp} {a : Addr} {xs : List V} (h : SqL K H a xs) : tyV K "list" (.ref a) H := .inl ⟨rfl, _, h⟩
theorem cmu_w {i j : Int} {n m : Nat} (hi : i.natAbs < 2 ^ n) (hj : j.natAbs < 2 ^ m) (h0 : 0 < n) (h1 : 0 < m) (h : n + m ≤ 1000000) : CMu i j := .inr (wide_mul hi hj h0 h1 h)
theorem cmu_l {i j : Int} (h : -(2 ^ 64) < i ∧ i < 2 ^ 64) : CMu i j := .inl (.inl h)
theorem cmu_r {i j : Int} (h : -(2 ^ 64) < j ∧ j < 2 ^ 64) : CMu i j := .inl (.inr h)
theorem cpow1 {i : Nat} (h : i ≤ 1000000) : CPow 1 (i : Int) := ⟨by omega, by omega, by decide⟩
/-! ### lists by places -/
theorem range_get {α : Type} (xs : List α) (d : α) : (List.range xs.length).map (fun i => xs.getD i d) = xs := by
  apply List.ext_getElem
  · simp
  · intro i h1 h2
    simp [List.getD_eq_getElem?_getD, h2]
theorem given_list {α : Type} (xs : List α) (d : α) (f : α → Bool) (g : α → V) : given xs.length (fun i => f (xs.getD i d)) (fun i => g (xs.getD i d)) = (xs.filter f).map g := by
  unfold given
  conv => rhs; rw [← range_get xs d]
  rw [List.filter_map, List.map_map]
  rfl
theorem getD_of {α : Type} {xs : List α} {i : Nat} {x : α} (d : α) (h : xs[i]? = some x) : xs.getD i d = x := by
  rw [List.getD_eq_getElem?_getD, h] <;> rfl

section
variable {K : PySem.W.Frag} {σ : L2.St} {H H' : Hp} {ta te tl : TE} {t : TT}
/-- [g x for x in xs if f x], values -/
theorem lc_vals {a : Addr} {xs : List V} {j : Nat} {vs : List Nat} (f : V → Bool) (g : V → V) (h : Ev tl σ H (.ref a)) (hx : SqL K H a xs) (hz : xs.length ≤ 40000) (hw : ∀ x, wipe ((wipe σ vs).set j (some x)) vs = wipe σ vs)
    (ht : ∀ x, x ∈ xs → ∀ H1, Ex H H1 → EvT t ((wipe σ vs).set j (some x)) H1 (f x)) (he : ∀ x, x ∈ xs → ∀ H1, Ex H H1 → f x = true → Ev te ((wipe σ vs).set j (some x)) H1 (g x)) :
    EvL (tLc (iList K tl) (gName j) t te vs) σ H ((xs.filter f).map g) := by
  rw [← given_list xs .non f g]
  refine el_lcL _ _ h hx hz hw (fun i x H1 e hi => ?_) (fun i x H1 e hi hf => ?_)
  · rw [getD_of .non hi]
    exact ht x (List.mem_of_getElem? hi) H1 e
  · rw [getD_of .non hi] at hf ⊢
    exact he x (List.mem_of_getElem? hi) H1 e hf
theorem get_ints {ns : List Int} {i : Nat} {x : V} (h : (ns.map V.int)[i]? = some x) : ∃ n, ns[i]? = some n ∧ x = .int n := by
  rw [List.getElem?_map] at h
  cases e : ns[i]? with
  | none => rw [e] at h; cases h
  | some n => rw [e] at h; exact ⟨n, rfl, (Option.some.inj h).symm⟩
/-- .. over a list of ints -/
theorem lc_ints {a : Addr} {ns : List Int} {j : Nat} {vs : List Nat} (f : Int → Bool) (g : Int → V) (h : Ev tl σ H (.ref a)) (hx : SqL K H a (ns.map V.int)) (hz : ns.length ≤ 40000) (hw : ∀ x, wipe ((wipe σ vs).set j (some x)) vs = wipe σ vs)
    (ht : ∀ n, n ∈ ns → ∀ H1, Ex H H1 → EvT t ((wipe σ vs).set j (some (.int n))) H1 (f n)) (he : ∀ n, n ∈ ns → ∀ H1, Ex H H1 → f n = true → Ev te ((wipe σ vs).set j (some (.int n))) H1 (g n)) :
    EvL (tLc (iList K tl) (gName j) t te vs) σ H ((ns.filter f).map g) := by
  rw [← given_list ns 0 f g]
  have hl : (ns.map V.int).length = ns.length := List.length_map _
  rw [← hl]
  refine el_lcL _ _ h hx (by rw [hl]; exact hz) hw (fun i x H1 e hi => ?_) (fun i x H1 e hi hf => ?_)
  · obtain ⟨n, hn, rfl⟩ := get_ints hi
    rw [getD_of 0 hn]
    exact ht n (List.mem_of_getElem? hn) H1 e
  · obtain ⟨n, hn, rfl⟩ := get_ints hi
    rw [getD_of 0 hn] at hf ⊢
    exact he n (List.mem_of_getElem? hn) H1 e hf
theorem yes_ev : EvT tYes σ H true := fun H1 _ Q q => q H1 (Ex.refl H1)
/-- any iterator, what is gathered by places -/
theorem cw_step {J : It} {g : TG} {n : Nat} {vs : List Nat} {f : Nat → Bool} {v : Nat → V} {Q : VK} (hgo : ∀ i H1, Ex H H1 → i < n → J.go i H1) (hst : ∀ H1, Ex H H1 → J.stop n H1) (hz : n ≤ 40000)
    (hy : ∀ i x H1 H2, i < n → Ex H H1 → J.yld i H1 x H2 → Ex H1 H2 ∧ ∀ Dl, H Dl = none → H1 Dl ≠ none → H2 Dl = H1 Dl ∧ ∀ R : L2.St → Hp → Prop, (∀ σ2, wipe σ2 vs = wipe σ vs → EvT t σ2 H (f i) → (f i = true → Ev te σ2 H (v i)) → R σ2 H2) → g x (wipe σ vs) H2 R)
    (q : ∀ p H2, H p = none → Ex H H2 → H2 p = some (.lst (given n f v)) → Q (.ref p) H2) (Dl : Addr) (hD : H Dl = none) :
    ∃ W : Nat → Nat → Hp → Prop, (∃ m, W 0 m (upd H Dl (.lst []))) ∧ ∀ i m H, W i m H →
      (J.stop i H ∧ Q (.ref Dl) H) ∨ (J.go i H ∧ ∃ Nx : Hp → Prop, (∀ H', Nx H' → ∃ m', m' < m ∧ W (i + 1) m' H') ∧ ∀ x H', J.yld i H x H' → g x (wipe σ vs) H' fun σ2 H2 => wipe σ2 vs = wipe σ vs ∧ t σ2 H2 fun b H3 =>
        if b = true then te σ2 H3 fun y H4 => ∃ acc, H4 Dl = some (.lst acc) ∧ acc.length < sizeLine ∧ Nx (upd H4 Dl (.lst (acc ++ [y]))) else Nx H3) := by
  refine ⟨fun i m H' => m = n - i ∧ i ≤ n ∧ Cw H f v Dl i H', ⟨n, by simp, Nat.zero_le _, hD, Ex.new hD, upd_same⟩, ?_⟩
  rintro i m H1 ⟨rfl, hi, c⟩
  by_cases hlt : i < n
  · refine .inr ⟨hgo i H1 c.2.1 hlt, fun H' => Cw H f v Dl (i + 1) H', fun H' c' => ⟨n - (i + 1), by omega, rfl, hlt, c'⟩, fun x H2 y => ?_⟩
    obtain ⟨e12, hh⟩ := hy i x H1 H2 hlt c.2.1 y
    obtain ⟨eD, hR⟩ := hh Dl hD (by rw [c.2.2]; exact fun z => nomatch z)
    refine hR _ fun σ2 hw ht he => ⟨hw, ?_⟩
    have c2 : Cw H f v Dl i H2 := ⟨hD, c.2.1.trans e12, by rw [eD]; exact c.2.2⟩
    exact cw_turn c2 (by omega) ht he
  · have e : i = n := by omega
    subst e
    exact .inl ⟨hst H1 c.2.1, q Dl H1 c.1 c.2.1 c.2.2⟩
/-- a pair's two names -/
theorem pair_tgt {K : PySem.W.Frag} {T : Addr} {x y : V} {i j : Nat} {σ : L2.St} {H1 : Hp} {R : L2.St → Hp → Prop} (h : R ((σ.set i (some x)).set j (some y)) (upd H1 T (.tup [x, y]))) :
    gTup K 2 (gCons (gName i) (gCons (gName j) gNil)) (.ref T) σ (upd H1 T (.tup [x, y])) R :=
  ⟨T, [x, y], rfl, .inl (.inl upd_same), rfl, x, [y], rfl, y, [], rfl, rfl, h⟩
/-- [.. for i, x in enumerate(xs) if ..] -/
theorem lc_enum {ta : TA} {a : Addr} {xs : List V} {i j : Nat} {vs : List Nat} (f : Nat → Bool) (v : Nat → V) (h : EvA ta σ H [.ref a]) (hx : SqL K H a xs) (hz : xs.length ≤ 40000) (hw : ∀ x y, wipe (((wipe σ vs).set i (some x)).set j (some y)) vs = wipe σ vs)
    (ht : ∀ (k : Nat) (x : V) H1, Ex H H1 → xs[k]? = some x → EvT t (((wipe σ vs).set i (some (.int (k : Nat)))).set j (some x)) H1 (f k)) (he : ∀ (k : Nat) (x : V) H1, Ex H H1 → xs[k]? = some x → f k = true → Ev te (((wipe σ vs).set i (some (.int (k : Nat)))).set j (some x)) H1 (v k)) :
    EvL (tLc (iEnum K ta) (gTup K 2 (gCons (gName i) (gCons (gName j) gNil))) t te vs) σ H (given xs.length f v) := fun H0 e0 Q q => h H0 e0 _ fun H1 e1 => ⟨a, xs, rfl, ex_l (e0.trans e1) hx, fun Dl hD =>
  cw_step (J := Ite K a) (n := xs.length) (f := f) (v := v) (t := t) (te := te) (fun k H2 e2 hk => ⟨xs, xs[k], ex_l ((e0.trans e1).trans e2) hx, by simp [hk]⟩) (fun H2 e2 => ⟨xs, ex_l ((e0.trans e1).trans e2) hx, Nat.le_refl _⟩) hz
    (fun k x H2 H3 hk e2 y => by
      obtain ⟨T, z, rfl, nT, rfl, hh⟩ := y
      have hz2 := hh xs (ex_l ((e0.trans e1).trans e2) hx)
      refine ⟨Ex.new nT, fun Dl hD hn => ⟨upd_ne (fun z => hn (by rw [z]; exact nT)), fun R hR => pair_tgt (hR _ (hw _ _) (ht k z H1 (e0.trans e1) hz2) (he k z H1 (e0.trans e1) hz2))⟩⟩)
    (fun p H2 hp e2 hl => q p H2 (fresh_back e1 hp) (e1.trans e2) hl) Dl hD⟩
/-- [.. for x, y in zip(xs, ys) if ..], lists of one length -/
theorem lc_zip {ta : TA} {a b : Addr} {xs ys : List V} {i j : Nat} {vs : List Nat} (f : Nat → Bool) (v : Nat → V) (h : EvA ta σ H [.ref a, .ref b]) (hx : SqL K H a xs) (hyy : SqL K H b ys) (hl : xs.length = ys.length) (hz : xs.length ≤ 40000) (hw : ∀ x y, wipe (((wipe σ vs).set i (some x)).set j (some y)) vs = wipe σ vs)
    (ht : ∀ (k : Nat) (x y : V) H1, Ex H H1 → xs[k]? = some x → ys[k]? = some y → EvT t (((wipe σ vs).set i (some x)).set j (some y)) H1 (f k)) (he : ∀ (k : Nat) (x y : V) H1, Ex H H1 → xs[k]? = some x → ys[k]? = some y → f k = true → Ev te (((wipe σ vs).set i (some x)).set j (some y)) H1 (v k)) :
    EvL (tLc (iZip K ta) (gTup K 2 (gCons (gName i) (gCons (gName j) gNil))) t te vs) σ H (given xs.length f v) := fun H0 e0 Q q => h H0 e0 _ fun H1 e1 => ⟨a, b, xs, ys, rfl, ex_l (e0.trans e1) hx, ex_l (e0.trans e1) hyy, fun Dl hD =>
  cw_step (J := Itz K a b) (n := xs.length) (f := f) (v := v) (t := t) (te := te) (fun k H2 e2 hk => ⟨xs, ys, xs[k], ys[k], ex_l ((e0.trans e1).trans e2) hx, ex_l ((e0.trans e1).trans e2) hyy, by simp [hk], by simp [hl ▸ hk]⟩) (fun H2 e2 => ⟨xs, ys, ex_l ((e0.trans e1).trans e2) hx, ex_l ((e0.trans e1).trans e2) hyy, .inl (Nat.le_refl _)⟩) hz
    (fun k x H2 H3 hk e2 y => by
      obtain ⟨T, z, u, rfl, nT, rfl, h1, h2⟩ := y
      have hz1 := h1 xs (ex_l ((e0.trans e1).trans e2) hx)
      have hz2 := h2 ys (ex_l ((e0.trans e1).trans e2) hyy)
      refine ⟨Ex.new nT, fun Dl hD hn => ⟨upd_ne (fun z => hn (by rw [z]; exact nT)), fun R hR => pair_tgt (hR _ (hw _ _) (ht k z u H1 (e0.trans e1) hz1 hz2) (he k z u H1 (e0.trans e1) hz1 hz2))⟩⟩)
    (fun p H2 hp e2 hl => q p H2 (fresh_back e1 hp) (e1.trans e2) hl) Dl hD⟩
end

/-! ### lists of lists of ints -/
/-- the items of xs are lists that hold rows -/
def Rows (K : PySem.W.Frag) (H : Hp) (xs : List V) (rows : List (List Int)) : Prop := Paired (fun (x : V) (ns : List Int) => ∃ a, x = .ref a ∧ SqL K H a (ns.map V.int)) xs rows
theorem Rows.mono {K : PySem.W.Frag} {H H' : Hp} (e : Ex H H') : ∀ {xs : List V} {rows : List (List Int)}, Rows K H xs rows → Rows K H' xs rows
  | _, _, .nil => .nil
  | _, _, .cons ⟨a, h, q⟩ t => .cons ⟨a, h, ex_l e q⟩ (Rows.mono e t)
theorem Rows.len {K : PySem.W.Frag} {H : Hp} {xs : List V} {rows : List (List Int)} (h : Rows K H xs rows) : xs.length = rows.length := Paired.length h
theorem Rows.get {K : PySem.W.Frag} {H : Hp} {xs : List V} {rows : List (List Int)} (h : Rows K H xs rows) {i : Nat} {r : List Int} (hr : rows[i]? = some r) : ∃ a, xs[i]? = some (.ref a) ∧ SqL K H a (r.map V.int) := by
  induction h generalizing i with
  | nil => simp at hr
  | cons p t ih =>
    cases i with
    | zero =>
      obtain ⟨a, rfl, q⟩ := p
      have e := Option.some.inj hr
      subst e
      exact ⟨a, rfl, q⟩
    | succ i => exact ih (i := i) (by simpa using hr)
theorem Rows.snoc {K : PySem.W.Frag} {H : Hp} {a : Addr} {r : List Int} : ∀ {xs : List V} {rows : List (List Int)}, Rows K H xs rows → SqL K H a (r.map V.int) → Rows K H (xs ++ [.ref a]) (rows ++ [r])
  | _, _, .nil, h => .cons ⟨a, rfl, h⟩ .nil
  | _, _, .cons p t, h => .cons p (Rows.snoc t h)
/-- .. and each of them is new over B -/
def RowsF (B H : Hp) (xs : List V) (rows : List (List Int)) : Prop := Paired (fun (x : V) (ns : List Int) => ∃ a, x = .ref a ∧ B a = none ∧ H a = some (.lst (ns.map V.int))) xs rows
theorem RowsF.mono {B H H' : Hp} (e : Ex H H') : ∀ {xs : List V} {rows : List (List Int)}, RowsF B H xs rows → RowsF B H' xs rows
  | _, _, .nil => .nil
  | _, _, .cons ⟨a, h, n, q⟩ t => .cons ⟨a, h, n, e _ _ q⟩ (RowsF.mono e t)
theorem RowsF.back {B B' H : Hp} (e : Ex B' B) : ∀ {xs : List V} {rows : List (List Int)}, RowsF B H xs rows → RowsF B' H xs rows
  | _, _, .nil => .nil
  | _, _, .cons ⟨a, h, n, q⟩ t => .cons ⟨a, h, fresh_back e n, q⟩ (RowsF.back e t)
theorem RowsF.rows {K : PySem.W.Frag} {B H : Hp} : ∀ {xs : List V} {rows : List (List Int)}, RowsF B H xs rows → Rows K H xs rows
  | _, _, .nil => .nil
  | _, _, .cons ⟨a, h, _, q⟩ t => .cons ⟨a, h, .inl (.inl q)⟩ (RowsF.rows t)
theorem RowsF.get {B H : Hp} {xs : List V} {rows : List (List Int)} (h : RowsF B H xs rows) {i : Nat} {r : List Int} (hr : rows[i]? = some r) : ∃ a, xs[i]? = some (.ref a) ∧ B a = none ∧ H a = some (.lst (r.map V.int)) := by
  induction h generalizing i with
  | nil => simp at hr
  | cons p t ih =>
    cases i with
    | zero =>
      obtain ⟨a, rfl, n, q⟩ := p
      have e := Option.some.inj hr
      subst e
      exact ⟨a, rfl, n, q⟩
    | succ i => exact ih (i := i) (by simpa using hr)
theorem RowsF.len {B H : Hp} {xs : List V} {rows : List (List Int)} (h : RowsF B H xs rows) : xs.length = rows.length := Paired.length h
theorem RowsF.snoc {B H : Hp} {a : Addr} {r : List Int} : ∀ {xs : List V} {rows : List (List Int)}, RowsF B H xs rows → B a = none → H a = some (.lst (r.map V.int)) → RowsF B H (xs ++ [.ref a]) (rows ++ [r])
  | _, _, .nil, n, h => .cons ⟨a, rfl, n, h⟩ .nil
  | _, _, .cons p t, n, h => .cons p (RowsF.snoc t n h)
section
variable {K : PySem.W.Frag} {σ : L2.St} {H H' : Hp} {ta te tl : TE} {t : TT}
/-- any iterator, each turn a new list of ints -/
theorem rows_step {J : It} {g : TG} {n : Nat} {vs : List Nat} {r : Nat → List Int} {Q : VK} (hgo : ∀ i H1, Ex H H1 → i < n → J.go i H1) (hst : ∀ H1, Ex H H1 → J.stop n H1) (hz : n ≤ 40000)
    (hy : ∀ i x H1 H2, i < n → Ex H H1 → J.yld i H1 x H2 → Ex H1 H2 ∧ ∀ Dl, H Dl = none → H1 Dl ≠ none → H2 Dl = H1 Dl ∧ ∀ R : L2.St → Hp → Prop, (∀ σ2, wipe σ2 vs = wipe σ vs → EvL te σ2 H ((r i).map V.int) → R σ2 H2) → g x (wipe σ vs) H2 R)
    (q : ∀ p xs H2, H p = none → Ex H H2 → H2 p = some (.lst xs) → RowsF H H2 xs ((List.range n).map r) → Q (.ref p) H2) (Dl : Addr) (hD : H Dl = none) :
    ∃ W : Nat → Nat → Hp → Prop, (∃ m, W 0 m (upd H Dl (.lst []))) ∧ ∀ i m H, W i m H →
      (J.stop i H ∧ Q (.ref Dl) H) ∨ (J.go i H ∧ ∃ Nx : Hp → Prop, (∀ H', Nx H' → ∃ m', m' < m ∧ W (i + 1) m' H') ∧ ∀ x H', J.yld i H x H' → g x (wipe σ vs) H' fun σ2 H2 => wipe σ2 vs = wipe σ vs ∧ tYes σ2 H2 fun b H3 =>
        if b = true then te σ2 H3 fun y H4 => ∃ acc, H4 Dl = some (.lst acc) ∧ acc.length < sizeLine ∧ Nx (upd H4 Dl (.lst (acc ++ [y]))) else Nx H3) := by
  refine ⟨fun i m H' => m = n - i ∧ i ≤ n ∧ ∃ (S : Hp) (xs : List V), Ex H S ∧ S Dl = none ∧ Ex S H' ∧ H' Dl = some (.lst xs) ∧ RowsF H S xs ((List.range i).map r), ⟨n, by simp, Nat.zero_le _, H, [], Ex.refl H, hD, Ex.new hD, upd_same, .nil⟩, ?_⟩
  rintro i m H1 ⟨rfl, hi, S, xs, e1, nS, e2, hl, hr⟩
  by_cases hlt : i < n
  · refine .inr ⟨hgo i H1 (e1.trans e2) hlt, fun H' => ∃ (S : Hp) (xs : List V), Ex H S ∧ S Dl = none ∧ Ex S H' ∧ H' Dl = some (.lst xs) ∧ RowsF H S xs ((List.range (i + 1)).map r), fun H' c' => ⟨n - (i + 1), by omega, rfl, hlt, c'⟩, fun x H2 y => ?_⟩
    obtain ⟨e12, hh⟩ := hy i x H1 H2 hlt (e1.trans e2) y
    obtain ⟨eD, hR⟩ := hh Dl hD (by rw [hl]; exact fun z => nomatch z)
    refine hR _ fun σ2 hw he => ⟨hw, ?_⟩
    show te σ2 H2 fun y H4 => ∃ acc, H4 Dl = some (.lst acc) ∧ acc.length < sizeLine ∧ _
    refine he H2 ((e1.trans e2).trans e12) _ fun p H4 np e4 h4 => ?_
    have hD2 : H2 Dl = some (.lst xs) := by rw [eD]; exact hl
    have hpD : p ≠ Dl := fun z => by rw [z, hD2] at np; cases np
    have nSp : S p = none := fresh_back (e2.trans e12) np
    refine ⟨xs, e4 Dl _ hD2, ?_, upd S p (.lst ((r i).map V.int)), xs ++ [.ref p], e1.trans (Ex.new nSp), ?_, ?_, upd_same, ?_⟩
    · have := hr.len
      rw [List.length_map, List.length_range] at this
      exact sz_lt (by omega)
    · rw [upd_ne (Ne.symm hpD)]
      exact nS
    · refine Ex.mut ?_ (by rw [upd_ne (Ne.symm hpD)]; exact nS)
      intro b o hb
      by_cases hbp : b = p
      · subst hbp
        rw [upd_same] at hb
        rw [← hb]
        exact h4
      · rw [upd_ne hbp] at hb
        exact e4 b o (e12 b o (e2 b o hb))
    · rw [List.range_succ, List.map_append]
      exact RowsF.snoc (hr.mono (Ex.new nSp)) (fresh_back e1 nSp) upd_same
  · have e : i = n := by omega
    subst e
    exact .inl ⟨hst H1 (e1.trans e2), q Dl xs H1 hD (e1.trans e2) hl (hr.mono e2)⟩
/-- [a list for i in range(n)] -/
theorem lc_rowsR {ta : TA} {j : Nat} {vs : List Nat} {n : Nat} {r : Nat → List Int} {Q : VK} (h : EvA ta σ H [.int (n : Int)]) (hz : n ≤ 40000) (hw : ∀ x, wipe ((wipe σ vs).set j (some x)) vs = wipe σ vs)
    (he : ∀ k H1, k < n → Ex H H1 → EvL te ((wipe σ vs).set j (some (.int (k : Nat)))) H1 ((r k).map V.int))
    (q : ∀ p xs H2, H p = none → Ex H H2 → H2 p = some (.lst xs) → Rows K H2 xs ((List.range n).map r) → Q (.ref p) H2) : tLc (iRng1 ta) (gName j) tYes te vs σ H Q :=
  h H (Ex.refl H) _ fun H1 e1 => ⟨n, rfl, by omega, by omega, fun Dl hD =>
  rows_step (J := Itr 0 n) (r := r) (te := te) (fun k H2 e2 hk => hk) (fun H2 e2 => Nat.le_refl _) hz
    (fun k x H2 H3 hk e2 y => by
      obtain ⟨e3, rfl⟩ := y
      subst e3
      refine ⟨Ex.refl _, fun Dl hD hn => ⟨rfl, fun R hR => ?_⟩⟩
      show R _ _
      have := he k H1 hk e1
      rw [show (0 : Int) + (k : Int) = (k : Int) from Int.zero_add _]
      exact hR _ (hw _) this)
    (fun p xs H2 hp e2 hl hr => q p xs H2 (fresh_back e1 hp) (e1.trans e2) hl hr.rows) Dl hD⟩
end
/-! ### what is a table, what is none -/
def isI : V → Bool
  | .int _ => true
  | _ => false
/-- an item whose type is known -/
def El (K : PySem.W.Frag) (H : Hp) (x : V) : Prop := ∃ t, Kd K H x t ∧ decide (t = .int) = isI x
theorem kd_mono {K : PySem.W.Frag} {H H' : Hp} {x : V} {t : Ty} (e : Ex H H') (h : Kd K H x t) : Kd K H' x t := by
  unfold Kd at h ⊢
  generalize (Value.type t.nm) = T at h ⊢
  cases h with
  | base b =>
    cases b with
    | non => exact .base .non
    | bl y => exact .base (.bl y)
    | int i => exact .base (.int i)
    | str y => exact .base (.str y)
    | flt y => exact .base (.flt y)
    | lst q => exact .base (.lst (e _ _ q))
    | frz q => exact .base (.frz (e _ _ q))
    | tup q => exact .base (.tup (e _ _ q))
    | dK q => exact .base (.dK (e _ _ q))
    | dT q => exact .base (.dT (e _ _ q))
    | ins q a b c d f => exact .base (.ins (e _ _ q) a b c d f)
  | byt b => exact .byt b
  | set q => exact .set (e _ _ q)
  | kList q c => exact .kList q c
  | kTuple q c => exact .kTuple q c
  | kDict q c => exact .kDict q c
  | fTuple q => exact .fTuple (e _ _ q)
  | fDict q => exact .fDict (e _ _ q)
theorem El.mono {K : PySem.W.Frag} {H H' : Hp} {x : V} (e : Ex H H') (h : El K H x) : El K H' x := by
  obtain ⟨t, k, q⟩ := h
  exact ⟨t, kd_mono e k, q⟩
theorem El.int {K : PySem.W.Frag} {H : Hp} (i : Int) : El K H (.int i) := ⟨.int, .int i, rfl⟩
/-- what is no table -/
def NoTab (K : PySem.W.Frag) (H : Hp) (x : V) : Prop := (∃ t, Kd K H x t ∧ t ≠ .lst) ∨
  ∃ a xs, x = .ref a ∧ SqL K H a xs ∧ xs.length ≤ 40000 ∧ (∀ y ∈ xs, El K H y) ∧ (xs.all isI = false ∨ (xs.all isI = true ∧ ∀ n, n ≤ 10 → xs.length ≠ 2 ^ n))
theorem NoTab.mono {K : PySem.W.Frag} {H H' : Hp} {x : V} (e : Ex H H') (h : NoTab K H x) : NoTab K H' x := by
  rcases h with ⟨t, k, q⟩ | ⟨a, xs, rfl, h1, h2, h3, h4⟩
  · exact .inl ⟨t, kd_mono e k, q⟩
  · exact .inr ⟨a, xs, rfl, ex_l e h1, h2, fun y hy => (h3 y hy).mono e, h4⟩
/-- a table of n names -/
def IsTab (K : PySem.W.Frag) (H : Hp) (x : V) (n : Nat) (ns : List Int) : Prop := ∃ a, x = .ref a ∧ SqL K H a (ns.map V.int) ∧ n ≤ 10 ∧ ns.length = 2 ^ n
theorem IsTab.mono {K : PySem.W.Frag} {H H' : Hp} {x : V} {n : Nat} {ns : List Int} (e : Ex H H') (h : IsTab K H x n ns) : IsTab K H' x n ns := by
  obtain ⟨a, rfl, h1, h2⟩ := h
  exact ⟨a, rfl, ex_l e h1, h2⟩
theorem pow_le {n : Nat} (h : n ≤ 10) : 2 ^ n ≤ 1024 := Nat.pow_le_pow_right (by decide) h
theorem pow_inj {n m : Nat} (h : 2 ^ n = 2 ^ m) : n = m := (Nat.pow_right_inj (by decide)).mp h
/-! ### loops and comprehensions behind the reading of what is walked -/
def WFor (J : It) (g : TG) (tb : TS) (D : Ends) (σ : L2.St) (H1 : Hp) : Prop := ∃ W : Nat → Nat → L2.St → Hp → Prop, (∃ m, W 0 m σ H1) ∧ ∀ i m σ H, W i m σ H →
  (J.stop i H ∧ D.nx σ H) ∨ (J.go i H ∧ ∃ N : L2.St → Hp → Prop, (∀ σ' H', N σ' H' → ∃ m', m' < m ∧ W (i + 1) m' σ' H') ∧ ∀ x H', J.yld i H x H' → g x σ H' fun σ2 H2 => tb { D with nx := N, ct := N, bk := D.nx } σ2 H2)
def WLc (J : It) (g : TG) (tt : TT) (te : TE) (vs : List Nat) (σ : L2.St) (H1 : Hp) (Q : VK) : Prop := ∀ D, H1 D = none → ∃ W : Nat → Nat → Hp → Prop, (∃ m, W 0 m (upd H1 D (.lst []))) ∧ ∀ i m H, W i m H →
  (J.stop i H ∧ Q (.ref D) H) ∨ (J.go i H ∧ ∃ Nx : Hp → Prop, (∀ H', Nx H' → ∃ m', m' < m ∧ W (i + 1) m' H') ∧ ∀ x H', J.yld i H x H' → g x (wipe σ vs) H' fun σ2 H2 => wipe σ2 vs = wipe σ vs ∧ tt σ2 H2 fun b H3 =>
    if b = true then te σ2 H3 fun y H4 => ∃ acc, H4 D = some (.lst acc) ∧ acc.length < sizeLine ∧ Nx (upd H4 D (.lst (acc ++ [y]))) else Nx H3)
theorem tFor_W {wi : TI} {g : TG} {tb : TS} {D : Ends} {σ : L2.St} {H : Hp} : tFor wi g tb D σ H = wi σ H (fun J H1 => WFor J g tb D σ H1) := rfl
theorem tLc_W {wi : TI} {g : TG} {tt : TT} {te : TE} {vs : List Nat} {σ : L2.St} {H : Hp} {Q : VK} : tLc wi g tt te vs σ H Q = wi σ H (fun J H1 => WLc J g tt te vs σ H1 Q) := rfl
section
variable {K : PySem.W.Frag} {g : TG} {tb : TS} {D : Ends} {σ : L2.St} {H : Hp} {te : TE} {t : TT} {Q : VK}
theorem w_list {a : Addr} (xs : List V) (Pv : Nat → L2.St → Hp → Prop) (h0 : Pv 0 σ H) (hl : ∀ i σ H, i ≤ xs.length → Pv i σ H → SqL K H a xs)
    (hs : ∀ i x σ H, xs[i]? = some x → Pv i σ H → g x σ H fun σ2 H2 => tb { D with nx := Pv (i + 1), ct := Pv (i + 1), bk := D.nx } σ2 H2) (hd : ∀ σ H, Pv xs.length σ H → D.nx σ H) : WFor (Itl K a) g tb D σ H := for_list Pv h0 hl hs hd
theorem w_tup {a : Addr} (xs : List V) (Pv : Nat → L2.St → Hp → Prop) (h0 : Pv 0 σ H) (hl : ∀ i σ H, i ≤ xs.length → Pv i σ H → SqT K H a xs)
    (hs : ∀ i x σ H, xs[i]? = some x → Pv i σ H → g x σ H fun σ2 H2 => tb { D with nx := Pv (i + 1), ct := Pv (i + 1), bk := D.nx } σ2 H2) (hd : ∀ σ H, Pv xs.length σ H → D.nx σ H) : WFor (Itt K a) g tb D σ H := for_tup Pv h0 hl hs hd
theorem w_rng {lo : Int} {n : Nat} (Pv : Nat → L2.St → Hp → Prop) (h0 : Pv 0 σ H)
    (hs : ∀ i σ H, i < n → Pv i σ H → g (.int (lo + i)) σ H fun σ2 H2 => tb { D with nx := Pv (i + 1), ct := Pv (i + 1), bk := D.nx } σ2 H2) (hd : ∀ σ H, Pv n σ H → D.nx σ H) : WFor (Itr lo n) g tb D σ H := for_range Pv h0 hs hd
theorem w_rng0 {n : Nat} {j : Nat} (Pv : Nat → L2.St → Hp → Prop) (h0 : Pv 0 σ H)
    (hs : ∀ (i : Nat) σ H, i < n → Pv i σ H → tb { D with nx := Pv (i + 1), ct := Pv (i + 1), bk := D.nx } (σ.set j (some (.int (i : Nat)))) H) (hd : ∀ σ H, Pv n σ H → D.nx σ H) : WFor (Itr 0 n) (gName j) tb D σ H :=
  w_rng Pv h0 (fun i σ H hi p => by
    show tb _ (σ.set j (some (.int (0 + (i : Int))))) H
    rw [Int.zero_add]
    exact hs i σ H hi p) hd
theorem w_by {J : It} (n : Nat) (Pv : Nat → L2.St → Hp → Prop) (h0 : Pv 0 σ H) (hgo : ∀ i σ H, i < n → Pv i σ H → J.go i H) (hst : ∀ σ H, Pv n σ H → J.stop n H)
    (hs : ∀ i σ H x H', i < n → Pv i σ H → J.yld i H x H' → g x σ H' fun σ2 H2 => tb { D with nx := Pv (i + 1), ct := Pv (i + 1), bk := D.nx } σ2 H2) (hd : ∀ σ H, Pv n σ H → D.nx σ H) : WFor J g tb D σ H := by
  refine ⟨fun i m σ H => m = n - i ∧ i ≤ n ∧ Pv i σ H, ⟨n, by simp, Nat.zero_le _, h0⟩, ?_⟩
  rintro i m σ H ⟨rfl, hi, p⟩
  by_cases hlt : i < n
  · exact .inr ⟨hgo i σ H hlt p, Pv (i + 1), fun σ' H' p' => ⟨n - (i + 1), by omega, rfl, hlt, p'⟩, fun x H' y => hs i σ H x H' hlt p y⟩
  · have e : i = n := by omega
    subst e
    exact .inl ⟨hst σ H p, hd σ H p⟩
theorem w_enum {a : Addr} {i j : Nat} (xs : List V) (Pv : Nat → L2.St → Hp → Prop) (h0 : Pv 0 σ H) (hl : ∀ i σ H, Pv i σ H → SqL K H a xs)
    (hs : ∀ (k : Nat) x T σ H, xs[k]? = some x → H T = none → Pv k σ H → tb { D with nx := Pv (k + 1), ct := Pv (k + 1), bk := D.nx } ((σ.set i (some (.int (k : Nat)))).set j (some x)) (upd H T (.tup [.int (k : Nat), x]))) (hd : ∀ σ H, Pv xs.length σ H → D.nx σ H) :
    WFor (Ite K a) (gTup K 2 (gCons (gName i) (gCons (gName j) gNil))) tb D σ H :=
  w_by xs.length Pv h0 (fun k σ H hk p => ⟨xs, xs[k], hl k σ H p, by simp [hk]⟩) (fun σ H p => ⟨xs, hl _ σ H p, Nat.le_refl _⟩) (fun k σ H x H' hk p y => by
    obtain ⟨T, z, rfl, nT, rfl, hh⟩ := y
    exact pair_tgt (hs k z T σ H (hh xs (hl k σ H p)) nT p)) hd
theorem wl_vals {a : Addr} {j : Nat} {vs : List Nat} (xs : List V) (f : V → Bool) (v : V → V) (hx : SqL K H a xs) (hz : xs.length ≤ 40000) (hw : ∀ x, wipe ((wipe σ vs).set j (some x)) vs = wipe σ vs)
    (ht : ∀ x, x ∈ xs → ∀ H1, Ex H H1 → EvT t ((wipe σ vs).set j (some x)) H1 (f x)) (he : ∀ x, x ∈ xs → ∀ H1, Ex H H1 → f x = true → Ev te ((wipe σ vs).set j (some x)) H1 (v x))
    (q : ∀ p H2, H p = none → Ex H H2 → H2 p = some (.lst ((xs.filter f).map v)) → Q (.ref p) H2) : WLc (Itl K a) (gName j) t te vs σ H Q := by
  have h := lc_vals (K := K) (tl := tC (.ref a)) (te := te) (t := t) (σ := σ) f v (ev_c) hx hz hw ht he H (Ex.refl H) Q q
  obtain ⟨_, e, _, h⟩ := h
  cases e
  exact h
theorem wl_ints {a : Addr} {j : Nat} {vs : List Nat} (ns : List Int) (f : Int → Bool) (v : Int → V) (hx : SqL K H a (ns.map V.int)) (hz : ns.length ≤ 40000) (hw : ∀ x, wipe ((wipe σ vs).set j (some x)) vs = wipe σ vs)
    (ht : ∀ x, x ∈ ns → ∀ H1, Ex H H1 → EvT t ((wipe σ vs).set j (some (.int x))) H1 (f x)) (he : ∀ x, x ∈ ns → ∀ H1, Ex H H1 → f x = true → Ev te ((wipe σ vs).set j (some (.int x))) H1 (v x))
    (q : ∀ p H2, H p = none → Ex H H2 → H2 p = some (.lst ((ns.filter f).map v)) → Q (.ref p) H2) : WLc (Itl K a) (gName j) t te vs σ H Q := by
  have h := lc_ints (K := K) (tl := tC (.ref a)) (te := te) (t := t) (σ := σ) f v (ev_c) hx hz hw ht he H (Ex.refl H) Q q
  obtain ⟨_, e, _, h⟩ := h
  cases e
  exact h
theorem wl_rng {j : Nat} {vs : List Nat} {n : Nat} (f : Nat → Bool) (v : Nat → V) (hz : n ≤ 40000) (hw : ∀ x, wipe ((wipe σ vs).set j (some x)) vs = wipe σ vs)
    (ht : ∀ (i : Nat) H1, i < n → Ex H H1 → EvT t ((wipe σ vs).set j (some (.int (i : Nat)))) H1 (f i)) (he : ∀ (i : Nat) H1, i < n → Ex H H1 → f i = true → Ev te ((wipe σ vs).set j (some (.int (i : Nat)))) H1 (v i))
    (q : ∀ p H2, H p = none → Ex H H2 → H2 p = some (.lst (((List.range n).filter f).map v)) → Q (.ref p) H2) : WLc (Itr 0 n) (gName j) t te vs σ H Q :=
  fun Dl hD => cw_step (J := Itr 0 n) (n := n) (f := f) (v := v) (t := t) (te := te) (fun k H2 e2 hk => hk) (fun H2 e2 => Nat.le_refl _) hz
    (fun k x H2 H3 hk e2 y => by
      obtain ⟨e3, rfl⟩ := y
      subst e3
      refine ⟨Ex.refl _, fun Dl hD hn => ⟨rfl, fun R hR => ?_⟩⟩
      show R _ _
      rw [show (0 : Int) + (k : Int) = (k : Int) from Int.zero_add _]
      exact hR _ (hw _) (ht k H hk (Ex.refl _)) (he k H hk (Ex.refl _))) q Dl hD
theorem wl_enum {a : Addr} {i j : Nat} {vs : List Nat} (xs : List V) (f : Nat → Bool) (v : Nat → V) (hx : SqL K H a xs) (hz : xs.length ≤ 40000) (hw : ∀ x y, wipe (((wipe σ vs).set i (some x)).set j (some y)) vs = wipe σ vs)
    (ht : ∀ (k : Nat) (x : V) H1, Ex H H1 → xs[k]? = some x → EvT t (((wipe σ vs).set i (some (.int (k : Nat)))).set j (some x)) H1 (f k)) (he : ∀ (k : Nat) (x : V) H1, Ex H H1 → xs[k]? = some x → f k = true → Ev te (((wipe σ vs).set i (some (.int (k : Nat)))).set j (some x)) H1 (v k))
    (q : ∀ p H2, H p = none → Ex H H2 → H2 p = some (.lst (given xs.length f v)) → Q (.ref p) H2) : WLc (Ite K a) (gTup K 2 (gCons (gName i) (gCons (gName j) gNil))) t te vs σ H Q :=
  fun Dl hD => cw_step (J := Ite K a) (n := xs.length) (f := f) (v := v) (t := t) (te := te) (fun k H2 e2 hk => ⟨xs, xs[k], ex_l e2 hx, by simp [hk]⟩) (fun H2 e2 => ⟨xs, ex_l e2 hx, Nat.le_refl _⟩) hz
    (fun k x H2 H3 hk e2 y => by
      obtain ⟨T, z, rfl, nT, rfl, hh⟩ := y
      have hz2 := hh xs (ex_l e2 hx)
      refine ⟨Ex.new nT, fun Dl hD hn => ⟨upd_ne (fun z => hn (by rw [z]; exact nT)), fun R hR => pair_tgt (hR _ (hw _ _) (ht k z H (Ex.refl _) hz2) (he k z H (Ex.refl _) hz2))⟩⟩) q Dl hD
theorem wl_zip {a b : Addr} {i j : Nat} {vs : List Nat} (xs ys : List V) (f : Nat → Bool) (v : Nat → V) (hx : SqL K H a xs) (hyy : SqL K H b ys) (hl : xs.length = ys.length) (hz : xs.length ≤ 40000) (hw : ∀ x y, wipe (((wipe σ vs).set i (some x)).set j (some y)) vs = wipe σ vs)
    (ht : ∀ (k : Nat) (x y : V) H1, Ex H H1 → xs[k]? = some x → ys[k]? = some y → EvT t (((wipe σ vs).set i (some x)).set j (some y)) H1 (f k)) (he : ∀ (k : Nat) (x y : V) H1, Ex H H1 → xs[k]? = some x → ys[k]? = some y → f k = true → Ev te (((wipe σ vs).set i (some x)).set j (some y)) H1 (v k))
    (q : ∀ p H2, H p = none → Ex H H2 → H2 p = some (.lst (given xs.length f v)) → Q (.ref p) H2) : WLc (Itz K a b) (gTup K 2 (gCons (gName i) (gCons (gName j) gNil))) t te vs σ H Q :=
  fun Dl hD => cw_step (J := Itz K a b) (n := xs.length) (f := f) (v := v) (t := t) (te := te) (fun k H2 e2 hk => ⟨xs, ys, xs[k], ys[k], ex_l e2 hx, ex_l e2 hyy, by simp [hk], by simp [hl ▸ hk]⟩) (fun H2 e2 => ⟨xs, ys, ex_l e2 hx, ex_l e2 hyy, .inl (Nat.le_refl _)⟩) hz
    (fun k x H2 H3 hk e2 y => by
      obtain ⟨T, z, u, rfl, nT, rfl, h1, h2⟩ := y
      have hz1 := h1 xs (ex_l e2 hx)
      have hz2 := h2 ys (ex_l e2 hyy)
      refine ⟨Ex.new nT, fun Dl hD hn => ⟨upd_ne (fun z => hn (by rw [z]; exact nT)), fun R hR => pair_tgt (hR _ (hw _ _) (ht k z u H (Ex.refl _) hz1 hz2) (he k z u H (Ex.refl _) hz1 hz2))⟩⟩) q Dl hD
/-- [a new list of ints for i in range(n)] -/
theorem wl_rowsF {j : Nat} {vs : List Nat} {n : Nat} (r : Nat → List Int) (hz : n ≤ 40000) (hw : ∀ x, wipe ((wipe σ vs).set j (some x)) vs = wipe σ vs)
    (he : ∀ k H1, k < n → Ex H H1 → EvL te ((wipe σ vs).set j (some (.int (k : Nat)))) H1 ((r k).map V.int))
    (q : ∀ p xs H2, H p = none → Ex H H2 → H2 p = some (.lst xs) → RowsF H H2 xs ((List.range n).map r) → Q (.ref p) H2) : WLc (Itr 0 n) (gName j) tYes te vs σ H Q :=
  fun Dl hD => rows_step (J := Itr 0 n) (r := r) (te := te) (fun k H2 e2 hk => hk) (fun H2 e2 => Nat.le_refl _) hz
    (fun k x H2 H3 hk e2 y => by
      obtain ⟨e3, rfl⟩ := y
      subst e3
      refine ⟨Ex.refl _, fun Dl hD hn => ⟨rfl, fun R hR => ?_⟩⟩
      show R _ _
      rw [show (0 : Int) + (k : Int) = (k : Int) from Int.zero_add _]
      exact hR _ (hw _) (he k H hk (Ex.refl _))) q Dl hD
theorem wl_rowsR {j : Nat} {vs : List Nat} {n : Nat} (r : Nat → List Int) (hz : n ≤ 40000) (hw : ∀ x, wipe ((wipe σ vs).set j (some x)) vs = wipe σ vs)
    (he : ∀ k H1, k < n → Ex H H1 → EvL te ((wipe σ vs).set j (some (.int (k : Nat)))) H1 ((r k).map V.int))
    (q : ∀ p xs H2, H p = none → Ex H H2 → H2 p = some (.lst xs) → Rows K H2 xs ((List.range n).map r) → Q (.ref p) H2) : WLc (Itr 0 n) (gName j) tYes te vs σ H Q :=
  wl_rowsF r hz hw he fun p xs H2 a b c d => q p xs H2 a b c d.rows
/-- [a new list of ints for x in xs] -/
theorem wl_rowsL {a : Addr} {j : Nat} {vs : List Nat} (xs : List V) (r : Nat → List Int) (hx : SqL K H a xs) (hz : xs.length ≤ 40000) (hw : ∀ x, wipe ((wipe σ vs).set j (some x)) vs = wipe σ vs)
    (he : ∀ k x H1, xs[k]? = some x → Ex H H1 → EvL te ((wipe σ vs).set j (some x)) H1 ((r k).map V.int))
    (q : ∀ p ys H2, H p = none → Ex H H2 → H2 p = some (.lst ys) → RowsF H H2 ys ((List.range xs.length).map r) → Q (.ref p) H2) : WLc (Itl K a) (gName j) tYes te vs σ H Q :=
  fun Dl hD => rows_step (J := Itl K a) (n := xs.length) (r := r) (te := te) (fun k H2 e2 hk => ⟨xs, xs[k], ex_l e2 hx, by simp [hk]⟩) (fun H2 e2 => ⟨xs, ex_l e2 hx, Nat.le_refl _⟩) hz
    (fun k x H2 H3 hk e2 y => by
      obtain ⟨e3, hy⟩ := y
      subst e3
      refine ⟨Ex.refl _, fun Dl hD hn => ⟨rfl, fun R hR => ?_⟩⟩
      exact hR _ (hw _) (he k x H (hy xs (ex_l e2 hx)) (Ex.refl _))) q Dl hD
/-- [.. for i, j in pairs if ..] -/
theorem wl_pairs {a : Addr} {i j : Nat} {vs : List Nat} (xs : List V) (u w : Nat → V) (f : Nat → Bool) (v : Nat → V) (hx : SqL K H a xs) (hz : xs.length ≤ 40000) (hw : ∀ x y, wipe (((wipe σ vs).set i (some x)).set j (some y)) vs = wipe σ vs)
    (hp : ∀ (k : Nat) x, xs[k]? = some x → ∃ T, x = .ref T ∧ SqT K H T [u k, w k])
    (ht : ∀ (k : Nat) H1, k < xs.length → Ex H H1 → EvT t (((wipe σ vs).set i (some (u k))).set j (some (w k))) H1 (f k)) (he : ∀ (k : Nat) H1, k < xs.length → Ex H H1 → f k = true → Ev te (((wipe σ vs).set i (some (u k))).set j (some (w k))) H1 (v k))
    (q : ∀ p H2, H p = none → Ex H H2 → H2 p = some (.lst (given xs.length f v)) → Q (.ref p) H2) : WLc (Itl K a) (gTup K 2 (gCons (gName i) (gCons (gName j) gNil))) t te vs σ H Q :=
  fun Dl hD => cw_step (J := Itl K a) (n := xs.length) (f := f) (v := v) (t := t) (te := te) (fun k H2 e2 hk => ⟨xs, xs[k], ex_l e2 hx, by simp [hk]⟩) (fun H2 e2 => ⟨xs, ex_l e2 hx, Nat.le_refl _⟩) hz
    (fun k x H2 H3 hk e2 y => by
      obtain ⟨e3, hy⟩ := y
      subst e3
      obtain ⟨T, rfl, hT⟩ := hp k x (hy xs (ex_l e2 hx))
      refine ⟨Ex.refl _, fun Dl hD hn => ⟨rfl, fun R hR => ?_⟩⟩
      exact ⟨T, _, rfl, Evl.ex_t e2 hT, rfl, u k, _, rfl, w k, [], rfl, rfl, hR _ (hw _ _) (ht k H hk (Ex.refl _)) (he k H hk (Ex.refl _))⟩) q Dl hD
/-- [a new list of ints for x in a tuple] -/
theorem wl_rowsT {a : Addr} {j : Nat} {vs : List Nat} (xs : List V) (r : Nat → List Int) (hx : SqT K H a xs) (hz : xs.length ≤ 40000) (hw : ∀ x, wipe ((wipe σ vs).set j (some x)) vs = wipe σ vs)
    (he : ∀ k x H1, xs[k]? = some x → Ex H H1 → EvL te ((wipe σ vs).set j (some x)) H1 ((r k).map V.int))
    (q : ∀ p ys H2, H p = none → Ex H H2 → H2 p = some (.lst ys) → RowsF H H2 ys ((List.range xs.length).map r) → Q (.ref p) H2) : WLc (Itt K a) (gName j) tYes te vs σ H Q :=
  fun Dl hD => rows_step (J := Itt K a) (n := xs.length) (r := r) (te := te) (fun k H2 e2 hk => ⟨xs, xs[k], Evl.ex_t e2 hx, by simp [hk]⟩) (fun H2 e2 => ⟨xs, Evl.ex_t e2 hx, Nat.le_refl _⟩) hz
    (fun k x H2 H3 hk e2 y => by
      obtain ⟨e3, hy⟩ := y
      subst e3
      refine ⟨Ex.refl _, fun Dl hD hn => ⟨rfl, fun R hR => ?_⟩⟩
      exact hR _ (hw _) (he k x H (hy xs (Evl.ex_t e2 hx)) (Ex.refl _))) q Dl hD
end
/-! ### == of data -/
def dI (ns : List Int) : PyData := .list (ns.map PyData.int)
def dS (ss : List Str) : PyData := .list (ss.map PyData.str)
def dR (rows : List (List Int)) : PyData := .list (rows.map dI)
theorem dpAll_ints {K : PySem.W.Frag} {H : Hp} : ∀ ns : List Int, DpAll K H (ns.map V.int) (ns.map PyData.int)
  | [] => .nil
  | n :: r => .cons (.int n) (dpAll_ints r)
theorem dpAll_strs {K : PySem.W.Frag} {H : Hp} : ∀ ns : List Str, DpAll K H (ns.map V.str) (ns.map PyData.str)
  | [] => .nil
  | n :: r => .cons (.str n) (dpAll_strs r)
theorem dp_ints {K : PySem.W.Frag} {H : Hp} {a : Addr} {ns : List Int} (h : SqL K H a (ns.map V.int)) : Dp K H (.ref a) (dI ns) := .lst h (dpAll_ints ns)
theorem dp_strs {K : PySem.W.Frag} {H : Hp} {a : Addr} {ns : List Str} (h : SqL K H a (ns.map V.str)) : Dp K H (.ref a) (dS ns) := .lst h (dpAll_strs ns)
theorem dpAll_rows {K : PySem.W.Frag} {H : Hp} : ∀ {xs : List V} {rows : List (List Int)}, Rows K H xs rows → DpAll K H xs (rows.map dI)
  | _, _, .nil => .nil
  | _, _, .cons ⟨_, e, q⟩ t => by
    subst e
    exact .cons (dp_ints q) (dpAll_rows t)
theorem dp_rows {K : PySem.W.Frag} {H : Hp} {a : Addr} {xs : List V} {rows : List (List Int)} (h : SqL K H a xs) (r : Rows K H xs rows) : Dp K H (.ref a) (dR rows) := .lst h (dpAll_rows r)
theorem eqvAll_ints : ∀ ns ms : List Int, PyData.eqvAll (ns.map PyData.int) (ms.map PyData.int) = decide (ns = ms)
  | [], [] => by simp [PyData.eqvAll]
  | [], _ :: _ => by simp [PyData.eqvAll]
  | _ :: _, [] => by simp [PyData.eqvAll]
  | a :: r, b :: t => by
    simp only [List.map_cons, PyData.eqvAll, PyData.eqv, eqvAll_ints r t]
    by_cases h : a = b <;> by_cases h' : r = t <;> simp [h, h']
theorem eqvAll_strs : ∀ ns ms : List Str, PyData.eqvAll (ns.map PyData.str) (ms.map PyData.str) = decide (ns = ms)
  | [], [] => by simp [PyData.eqvAll]
  | [], _ :: _ => by simp [PyData.eqvAll]
  | _ :: _, [] => by simp [PyData.eqvAll]
  | a :: r, b :: t => by
    simp only [List.map_cons, PyData.eqvAll, PyData.eqv, eqvAll_strs r t]
    by_cases h : a = b <;> by_cases h' : r = t <;> simp [h, h']
theorem eqv_ints (ns ms : List Int) : PyData.eqv (dI ns) (dI ms) = decide (ns = ms) := by
  unfold dI
  rw [PyData.eqv]
  exact eqvAll_ints ns ms
theorem eqv_strs (ns ms : List Str) : PyData.eqv (dS ns) (dS ms) = decide (ns = ms) := by
  unfold dS
  rw [PyData.eqv]
  exact eqvAll_strs ns ms
theorem eqvAll_rows : ∀ ns ms : List (List Int), PyData.eqvAll (ns.map dI) (ms.map dI) = decide (ns = ms)
  | [], [] => by simp [PyData.eqvAll]
  | [], _ :: _ => by simp [PyData.eqvAll]
  | _ :: _, [] => by simp [PyData.eqvAll]
  | a :: r, b :: t => by
    simp only [List.map_cons, PyData.eqvAll, eqv_ints, eqvAll_rows r t]
    by_cases h : a = b <;> by_cases h' : r = t <;> simp [h, h']
theorem eqv_rows (ns ms : List (List Int)) : PyData.eqv (dR ns) (dR ms) = decide (ns = ms) := by
  unfold dR
  rw [PyData.eqv]
  exact eqvAll_rows ns ms
theorem canLay_ints : ∀ ns : List Int, PyData.canLayAll0 (ns.map PyData.int) = true
  | [] => by simp [PyData.canLayAll0]
  | n :: r => by simp [PyData.canLayAll0, PyData.canLay0, canLay_ints r]
theorem canLay_strs : ∀ ns : List Str, ns.all PyData.strOk = true → PyData.canLayAll0 (ns.map PyData.str) = true
  | [], _ => by simp [PyData.canLayAll0]
  | n :: r, h => by
    rw [List.all_cons, Bool.and_eq_true] at h
    simp [PyData.canLayAll0, PyData.canLay0, h.1, canLay_strs r h.2]
theorem canLay_rows : ∀ ns : List (List Int), PyData.canLayAll0 (ns.map dI) = true
  | [] => by simp [PyData.canLayAll0]
  | n :: r => by simp [PyData.canLayAll0, dI, PyData.canLay0, canLay_ints, canLay_rows r]
theorem depth_ints : ∀ ns : List Int, PyData.depthAll (ns.map PyData.int) ≤ 1
  | [] => by simp [PyData.depthAll]
  | n :: r => by
    have := depth_ints r
    simp [PyData.depthAll, PyData.depth]
    omega
theorem depth_strs : ∀ ns : List Str, PyData.depthAll (ns.map PyData.str) ≤ 1
  | [] => by simp [PyData.depthAll]
  | n :: r => by
    have := depth_strs r
    simp [PyData.depthAll, PyData.depth]
    omega
theorem depth_dI (ns : List Int) : (dI ns).depth ≤ 2 := by
  have := depth_ints ns
  unfold dI
  simp [PyData.depth]
  omega
theorem depth_rows : ∀ ns : List (List Int), PyData.depthAll (ns.map dI) ≤ 2
  | [] => by simp [PyData.depthAll]
  | n :: r => by
    have h1 := depth_rows r
    have h2 := depth_dI n
    simp [PyData.depthAll]
    omega
theorem sh_ints (ns : List Int) : SeqAt.shaped (dI ns) = true := by
  have := depth_dI ns
  unfold SeqAt.shaped
  rw [Bool.and_eq_true, decide_eq_true_eq]
  exact ⟨by unfold dI; simp [PyData.canLay0, canLay_ints], by omega⟩
theorem sh_strs {ns : List Str} (h : ns.all PyData.strOk = true) : SeqAt.shaped (dS ns) = true := by
  have := depth_strs ns
  unfold SeqAt.shaped dS
  rw [Bool.and_eq_true, decide_eq_true_eq]
  exact ⟨by simp [PyData.canLay0, canLay_strs ns h], by simp [PyData.depth]; omega⟩
theorem sh_rows (ns : List (List Int)) : SeqAt.shaped (dR ns) = true := by
  have := depth_rows ns
  unfold SeqAt.shaped dR
  rw [Bool.and_eq_true, decide_eq_true_eq]
  exact ⟨by simp [PyData.canLay0, canLay_rows], by simp [PyData.depth]; omega⟩
/-- two lists of ints -/
theorem ne_ints {K : PySem.W.Frag} {H : Hp} {a b : Addr} {ns ms : List Int} {Q : VK} (ha : SqL K H a (ns.map V.int)) (hb : SqL K H b (ms.map V.int)) (q : Q (.bl (!decide (ns = ms))) H) : rNeD K (.ref a) (.ref b) H Q :=
  ⟨dI ns, dI ms, dp_ints ha, dp_ints hb, sh_ints ns, sh_ints ms, by rw [eqv_ints]; exact q⟩
theorem eq_ints {K : PySem.W.Frag} {H : Hp} {a b : Addr} {ns ms : List Int} {Q : VK} (ha : SqL K H a (ns.map V.int)) (hb : SqL K H b (ms.map V.int)) (q : Q (.bl (decide (ns = ms))) H) : rEqD K (.ref a) (.ref b) H Q :=
  ⟨dI ns, dI ms, dp_ints ha, dp_ints hb, sh_ints ns, sh_ints ms, by rw [eqv_ints]; exact q⟩
theorem ne_strs {K : PySem.W.Frag} {H : Hp} {a b : Addr} {ns ms : List Str} {Q : VK} (ok1 : ns.all PyData.strOk = true) (ok2 : ms.all PyData.strOk = true) (ha : SqL K H a (ns.map V.str)) (hb : SqL K H b (ms.map V.str)) (q : Q (.bl (!decide (ns = ms))) H) : rNeD K (.ref a) (.ref b) H Q :=
  ⟨dS ns, dS ms, dp_strs ha, dp_strs hb, sh_strs ok1, sh_strs ok2, by rw [eqv_strs]; exact q⟩
theorem eq_strs {K : PySem.W.Frag} {H : Hp} {a b : Addr} {ns ms : List Str} {Q : VK} (ok1 : ns.all PyData.strOk = true) (ok2 : ms.all PyData.strOk = true) (ha : SqL K H a (ns.map V.str)) (hb : SqL K H b (ms.map V.str)) (q : Q (.bl (decide (ns = ms))) H) : rEqD K (.ref a) (.ref b) H Q :=
  ⟨dS ns, dS ms, dp_strs ha, dp_strs hb, sh_strs ok1, sh_strs ok2, by rw [eqv_strs]; exact q⟩
theorem ne_rows {K : PySem.W.Frag} {H : Hp} {a b : Addr} {xs ys : List V} {ns ms : List (List Int)} {Q : VK} (ha : SqL K H a xs) (ra : Rows K H xs ns) (hb : SqL K H b ys) (rb : Rows K H ys ms) (q : Q (.bl (!decide (ns = ms))) H) : rNeD K (.ref a) (.ref b) H Q :=
  ⟨dR ns, dR ms, dp_rows ha ra, dp_rows hb rb, sh_rows ns, sh_rows ms, by rw [eqv_rows]; exact q⟩
/-- two tuples of lists of ints -/
def dTR (rows : List (List Int)) : PyData := .tuple (rows.map dI)
theorem dp_trows {K : PySem.W.Frag} {H : Hp} {a : Addr} {xs : List V} {rows : List (List Int)} (h : SqT K H a xs) (r : Rows K H xs rows) : Dp K H (.ref a) (dTR rows) := .tup h (dpAll_rows r)
theorem eqv_trows (ns ms : List (List Int)) : PyData.eqv (dTR ns) (dTR ms) = decide (ns = ms) := by
  unfold dTR
  rw [PyData.eqv]
  exact eqvAll_rows ns ms
theorem sh_trows (ns : List (List Int)) : SeqAt.shaped (dTR ns) = true := by
  have := depth_rows ns
  unfold SeqAt.shaped dTR
  rw [Bool.and_eq_true, decide_eq_true_eq]
  exact ⟨by simp [PyData.canLay0, canLay_rows], by simp [PyData.depth]; omega⟩
theorem ne_trows {K : PySem.W.Frag} {H : Hp} {a b : Addr} {xs ys : List V} {ns ms : List (List Int)} {Q : VK} (ha : SqT K H a xs) (ra : Rows K H xs ns) (hb : SqT K H b ys) (rb : Rows K H ys ms) (q : Q (.bl (!decide (ns = ms))) H) : rNeD K (.ref a) (.ref b) H Q :=
  ⟨dTR ns, dTR ms, dp_trows ha ra, dp_trows hb rb, sh_trows ns, sh_trows ms, by rw [eqv_trows]; exact q⟩
theorem rows2 {K : PySem.W.Frag} {H : Hp} {a b : Addr} {ns ms : List Int} (ha : SqL K H a (ns.map V.int)) (hb : SqL K H b (ms.map V.int)) : Rows K H [.ref a, .ref b] [ns, ms] := .cons ⟨a, rfl, ha⟩ (.cons ⟨b, rfl, hb⟩ .nil)
/-! ### n in a list of ints -/
theorem inV_int (n : Int) (ns : List Int) : inV (.int n) (ns.map V.int) = decide (n ∈ ns) := by
  unfold inV
  rw [List.any_map]
  by_cases h : n ∈ ns
  · rw [decide_eq_true h, List.any_eq_true]
    exact ⟨n, h, by simp [eqV]⟩
  · rw [decide_eq_false h, List.any_eq_false]
    intro m hm
    have : m ≠ n := fun z => h (z ▸ hm)
    simp [eqV, this]
theorem flat_ints (ns : List Int) : (ns.map V.int).all flatV = true := by
  rw [List.all_map, List.all_eq_true]
  intro x _
  rfl
theorem in_ints {K : PySem.W.Frag} {H : Hp} {a : Addr} {n : Int} {ns : List Int} {Q : VK} (h : SqL K H a (ns.map V.int)) (q : Q (.bl (decide (n ∈ ns))) H) : rIn K false (.int n) (.ref a) H Q :=
  ⟨a, _, rfl, .inl h, rfl, flat_ints ns, by rw [inV_int]; exact q⟩
theorem nin_ints {K : PySem.W.Frag} {H : Hp} {a : Addr} {n : Int} {ns : List Int} {Q : VK} (h : SqL K H a (ns.map V.int)) (q : Q (.bl (!decide (n ∈ ns))) H) : rIn K true (.int n) (.ref a) H Q :=
  ⟨a, _, rfl, .inl h, rfl, flat_ints ns, by rw [inV_int]; exact q⟩
/-- a whole number within bounds -/
def amg (x : V) (lo hi : Int) : Bool := match x with
  | .int i => decide (lo ≤ i) && decide (i ≤ hi)
  | _ => false
theorem amg_nat {s : Nat} {lo hi : Int} (h : lo ≤ s) (h' : (s : Int) ≤ hi) : amg (.int s) lo hi = true := by
  show (decide (lo ≤ (s : Int)) && decide ((s : Int) ≤ hi)) = true
  rw [decide_eq_true h, decide_eq_true h'] <;> rfl
/-- a bit of a set, as the program asks for it -/
theorem bit_ask (s i : Nat) : Builtin.bitAnd ((s : Int) / ((2 ^ i : Nat) : Int)) 1 = ((s / 2 ^ i % 2 : Nat) : Int) := by
  rw [← Int.natCast_ediv, show (1 : Int) = ((1 : Nat) : Int) from rfl, band_nn, Nat.and_one_is_mod]
theorem bit_dec (s i : Nat) : decide (((s / 2 ^ i % 2 : Nat) : Int) = 1) = s.testBit i := by
  rw [Nat.testBit_eq_decide_div_mod_eq]
  by_cases h : s / 2 ^ i % 2 = 1
  · rw [decide_eq_true h, decide_eq_true (by omega)]
  · rw [decide_eq_false h, decide_eq_false (by omega)]
end SS

/-! the mirror: what the program's defs compute, as plain functions -/
namespace SS
open PySem PySem.Spec PyProof.Rows L2 Evl
/-! ### places of a list of ints -/
theorem at_int {ns : List Int} {i : Nat} (h : i < ns.length) : atI (ns.map V.int) (i : Int) = some (.int (ns.getD i 0)) := atI_nat (by
  rw [List.getElem?_map, List.getElem?_eq_getElem h, List.getD_eq_getElem?_getD, List.getElem?_eq_getElem h] <;> rfl)
theorem ix_int {ns : List Int} {i : Nat} (h : i < ns.length) : ixN (ns.map V.int).length (i : Int) = some i := Evl.ixN_nat (by rw [List.length_map]; exact h)
theorem set_int {ns : List Int} {i : Nat} {z : Int} : (ns.map V.int).set i (.int z) = (ns.set i z).map V.int := List.map_set.symm
def at0 (l : List Int) (i : Nat) : Int := l.getD i 0
/-- all below 2 ^ k -/
def Bd (k : Nat) (l : List Int) : Prop := ∀ x ∈ l, x.natAbs < 2 ^ k
/-- place by place -/
def addM (a b : List Int) : List Int := (List.range a.length).map fun i => at0 a i + at0 b i
def mulM (a b : List Int) : List Int := (List.range a.length).map fun i => at0 a i * at0 b i
theorem given_all {n : Nat} {v : Nat → V} : given n (fun _ => true) v = (List.range n).map v := by
  unfold given
  rw [List.filter_eq_self.mpr fun _ _ => rfl]
theorem Bd.at {k : Nat} {l : List Int} (h : Bd k l) (i : Nat) : (at0 l i).natAbs < 2 ^ k := by
  unfold at0
  rw [List.getD_eq_getElem?_getD]
  cases e : l[i]? with
  | none => exact Nat.two_pow_pos k
  | some z => exact h z (List.mem_of_getElem? e)
/-- two tables -/
def Two (K : PySem.W.Frag) (H : Hp) (x y : V) (good : Nat → List Int → List Int → Prop) (unlike bad : Prop) : Prop :=
  (∃ n ns ms, IsTab K H x n ns ∧ IsTab K H y n ms ∧ good n ns ms) ∨ (∃ n m ns ms, IsTab K H x n ns ∧ IsTab K H y m ms ∧ n ≠ m ∧ unlike) ∨ ((NoTab K H x ∨ (∃ n ns, IsTab K H x n ns) ∧ NoTab K H y) ∧ bad)
theorem Two.go {K : PySem.W.Frag} {H H' : Hp} {x y : V} {g g' : Nat → List Int → List Int → Prop} {u u' b b' : Prop} (h : Two K H x y g u b) (e : Ex H H') (hg : ∀ n ns ms, IsTab K H' x n ns → IsTab K H' y n ms → g n ns ms → g' n ns ms) (hu : u → u') (hb : b → b') : Two K H' x y g' u' b' := by
  rcases h with ⟨n, ns, ms, h1, h2, h3⟩ | ⟨n, m, ns, ms, h1, h2, h3, h4⟩ | ⟨h | ⟨⟨n, ns, h1⟩, h2⟩, h3⟩
  · exact .inl ⟨n, ns, ms, h1.mono e, h2.mono e, hg n ns ms (h1.mono e) (h2.mono e) h3⟩
  · exact .inr (.inl ⟨n, m, ns, ms, h1.mono e, h2.mono e, h3, hu h4⟩)
  · exact .inr (.inr ⟨.inl (h.mono e), hb h3⟩)
  · exact .inr (.inr ⟨.inr ⟨⟨n, ns, h1.mono e⟩, h2.mono e⟩, hb h3⟩)
/-! ### spread -/
def spStep (bit : Nat) (b : Int) (up : Bool) (l : List Int) (one : Nat) : List Int :=
  if one &&& bit = 0 then (if up = true then l.set (one ||| bit) (l.getD (one ||| bit) 0 + b * l.getD one 0) else l.set one (l.getD one 0 + b * l.getD (one ||| bit) 0)) else l
def spName (len : Nat) (b : Int) (up : Bool) (l : List Int) (name : Nat) : List Int := (List.range len).foldl (spStep (2 ^ name) b up) l
def spreadM (n : Nat) (b : Int) (up : Bool) (l : List Int) : List Int := (List.range n).foldl (spName l.length b up) l
theorem foldl_range_succ {α : Type} (f : α → Nat → α) (a : α) (n : Nat) : (List.range (n + 1)).foldl f a = f ((List.range n).foldl f a) n := by
  rw [List.range_succ, List.foldl_append] <;> rfl
theorem foldl_length {f : List Int → Nat → List Int} (hf : ∀ l i, (f l i).length = l.length) : ∀ (is : List Nat) (l : List Int), (is.foldl f l).length = l.length
  | [], l => rfl
  | i :: r, l => by rw [List.foldl_cons, foldl_length hf r, hf]
theorem spStep_length (bit : Nat) (b : Int) (up : Bool) (l : List Int) (one : Nat) : (spStep bit b up l one).length = l.length := by
  unfold spStep
  split
  · split <;> rw [List.length_set]
  · rfl
theorem spName_length (len : Nat) (b : Int) (up : Bool) (l : List Int) (name : Nat) : (spName len b up l name).length = l.length := foldl_length (spStep_length _ _ _) _ _
theorem spreadM_length (n : Nat) (b : Int) (up : Bool) (l : List Int) : (spreadM n b up l).length = l.length := foldl_length (spName_length _ _ _) _ _
/-! ### signed -/
def sgStep (bit : Nat) (l : List Int) (one : Nat) : List Int :=
  if one &&& bit = 0 then (l.set one (l.getD one 0 + l.getD (one ||| bit) 0)).set (one ||| bit) (l.getD one 0 - l.getD (one ||| bit) 0) else l
def sgName (len : Nat) (l : List Int) (name : Nat) : List Int := (List.range len).foldl (sgStep (2 ^ name)) l
def signedM (n : Nat) (l : List Int) : List Int := (List.range n).foldl (sgName l.length) l
theorem sgStep_length (bit : Nat) (l : List Int) (one : Nat) : (sgStep bit l one).length = l.length := by
  unfold sgStep
  split
  · rw [List.length_set, List.length_set]
  · rfl
theorem sgName_length (len : Nat) (l : List Int) (name : Nat) : (sgName len l name).length = l.length := foldl_length (sgStep_length _) _ _
theorem signedM_length (n : Nat) (l : List Int) : (signedM n l).length = l.length := foldl_length (sgName_length _) _ _
/-! ### the laws' own helpers -/
def cellM (ns : List Int) (k : Nat) : Int := ns.getD k 0 % 10 ^ 60
theorem cut1 (xs : List V) (k : Nat) : cutV xs (some (k : Int)) (some ((k : Int) + 1)) = (xs.drop k).take 1 := by
  unfold cutV
  rw [HT.sIx_nat, show ((k : Int) + 1) = ((k + 1 : Nat) : Int) by omega, HT.sIx_nat]
  by_cases h : k < xs.length
  · rw [show min k xs.length = k by omega, show min (k + 1) xs.length - k = 1 by omega]
  · rw [show min (k + 1) xs.length - min k xs.length = 0 by omega, List.take_zero, List.drop_eq_nil_of_le (by omega), List.take_nil]
theorem cell_at (ns : List Int) (k : Nat) : atI (((ns.map V.int).drop k).take 1 ++ [V.int 0]) 0 = some (.int (ns.getD k 0)) := by
  refine atI_nat (j := 0) ?_
  by_cases h : k < ns.length
  · rw [List.getD_eq_getElem?_getD, List.getElem?_eq_getElem h, List.drop_eq_getElem_cons (by rw [List.length_map]; exact h)]
    simp
  · rw [List.getD_eq_getElem?_getD, List.getElem?_eq_none (Nat.le_of_not_lt h), List.drop_eq_nil_of_le (by rw [List.length_map]; exact Nat.le_of_not_lt h)]
    rfl
def mixedM (ns : List Int) (k : Nat) : Int :=
  ((cellM ns (k % max 1 ns.length) + 7919 * k * k + 104729) * (cellM ns (k % max 1 ns.length) + 7919 * k * k + 104729) % 2147483647 * (48271 + 2 * k) % 998244353) / 11
theorem cellM_nn (ns : List Int) (k : Nat) : 0 ≤ cellM ns k := Int.emod_nonneg _ (by decide)
theorem cellM_lt (ns : List Int) (k : Nat) : cellM ns k < 10 ^ 60 := Int.emod_lt_of_pos _ (by decide)
theorem mixedM_nn (ns : List Int) (k : Nat) : 0 ≤ mixedM ns k := Int.ediv_nonneg (Int.emod_nonneg _ (by decide)) (by decide)
theorem mixedM_lt (ns : List Int) (k : Nat) : mixedM ns k < 90749487 := by
  unfold mixedM
  have h := Int.emod_lt_of_pos ((cellM ns (k % max 1 ns.length) + 7919 * k * k + 104729) * (cellM ns (k % max 1 ns.length) + 7919 * k * k + 104729) % 2147483647 * (48271 + 2 * k)) (show (0 : Int) < 998244353 by decide)
  omega
/-- the names of a set -/
def bitsN (m : Nat) : List Nat := (List.range 10).filter fun i => m.testBit i
def bitsM (m : Nat) : List Int := (bitsN m).map (fun i : Nat => (i : Int))
theorem bits_below {m : Nat} {n : Nat} (hn : n ≤ 10) (h : m / 2 ^ n = 0) : ((List.range n).filter fun i => m.testBit i) = bitsN m := by
  unfold bitsN
  have hlt : m < 2 ^ n := by
    rcases Nat.div_eq_zero_iff.mp h with h | h
    · exact absurd h (Nat.ne_of_gt (Nat.two_pow_pos n))
    · exact h
  obtain ⟨k, hk⟩ : ∃ k, 10 = n + k := ⟨10 - n, by omega⟩
  rw [hk, List.range_add, List.filter_append]
  have e : ((List.range k).map (n + ·)).filter (fun i => m.testBit i) = [] := by
    rw [List.filter_eq_nil_iff]
    intro i hi
    obtain ⟨j, _, rfl⟩ := List.mem_map.mp hi
    rw [Nat.testBit_lt_two_pow (Nat.lt_of_lt_of_le hlt (Nat.pow_le_pow_right (by decide) (Nat.le_add_right n j)))]
    decide
  rw [e, List.append_nil]
theorem bits_step (m n : Nat) : ((List.range (n + 1)).filter fun i => m.testBit i) = ((List.range n).filter fun i => m.testBit i) ++ (if m / 2 ^ n % 2 = 1 then [n] else []) := by
  rw [List.range_succ, List.filter_append]
  congr 1
  rw [List.filter_cons, List.filter_nil]
  have e : m.testBit n = decide (m / 2 ^ n % 2 = 1) := by
    rw [Nat.testBit_eq_decide_div_mod_eq]
  rw [e]
  by_cases h : m / 2 ^ n % 2 = 1
  · simp [h]
  · simp [h]
theorem rep0 (n : Nat) : (List.replicate n [V.int 0]).flatten = (List.replicate n (0 : Int)).map V.int := by
  induction n with
  | zero => rfl
  | succ n ih => rw [List.replicate_succ, List.flatten_cons, ih, List.replicate_succ] <;> rfl
theorem cut_to (xs : List V) (k : Nat) : cutV xs none (some (k : Int)) = xs.take k := by
  unfold cutV
  rw [HT.sIx_none, HT.sIx_nat, List.drop_zero, Nat.sub_zero]
  rcases Nat.le_total k xs.length with h | h
  · rw [Nat.min_eq_left h]
  · rw [Nat.min_eq_right h, List.take_of_length_le (Nat.le_refl _), List.take_of_length_le h]
theorem cut_len (xs : List V) (i j : Option Int) : (cutV xs i j).length ≤ xs.length := by
  unfold cutV
  rw [List.length_take, List.length_drop]
  omega
theorem cut_mem {xs : List V} {i j : Option Int} {y : V} (h : y ∈ cutV xs i j) : y ∈ xs := by
  unfold cutV at h
  exact List.mem_of_mem_drop (List.mem_of_mem_take h)
theorem len_rep (k : Nat) (xs : List V) : (List.replicate k xs).flatten.length = k * xs.length := by
  rw [List.length_flatten, List.map_replicate, List.sum_replicate_nat]
theorem all_rep (k : Nat) {xs : List V} (h : xs.all isI = true) : (List.replicate k xs).flatten.all isI = true := by
  rw [List.all_eq_true]
  intro y hy
  obtain ⟨l, hl, hy⟩ := List.mem_flatten.mp hy
  rw [(List.mem_replicate.mp hl).2] at hy
  exact List.all_eq_true.mp h y hy
theorem el_ints {K : PySem.W.Frag} {H : Hp} {xs : List V} (h : xs.all isI = true) : ∀ y ∈ xs, El K H y := fun y hy => by
  have h1 := List.all_eq_true.mp h y hy
  cases y with
  | int i => exact .int i
  | _ => cases h1
theorem noT_len {K : PySem.W.Frag} {H : Hp} {a : Addr} {xs : List V} (hx : SqL K H a xs) (h : xs.all isI = true) (hz : xs.length ≤ 40000) (hl : ∀ n, n ≤ 10 → xs.length ≠ 2 ^ n) : NoTab K H (.ref a) := .inr ⟨a, xs, rfl, hx, hz, el_ints h, .inr ⟨h, hl⟩⟩
theorem noT_item {K : PySem.W.Frag} {H : Hp} {a : Addr} {xs : List V} (hx : SqL K H a xs) (hz : xs.length ≤ 40000) (he : ∀ y ∈ xs, El K H y) (h : xs.all isI = false) : NoTab K H (.ref a) := .inr ⟨a, xs, rfl, hx, hz, he, .inl h⟩
theorem five_pow : ∀ n, n ≤ 10 → ∀ k, k ≤ 10 → 5 * 2 ^ n ≠ 2 ^ k := by decide
theorem three_pow : ∀ n, n ≤ 10 → ∀ k, k ≤ 10 → 3 * 2 ^ n ≠ 2 ^ k := by decide
/-- the drawn number that goes into a table -/
theorem more_at {m : Int} {z : Nat} (h0 : 0 ≤ m) (h1 : m < 10 ^ 60) (hz : z < 5) : ∃ y : Int, atI [V.int m, .int (0 - m), .int (m % 9), .int 1, .int (0 - m % 7)] (z : Int) = some (.int y) ∧ y.natAbs ≤ 10 ^ 60 := by
  have h9 := Int.emod_nonneg m (show (9 : Int) ≠ 0 by decide)
  have h9' := Int.emod_lt_of_pos m (show (0 : Int) < 9 by decide)
  have h7 := Int.emod_nonneg m (show (7 : Int) ≠ 0 by decide)
  have h7' := Int.emod_lt_of_pos m (show (0 : Int) < 7 by decide)
  match z, hz with
  | 0, _ => exact ⟨_, atI_nat rfl, by omega⟩
  | 1, _ => exact ⟨_, atI_nat (j := 1) rfl, by omega⟩
  | 2, _ => exact ⟨_, atI_nat (j := 2) rfl, by omega⟩
  | 3, _ => exact ⟨_, atI_nat (j := 3) rfl, by omega⟩
  | 4, _ => exact ⟨_, atI_nat (j := 4) rfl, by omega⟩
def moreM (m : Int) : Nat → Int
  | 0 => m
  | 1 => 0 - m
  | 2 => m % 9
  | 3 => 1
  | _ => 0 - m % 7
theorem more_atM {m : Int} {z : Nat} (h0 : 0 ≤ m) (h1 : m < 10 ^ 60) (hz : z < 5) : atI [V.int m, .int (0 - m), .int (m % 9), .int 1, .int (0 - m % 7)] (z : Int) = some (.int (moreM m z)) ∧ (moreM m z).natAbs ≤ 10 ^ 60 := by
  have h9 := Int.emod_nonneg m (show (9 : Int) ≠ 0 by decide)
  have h9' := Int.emod_lt_of_pos m (show (0 : Int) < 9 by decide)
  have h7 := Int.emod_nonneg m (show (7 : Int) ≠ 0 by decide)
  have h7' := Int.emod_lt_of_pos m (show (0 : Int) < 7 by decide)
  match z, hz with
  | 0, _ => exact ⟨atI_nat rfl, by simp only [moreM]; omega⟩
  | 1, _ => exact ⟨atI_nat (j := 1) rfl, by simp only [moreM]; omega⟩
  | 2, _ => exact ⟨atI_nat (j := 2) rfl, by simp only [moreM]; omega⟩
  | 3, _ => exact ⟨atI_nat (j := 3) rfl, by simp only [moreM]; omega⟩
  | 4, _ => exact ⟨atI_nat (j := 4) rfl, by simp only [moreM]; omega⟩
/-- the tables of the laws -/
def numM (ns : List Int) (turn k : Nat) : Int := ns.getD k 0 % 10 ^ 60 * (48271 + 2 * (turn : Int) + (k : Int)) % 10 ^ 60
def spotM (N : Nat) (ns : List Int) (turn k : Nat) : Nat := ((numM ns turn k / 485 + (k : Int) * (2 * (turn : Int) + 1)) % (N : Int)).toNat
def tabStep (N : Nat) (ns : List Int) (turn : Nat) (L : List Int) (k : Nat) : List Int :=
  L.set (spotM N ns turn k) (L.getD (spotM N ns turn k) 0 + moreM (numM ns turn k) ((numM ns turn k / 97 + (k : Int) + (turn : Int)) % 5).toNat)
def tableM (ns : List Int) (n turn : Nat) : List Int := (List.range ns.length).foldl (tabStep (2 ^ n) ns turn) (List.replicate (2 ^ n) 0)
theorem tabStep_length (N : Nat) (ns : List Int) (turn : Nat) (L : List Int) (k : Nat) : (tabStep N ns turn L k).length = L.length := by
  unfold tabStep
  rw [List.length_set]
theorem tableM_length (ns : List Int) (n turn : Nat) : (tableM ns n turn).length = 2 ^ n := by
  unfold tableM
  rw [foldl_length (tabStep_length _ _ _), List.length_replicate]
theorem numM_nn (ns : List Int) (turn k : Nat) : 0 ≤ numM ns turn k := Int.emod_nonneg _ (by decide)
theorem numM_lt (ns : List Int) (turn k : Nat) : numM ns turn k < 10 ^ 60 := Int.emod_lt_of_pos _ (by decide)
theorem five_lt (z : Int) : (z % 5).toNat < 5 ∧ (((z % 5).toNat : Nat) : Int) = z % 5 := by omega
theorem tab_step_bd {N : Nat} {ns L : List Int} {turn k : Nat} (h : ∀ x ∈ L, x.natAbs ≤ k * 10 ^ 60) : ∀ x ∈ tabStep N ns turn L k, x.natAbs ≤ (k + 1) * 10 ^ 60 := fun x hx => by
  have key : ∀ (u B : Nat), u ≤ k * B → u ≤ (k + 1) * B := fun u B h => Nat.le_trans h (Nat.mul_le_mul_right _ (Nat.le_succ k))
  have hyb := (more_atM (numM_nn ns turn k) (numM_lt ns turn k) (five_lt (numM ns turn k / 97 + (k : Int) + (turn : Int))).1).2
  unfold tabStep at hx
  rcases List.mem_or_eq_of_mem_set hx with hx | hx
  · exact key _ _ (h x hx)
  · have h4 : (L.getD (spotM N ns turn k) 0).natAbs ≤ k * 10 ^ 60 := by
      rw [List.getD_eq_getElem?_getD]
      cases e : L[spotM N ns turn k]? with
      | none => exact Nat.zero_le _
      | some z => exact h z (List.mem_of_getElem? e)
    rw [hx, Nat.succ_mul]
    exact Nat.le_trans (Int.natAbs_add_le _ _) (Nat.add_le_add h4 hyb)
theorem tableM_bd {ns : List Int} (h : ns.length ≤ 63) (n turn : Nat) : Bd 212 (tableM ns n turn) := fun x hx => by
  have key : ∀ i, ∀ x ∈ (List.range i).foldl (tabStep (2 ^ n) ns turn) (List.replicate (2 ^ n) 0), x.natAbs ≤ i * 10 ^ 60 := by
    intro i
    induction i with
    | zero =>
      intro x hx
      rw [(List.mem_replicate.mp hx).2]
      exact Nat.zero_le _
    | succ i ih =>
      rw [foldl_range_succ]
      exact tab_step_bd ih
  have h1 := key _ x hx
  have h2 : ns.length * 10 ^ 60 ≤ 63 * 10 ^ 60 := Nat.mul_le_mul_right _ h
  have h3 : 63 * 10 ^ 60 < 2 ^ 212 := by decide
  omega
/-! ### law k03: the sums set by set -/
def bothM (s o : Nat) : Nat := ((bitsM s).filter fun b => decide (b ∈ bitsM o)).length
def weiM (way : Nat) (s o : Nat) : Int :=
  if way = 0 then (if bothM s o = (bitsM o).length then 1 else 0) else if way = 1 then (if bothM s o = (bitsM s).length then 1 else 0) else 1 - 2 * ((bothM s o % 2 : Nat) : Int)
def totM (way : Nat) (t : List Int) (s n : Nat) : Int := (List.range n).foldl (fun tot o => tot + t.getD o 0 * weiM way s o) 0
def dueM (way : Nat) (t : List Int) : List Int := (List.range t.length).map fun s => totM way t s t.length
theorem bitsM_len (m : Nat) : (bitsM m).length ≤ 10 := by
  unfold bitsM bitsN
  rw [List.length_map]
  have := List.length_filter_le (fun i => m.testBit i) (List.range 10)
  rw [List.length_range] at this
  exact this
end SS

/-! the mirror of products and ranks -/
namespace SS
open PySem PySem.Spec PyProof.Rows L2 Evl
def joinedM (n : Nat) (a b : List Int) : List Int := spreadM n (-1) true (mulM (spreadM n 1 true a) (spreadM n 1 true b))
def metM (n : Nat) (a b : List Int) : List Int := spreadM n (-1) false (mulM (spreadM n 1 false a) (spreadM n 1 false b))
def fromSgM (n : Nat) (l : List Int) : List Int := (signedM n l).map fun z => z / ((2 ^ n : Nat) : Int)
def crossedM (n : Nat) (a b : List Int) : List Int := fromSgM n (mulM (signedM n a) (signedM n b))
def ofSizeM (k : Nat) (l : List Int) : List Int := (List.range l.length).map fun i => at0 l i * (if (bitsN i).length = k then 1 else 0)
def rankM (n k : Nat) (l : List Int) : List Int := spreadM n 1 true (ofSizeM k l)
def totalM (n k : Nat) (a b : List Int) (m : Nat) : List Int := (List.range m).foldl (fun tot j => addM tot (mulM (rankM n j a) (rankM n (k - j) b))) (List.replicate a.length 0)
def backM (n : Nat) (rows : Nat → List Int) : List Int := (List.range (2 ^ n)).map fun s => at0 (spreadM n (-1) true (rows (bitsN s).length)) s
def apartM (n : Nat) (a b : List Int) : List Int := backM n fun k => totalM n k a b (k + 1)
def putM : Nat → Nat → List Int → List Int → List Int
  | 0 => joinedM
  | 1 => metM
  | 2 => crossedM
  | _ => apartM
def sumM : Nat → Nat → List Int → List Int
  | 0 => fun n => spreadM n 1 true
  | 1 => fun n => spreadM n 1 false
  | _ => signedM
theorem mulM_length (a b : List Int) : (mulM a b).length = a.length := by unfold mulM; rw [List.length_map, List.length_range]
theorem addM_length (a b : List Int) : (addM a b).length = a.length := by unfold addM; rw [List.length_map, List.length_range]
theorem joinedM_length (n : Nat) (a b : List Int) : (joinedM n a b).length = a.length := by unfold joinedM; rw [spreadM_length, mulM_length, spreadM_length]
theorem metM_length (n : Nat) (a b : List Int) : (metM n a b).length = a.length := by unfold metM; rw [spreadM_length, mulM_length, spreadM_length]
theorem fromSgM_length (n : Nat) (a : List Int) : (fromSgM n a).length = a.length := by unfold fromSgM; rw [List.length_map, signedM_length]
theorem crossedM_length (n : Nat) (a b : List Int) : (crossedM n a b).length = a.length := by unfold crossedM; rw [fromSgM_length, mulM_length, signedM_length]
theorem ofSizeM_length (k : Nat) (a : List Int) : (ofSizeM k a).length = a.length := by unfold ofSizeM; rw [List.length_map, List.length_range]
theorem rankM_length (n k : Nat) (a : List Int) : (rankM n k a).length = a.length := by unfold rankM; rw [spreadM_length, ofSizeM_length]
theorem totalM_length (n k : Nat) (a b : List Int) (m : Nat) : (totalM n k a b m).length = a.length := by
  unfold totalM
  rw [foldl_length (fun l i => addM_length l _), List.length_replicate]
theorem apartM_length (n : Nat) (a b : List Int) : (apartM n a b).length = 2 ^ n := by unfold apartM backM; rw [List.length_map, List.length_range]
theorem putM_length (way n : Nat) (a b : List Int) (h : a.length = 2 ^ n) : (putM way n a b).length = 2 ^ n := by
  match way with
  | 0 => exact (joinedM_length n a b).trans h
  | 1 => exact (metM_length n a b).trans h
  | 2 => exact (crossedM_length n a b).trans h
  | _ + 3 => exact apartM_length n a b
theorem sumM_length (way n : Nat) (a : List Int) : (sumM way n a).length = a.length := by
  match way with
  | 0 => exact spreadM_length _ _ _ _
  | 1 => exact spreadM_length _ _ _ _
  | _ + 2 => exact signedM_length _ _
/-- a set of n names has no more of them -/
theorem bits_few {n i : Nat} (h : i < 2 ^ n) : (bitsN i).length < n + 1 := by
  unfold bitsN
  by_cases hn : n ≤ 10
  · rw [← bitsN, ← bits_below hn (Nat.div_eq_of_lt h)]
    have := List.length_filter_le (fun k => i.testBit k) (List.range n)
    rw [List.length_range] at this
    omega
  · have := List.length_filter_le (fun k => i.testBit k) (List.range 10)
    rw [List.length_range] at this
    omega
/-- lists of one's own: unlike, new over S, each with what lies in it -/
structure Own (S H : Hp) (us : List (Addr × List V)) : Prop where
  nd : (us.map (·.1)).Nodup
  new : ∀ p ∈ us, S p.1 = none
  at_ : ∀ p ∈ us, H p.1 = some (.lst p.2)
theorem Own.nil {S H : Hp} : Own S H [] := ⟨List.nodup_nil, by simp, by simp⟩
theorem Own.mono {S H H' : Hp} {us : List (Addr × List V)} (o : Own S H us) (e : Ex H H') : Own S H' us := ⟨o.nd, o.new, fun p hp => e _ _ (o.at_ p hp)⟩
theorem Own.snoc {S H H' : Hp} {us : List (Addr × List V)} {u : Addr} {T : List V} (o : Own S H us) (e0 : Ex S H) (n : H u = none) (e : Ex H H') (h : H' u = some (.lst T)) : Own S H' (us ++ [(u, T)]) := by
  refine ⟨?_, fun p hp => ?_, fun p hp => ?_⟩
  · rw [List.map_append, List.nodup_append]
    refine ⟨o.nd, by simp, fun a ha b hb => ?_⟩
    obtain ⟨p, hp, rfl⟩ := List.mem_map.mp ha
    have hb2 : b = u := by simpa using hb
    intro z
    have h1 := o.at_ p hp
    rw [z, hb2, n] at h1
    cases h1
  · rcases List.mem_append.mp hp with hp | hp
    · exact o.new p hp
    · rw [List.mem_singleton.mp hp]
      exact fresh_back e0 n
  · rcases List.mem_append.mp hp with hp | hp
    · exact e _ _ (o.at_ p hp)
    · rw [List.mem_singleton.mp hp]
      exact h
theorem Own.mut {S H : Hp} {u : Addr} {T : List V} {us : List (Addr × List V)} {x : HO} (o : Own S H ((u, T) :: us)) : Own S (upd H u x) us := by
  have nd := o.nd
  rw [List.map_cons, List.nodup_cons] at nd
  refine ⟨nd.2, fun p hp => o.new p (List.mem_cons_of_mem _ hp), fun p hp => ?_⟩
  rw [upd_ne (fun z => nd.1 (by rw [← z]; exact List.mem_map.mpr ⟨p, hp, rfl⟩))]
  exact o.at_ p (List.mem_cons_of_mem _ hp)
theorem Own.ne {S H : Hp} {us : List (Addr × List V)} {f : Addr} (o : Own S H us) (n : H f = none) : ∀ p ∈ us, p.1 ≠ f := fun p hp z => by
  have := o.at_ p hp
  rw [z, n] at this
  cases this
theorem Own.head {S H : Hp} {u : Addr} {T : List V} {us : List (Addr × List V)} (o : Own S H ((u, T) :: us)) : S u = none ∧ H u = some (.lst T) := ⟨o.new (u, T) (List.mem_cons_self ..), o.at_ (u, T) (List.mem_cons_self ..)⟩
theorem Own.at_turn {us : List (Addr × List V)} {i : Nat} {x : V} (h : (us.map fun p => V.ref p.1)[i]? = some x) : ∃ u T, x = .ref u ∧ (u, T) ∈ us ∧ us.drop i = (u, T) :: us.drop (i + 1) := by
  rw [List.getElem?_map] at h
  cases e : us[i]? with
  | none => rw [e] at h; cases h
  | some p =>
    rw [e] at h
    obtain ⟨u, T⟩ := p
    obtain ⟨hi, he⟩ := List.getElem?_eq_some_iff.mp e
    refine ⟨u, T, (Option.some.inj h).symm, List.mem_of_getElem? e, ?_⟩
    rw [List.drop_eq_getElem_cons hi, he]
/-- all but one object -/
def hid (H : Hp) (f : Addr) : Hp := fun b => if b = f then none else H b
theorem hid_at {H : Hp} {f : Addr} : hid H f f = none := if_pos rfl
theorem hid_ne {H : Hp} {f b : Addr} (h : b ≠ f) : hid H f b = H b := if_neg h
theorem hid_ex {H : Hp} {f : Addr} : Ex (hid H f) H := fun b o h => by
  by_cases e : b = f
  · subst e
    rw [hid_at] at h
    cases h
  · rw [hid_ne e] at h
    exact h
theorem ex_hid {S H : Hp} {f : Addr} (e : Ex S H) (h : S f = none) : Ex S (hid H f) := fun b o hb => by
  have hbf : b ≠ f := fun z => by rw [z, h] at hb; cases hb
  rw [hid_ne hbf]
  exact e b o hb
theorem hid_upd {H : Hp} {f : Addr} {o : HO} : Ex (hid H f) (upd H f o) := Ex.mut hid_ex hid_at
/-! ### sums over pairs, as the laws go through them -/
def dueStep (ok : Nat → Nat → Bool) (spot : Nat → Nat → Nat) (A B : List Int) (x : Nat) (L : List Int) (y : Nat) : List Int := if ok x y = true then L.set (spot x y) (at0 L (spot x y) + at0 A x * at0 B y) else L
def dueRow (N : Nat) (ok : Nat → Nat → Bool) (spot : Nat → Nat → Nat) (A B : List Int) (L : List Int) (x : Nat) : List Int := (List.range N).foldl (dueStep ok spot A B x) L
def dueP (N : Nat) (ok : Nat → Nat → Bool) (spot : Nat → Nat → Nat) (A B : List Int) : List Int := (List.range N).foldl (dueRow N ok spot A B) (List.replicate N 0)
theorem dueStep_length (ok : Nat → Nat → Bool) (spot : Nat → Nat → Nat) (A B : List Int) (x : Nat) (L : List Int) (y : Nat) : (dueStep ok spot A B x L y).length = L.length := by
  unfold dueStep
  split
  · rw [List.length_set]
  · rfl
theorem dueRow_length (N : Nat) (ok : Nat → Nat → Bool) (spot : Nat → Nat → Nat) (A B L : List Int) (x : Nat) : (dueRow N ok spot A B L x).length = L.length := foldl_length (dueStep_length _ _ _ _ _) _ _
theorem dueP_length (N : Nat) (ok : Nat → Nat → Bool) (spot : Nat → Nat → Nat) (A B : List Int) : (dueP N ok spot A B).length = N := by
  unfold dueP
  rw [foldl_length (dueRow_length _ _ _ _ _), List.length_replicate]
def namesI (f : Nat → Bool) : List Int := ((List.range 5).filter f).map fun i : Nat => (i : Int)
def spotI (l : List Int) : Int := (l.map fun z => 1 * ((2 ^ z.toNat : Nat) : Int)).sum
def spotChk : Bool := (List.range 16).all fun x => (List.range 16).all fun y => decide (spotI (namesI fun i => decide ((i : Int) ∈ bitsM x) && decide ((i : Int) ∈ bitsM y)) = ((x &&& y : Nat) : Int)) && decide (spotI (namesI fun i => decide ((i : Int) ∈ bitsM x) || decide ((i : Int) ∈ bitsM y)) = ((x ||| y : Nat) : Int))
theorem spotChk_ok : spotChk = true := by decide +kernel
theorem spots {x y : Nat} (hx : x < 16) (hy : y < 16) : spotI (namesI fun i => decide ((i : Int) ∈ bitsM x) && decide ((i : Int) ∈ bitsM y)) = ((x &&& y : Nat) : Int) ∧ spotI (namesI fun i => decide ((i : Int) ∈ bitsM x) || decide ((i : Int) ∈ bitsM y)) = ((x ||| y : Nat) : Int) := by
  have h1 := List.all_eq_true.mp spotChk_ok x (List.mem_range.mpr hx)
  have h2 := List.all_eq_true.mp h1 y (List.mem_range.mpr hy)
  rw [Bool.and_eq_true, decide_eq_true_eq, decide_eq_true_eq] at h2
  exact h2
theorem namesI_mem {f : Nat → Bool} {z : Int} (h : z ∈ namesI f) : ∃ i : Nat, z = i ∧ i < 5 := by
  obtain ⟨i, hi, rfl⟩ := List.mem_map.mp h
  exact ⟨i, rfl, List.mem_range.mp (List.mem_filter.mp hi).1⟩
theorem namesI_len (f : Nat → Bool) : (namesI f).length ≤ 5 := by
  unfold namesI
  rw [List.length_map]
  have := List.length_filter_le f (List.range 5)
  rw [List.length_range] at this
  exact this
def bothL (x y : Nat) : List Int := (bitsM x).filter fun z => decide (z ∈ bitsM y)
def aloneL (x y : Nat) : List Int := (bitsM x ++ bitsM y).filter fun z => !decide (z ∈ bothL x y)
def aloneChk : Bool := (List.range 16).all fun x => (List.range 16).all fun y => (decide (bothL x y = []) == decide (x &&& y = 0)) && decide (spotI (aloneL x y) = ((x ^^^ y : Nat) : Int))
theorem aloneChk_ok : aloneChk = true := by decide +kernel
theorem alone {x y : Nat} (hx : x < 16) (hy : y < 16) : decide (bothL x y = []) = decide (x &&& y = 0) ∧ spotI (aloneL x y) = ((x ^^^ y : Nat) : Int) := by
  have h1 := List.all_eq_true.mp aloneChk_ok x (List.mem_range.mpr hx)
  have h2 := List.all_eq_true.mp h1 y (List.mem_range.mpr hy)
  rw [Bool.and_eq_true, beq_iff_eq, decide_eq_true_eq] at h2
  exact h2
theorem bitsM_mem {x : Nat} {z : Int} (h : z ∈ bitsM x) : ∃ i : Nat, z = i ∧ i < 10 := by
  obtain ⟨i, hi, rfl⟩ := List.mem_map.mp h
  exact ⟨i, rfl, List.mem_range.mp (List.mem_filter.mp hi).1⟩
theorem aloneL_mem {x y : Nat} {z : Int} (h : z ∈ aloneL x y) : ∃ i : Nat, z = i ∧ i < 10 := by
  rcases List.mem_append.mp (List.mem_filter.mp h).1 with h | h
  · exact bitsM_mem h
  · exact bitsM_mem h
theorem aloneL_len (x y : Nat) : (aloneL x y).length ≤ 20 := by
  have h1 := List.length_filter_le (fun z => !decide (z ∈ bothL x y)) (bitsM x ++ bitsM y)
  have h2 := bitsM_len x
  have h3 := bitsM_len y
  rw [List.length_append] at h1
  unfold aloneL
  omega
theorem bits_all : ∀ n, n ≤ 10 → (bitsM (2 ^ n - 1)).length = n := by decide +kernel
end SS

/-! the mirror of names told otherwise -/
namespace SS
open PySem PySem.Spec PyProof.Rows L2 Evl
/-- a set without the name m -/
def wbM (m s : Nat) : Nat := (s &&& (2 ^ m - 1)) ||| (s / 2 ^ (m + 1) * 2 ^ m)
def withM (m : Nat) (a b : List Int) : List Int := (List.range (2 * a.length)).map fun s => if s.testBit m = true then at0 b (wbM m s) else at0 a (wbM m s)
def partM (m : Nat) (w : Bool) (l : List Int) : List Int := ((List.range l.length).filter fun s => s.testBit m == w).map fun s => at0 l s
/-- a set, its names told by an order -/
def reN (ord : List Nat) (s : Nat) : Nat := ((bitsN s).map fun k => 2 ^ ord.getD k 0).sum
def reM (ord : List Nat) (l : List Int) : List Int := (List.range l.length).map fun s => at0 l (reN ord s)
/-! ### orders -/
def ordI (ord : List Nat) : List Int := ord.map fun i : Nat => (i : Int)
def IsOrd (K : PySem.W.Frag) (H : Hp) (x : V) (n : Nat) (ord : List Nat) : Prop := ∃ a, x = .ref a ∧ SqL K H a ((ordI ord).map V.int) ∧ List.Perm ord (List.range n)
def NoOrd (K : PySem.W.Frag) (H : Hp) (x : V) (n : Nat) : Prop := (∃ t, Kd K H x t ∧ t ≠ .lst) ∨
  ∃ a xs, x = .ref a ∧ SqL K H a xs ∧ xs.length ≤ 40000 ∧ (∀ y ∈ xs, El K H y) ∧ ((xs.all fun y => amg y 0 ((n : Int) - 1)) = false ∨ ∃ ord : List Nat, xs = (ordI ord).map V.int ∧ ord.length < 64 ∧ ¬ List.Perm ord (List.range n))
theorem IsOrd.mono {K : PySem.W.Frag} {H H' : Hp} {x : V} {n : Nat} {ord : List Nat} (e : Ex H H') (h : IsOrd K H x n ord) : IsOrd K H' x n ord := by
  obtain ⟨a, rfl, h1, h2⟩ := h
  exact ⟨a, rfl, ex_l e h1, h2⟩
theorem NoOrd.mono {K : PySem.W.Frag} {H H' : Hp} {x : V} {n : Nat} (e : Ex H H') (h : NoOrd K H x n) : NoOrd K H' x n := by
  rcases h with ⟨t, k, q⟩ | ⟨a, xs, rfl, h1, h2, h3, h4⟩
  · exact .inl ⟨t, kd_mono e k, q⟩
  · exact .inr ⟨a, xs, rfl, ex_l e h1, h2, fun y hy => (h3 y hy).mono e, h4⟩
theorem sorted_is {ord : List Nat} {n : Nat} {ns : List Int} (hp : ns.Perm (ordI ord)) (hs : ns.Pairwise (· ≤ ·)) : ns = ordI (List.range n) ↔ List.Perm ord (List.range n) := by
  have inj : ∀ {l m : List Nat}, (ordI l).Perm (ordI m) → l.Perm m := fun {l m} h => by
    have h2 := h.map Int.toNat
    unfold ordI at h2
    rw [List.map_map, List.map_map] at h2
    have e : ∀ l : List Nat, l.map (Int.toNat ∘ fun i : Nat => (i : Int)) = l := fun l => by
      conv => rhs; rw [← List.map_id l]
      exact List.map_congr_left fun a _ => Int.toNat_natCast a
    rwa [e, e] at h2
  constructor
  · intro h
    rw [h] at hp
    exact (inj hp).symm
  · intro h
    refine List.Perm.eq_of_pairwise (le := (· ≤ ·)) (fun a b _ _ h1 h2 => Int.le_antisymm h1 h2) hs ?_ (hp.trans (h.map _))
    unfold ordI
    rw [List.pairwise_map]
    exact List.pairwise_lt_range.imp fun h => by omega
/-- the halves of two tables put together, out of the four parts -/
def halfM (way n : Nat) (A B C D : List Int) : Bool → List Int
  | false => match way with
    | 0 => putM way n A C
    | 1 => addM (putM way n A C) (addM (putM way n A D) (putM way n B C))
    | 2 => addM (putM way n A C) (putM way n B D)
    | _ => putM way n A C
  | true => match way with
    | 0 => addM (addM (putM way n A D) (putM way n B C)) (putM way n B D)
    | 1 => putM way n B D
    | 2 => addM (putM way n A D) (putM way n B C)
    | _ => addM (putM way n A D) (putM way n B C)
def sumsM (way n : Nat) (A B : List Int) : Bool → List Int
  | false => match way with
    | 0 => sumM way n A
    | _ => addM (sumM way n A) (sumM way n B)
  | true => match way with
    | 0 => addM (sumM way n A) (sumM way n B)
    | 1 => sumM way n B
    | _ => addM (sumM way n A) ((sumM way n B).map fun z => 0 - z)
end SS

/-! lists of sets, and what is none -/
namespace SS
open PySem PySem.Spec PyProof.Rows L2 Evl
/-- a list of at most forty sets of n names -/
def IsSets (K : PySem.W.Frag) (H : Hp) (x : V) (n : Nat) (l : List Nat) : Prop := ∃ a, x = .ref a ∧ SqL K H a ((ordI l).map V.int) ∧ l.length ≤ 40 ∧ ∀ k ∈ l, k < 2 ^ n
def NoSets (K : PySem.W.Frag) (H : Hp) (x : V) (n : Nat) : Prop := (∃ t, Kd K H x t ∧ t ≠ .lst) ∨
  ∃ a xs, x = .ref a ∧ SqL K H a xs ∧ xs.length ≤ 1000 ∧ (40 < xs.length ∨ ((∀ y ∈ xs, El K H y) ∧ ∃ y ∈ xs, amg y 0 (2 ^ n - 1) = false))
theorem IsSets.mono {K : PySem.W.Frag} {H H' : Hp} {x : V} {n : Nat} {l : List Nat} (e : Ex H H') (h : IsSets K H x n l) : IsSets K H' x n l := by
  obtain ⟨a, rfl, h1, h2⟩ := h
  exact ⟨a, rfl, ex_l e h1, h2⟩
theorem NoSets.mono {K : PySem.W.Frag} {H H' : Hp} {x : V} {n : Nat} (e : Ex H H') (h : NoSets K H x n) : NoSets K H' x n := by
  rcases h with ⟨t, k, q⟩ | ⟨a, xs, rfl, h1, h2, h3⟩
  · exact .inl ⟨t, kd_mono e k, q⟩
  · exact .inr ⟨a, xs, rfl, ex_l e h1, h2, h3.imp id fun ⟨h4, h5⟩ => ⟨fun y hy => (h4 y hy).mono e, h5⟩⟩
theorem get_ordI {l : List Nat} {i : Nat} {x : V} (h : ((ordI l).map V.int)[i]? = some x) : ∃ k : Nat, l[i]? = some k ∧ x = .int (k : Nat) := by
  unfold ordI at h
  rw [List.getElem?_map, List.getElem?_map] at h
  cases e : l[i]? with
  | none => rw [e] at h; cases h
  | some k => rw [e] at h; exact ⟨k, rfl, (Option.some.inj h).symm⟩
theorem len_ordI (l : List Nat) : ((ordI l).map V.int).length = l.length := by unfold ordI; rw [List.length_map, List.length_map]
end SS

/-! lists of rows that grow -/
namespace SS
open PySem PySem.Spec PyProof.Rows L2 Evl
theorem RowsF.upd {B H : Hp} {p : Addr} {o : HO} (hp : B p ≠ none) : ∀ {xs : List V} {rows : List (List Int)}, RowsF B H xs rows → RowsF B (upd H p o) xs rows
  | _, _, .nil => .nil
  | _, _, .cons ⟨a, h, n, q⟩ t => .cons ⟨a, h, n, by rw [upd_ne (fun z => hp (by rw [← z]; exact n))]; exact q⟩ (RowsF.upd hp t)
theorem RowsF.base {B B' H : Hp} (e : ∀ a, B' a = none → B a = none) : ∀ {xs : List V} {rows : List (List Int)}, RowsF B' H xs rows → RowsF B H xs rows
  | _, _, .nil => .nil
  | _, _, .cons ⟨a, h, n, q⟩ t => .cons ⟨a, h, e a n, q⟩ (RowsF.base e t)
theorem RowsF.append {B H : Hp} {ys : List V} {rs : List (List Int)} (h2 : RowsF B H ys rs) : ∀ {xs : List V} {rows : List (List Int)}, RowsF B H xs rows → RowsF B H (xs ++ ys) (rows ++ rs)
  | _, _, .nil => h2
  | _, _, .cons p t => .cons p (RowsF.append h2 t)
theorem wl_rowsI {σ : L2.St} {H : Hp} {te : TE} {j : Nat} {vs : List Nat} {lo : Int} {n : Nat} {r : Nat → List Int} {Q : VK} (hz : n ≤ 40000) (hw : ∀ x, wipe ((wipe σ vs).set j (some x)) vs = wipe σ vs)
    (he : ∀ (k : Nat) H1, k < n → Ex H H1 → EvL te ((wipe σ vs).set j (some (.int (lo + (k : Int))))) H1 ((r k).map V.int))
    (q : ∀ p xs H2, H p = none → Ex H H2 → H2 p = some (.lst xs) → RowsF H H2 xs ((List.range n).map r) → Q (.ref p) H2) : WLc (Itr lo n) (gName j) tYes te vs σ H Q := fun Dl hD =>
  rows_step (J := Itr lo n) (r := r) (te := te) (fun k H2 e2 hk => hk) (fun H2 e2 => Nat.le_refl _) hz
    (fun k x H2 H3 hk e2 y => by
      obtain ⟨e3, rfl⟩ := y
      subst e3
      refine ⟨Ex.refl _, fun Dl hD hn => ⟨rfl, fun R hR => ?_⟩⟩
      exact hR _ (hw _) (he k H hk (Ex.refl _)))
    (fun p xs H2 hp e2 hl hr => q p xs H2 hp e2 hl hr) Dl hD
end SS

/-! plain mathematics: sums over sets, kernels that are products over names -/
namespace SS
/-! ### finite sums -/
def sm : Nat → (Nat → Int) → Int
  | 0, _ => 0
  | n + 1, f => sm n f + f n
theorem sm_congr {n : Nat} {f g : Nat → Int} (h : ∀ i, i < n → f i = g i) : sm n f = sm n g := by
  induction n with
  | zero => rfl
  | succ n ih => rw [sm, sm, ih fun i hi => h i (by omega), h n (by omega)]
theorem sm_zero (n : Nat) : sm n (fun _ => 0) = 0 := by
  induction n with
  | zero => rfl
  | succ n ih => rw [sm, ih] <;> rfl
theorem sm_add (n : Nat) (f g : Nat → Int) : sm n (fun i => f i + g i) = sm n f + sm n g := by
  induction n with
  | zero => rfl
  | succ n ih => rw [sm, sm, sm, ih]; omega
theorem sm_mul (n : Nat) (c : Int) (f : Nat → Int) : sm n (fun i => c * f i) = c * sm n f := by
  induction n with
  | zero => rw [sm, sm, Int.mul_zero]
  | succ n ih => rw [sm, sm, ih, Int.mul_add]
theorem sm_mulr (n : Nat) (c : Int) (f : Nat → Int) : sm n (fun i => f i * c) = sm n f * c := by
  rw [Int.mul_comm, ← sm_mul]
  exact sm_congr fun i _ => Int.mul_comm _ _
theorem sm_neg (n : Nat) (f : Nat → Int) : sm n (fun i => - f i) = - sm n f := by
  induction n with
  | zero => rfl
  | succ n ih => rw [sm, sm, ih]; omega
theorem sm_sub (n : Nat) (f g : Nat → Int) : sm n (fun i => f i - g i) = sm n f - sm n g := by
  induction n with
  | zero => rfl
  | succ n ih => rw [sm, sm, sm, ih]; omega
theorem sm_swap (n m : Nat) (f : Nat → Nat → Int) : sm n (fun i => sm m (f i)) = sm m (fun j => sm n (fun i => f i j)) := by
  induction n with
  | zero => rw [sm]; exact (sm_zero m).symm
  | succ n ih =>
    rw [sm, ih, ← sm_add]
    rfl
theorem sm_app (n m : Nat) (f : Nat → Int) : sm (n + m) f = sm n f + sm m (fun i => f (n + i)) := by
  induction m with
  | zero => rw [sm]; exact (Int.add_zero _).symm
  | succ m ih =>
    show sm (n + m) f + f (n + m) = sm n f + (sm m (fun i => f (n + i)) + f (n + m))
    rw [ih]
    omega
/-- one place -/
theorem sm_at {n j : Nat} (h : j < n) (f : Nat → Int) : sm n (fun i => (if i = j then 1 else 0) * f i) = f j := by
  induction n with
  | zero => omega
  | succ n ih =>
    rw [sm]
    by_cases e : n = j
    · subst e
      rw [if_pos rfl, sm_congr (g := fun _ => 0) fun i hi => by rw [if_neg (by omega), Int.zero_mul], sm_zero, Int.one_mul, Int.zero_add]
    · rw [if_neg e, Int.zero_mul, Int.add_zero, ih (by omega)]
theorem foldl_sm (n : Nat) (f : Nat → Int) (c : Int) : (List.range n).foldl (fun a i => a + f i) c = c + sm n f := by
  induction n with
  | zero => exact (Int.add_zero c).symm
  | succ n ih =>
    rw [List.range_succ, List.foldl_append, ih]
    show c + sm n f + f n = c + (sm n f + f n)
    omega
/-! ### products over names -/
def pr : Nat → (Nat → Int) → Int
  | 0, _ => 1
  | n + 1, u => pr n u * u n
theorem pr_congr {n : Nat} {f g : Nat → Int} (h : ∀ i, i < n → f i = g i) : pr n f = pr n g := by
  induction n with
  | zero => rfl
  | succ n ih => rw [pr, pr, ih fun i hi => h i (by omega), h n (by omega)]
theorem pr_mul (n : Nat) (f g : Nat → Int) : pr n (fun i => f i * g i) = pr n f * pr n g := by
  induction n with
  | zero => rfl
  | succ n ih =>
    rw [pr, pr, pr, ih]
    grind
theorem pr_one (n : Nat) : pr n (fun _ => 1) = 1 := by
  induction n with
  | zero => rfl
  | succ n ih => rw [pr, ih] <;> rfl
theorem pr_const (n : Nat) (c : Int) : pr n (fun _ => c) = c ^ n := by
  induction n with
  | zero => exact (Int.pow_zero c).symm
  | succ n ih => rw [pr, ih, Int.pow_succ]
/-! ### bits -/
theorem bit_add {n z k : Nat} (hz : z < 2 ^ n) (h : k < n) : (2 ^ n + z).testBit k = z.testBit k := Nat.testBit_two_pow_add_gt h z
theorem bit_top {n z : Nat} (hz : z < 2 ^ n) : (2 ^ n + z).testBit n = true := by
  rw [Nat.testBit_two_pow_add_eq, Nat.testBit_lt_two_pow hz] <;> rfl
theorem bit_low {n z : Nat} (hz : z < 2 ^ n) : z.testBit n = false := Nat.testBit_lt_two_pow hz
theorem sm_double (n : Nat) (f : Nat → Int) : sm (2 ^ (n + 1)) f = sm (2 ^ n) f + sm (2 ^ n) (fun z => f (2 ^ n + z)) := by
  rw [Nat.pow_succ, Nat.mul_two, sm_app]
/-- a sum over all sets of a product over names -/
theorem sm_pr (n : Nat) (u : Nat → Bool → Int) : sm (2 ^ n) (fun z => pr n (fun k => u k (z.testBit k))) = pr n (fun k => u k false + u k true) := by
  induction n with
  | zero => rfl
  | succ n ih =>
    rw [sm_double, pr, ← ih, Int.mul_add, ← sm_mulr, ← sm_mulr]
    congr 1
    · refine sm_congr fun z hz => ?_
      rw [pr, bit_low hz]
    · refine sm_congr fun z hz => ?_
      rw [pr, bit_top hz]
      congr 1
      exact pr_congr fun k hk => by rw [bit_add hz hk]
theorem eq_bits {n x y : Nat} (hx : x < 2 ^ n) (hy : y < 2 ^ n) (h : ∀ k, k < n → x.testBit k = y.testBit k) : x = y := by
  refine Nat.eq_of_testBit_eq fun k => ?_
  by_cases hk : k < n
  · exact h k hk
  · have hp : 2 ^ n ≤ 2 ^ k := Nat.pow_le_pow_right (by decide) (by omega)
    rw [Nat.testBit_lt_two_pow (by omega), Nat.testBit_lt_two_pow (by omega)]
/-! ### kernels -/
abbrev Mx := Bool → Bool → Int
def ker (m : Mx) (n s o : Nat) : Int := pr n fun k => m (s.testBit k) (o.testBit k)
def tr (m : Mx) (n : Nat) (f : Nat → Int) (s : Nat) : Int := sm (2 ^ n) fun o => ker m n s o * f o
def mI : Mx := fun x y => if x = y then 1 else 0
/-- the product of two -/
def mm (m p : Mx) : Mx := fun x y => m x false * p false y + m x true * p true y
theorem pr_ind (n : Nat) (P : Nat → Prop) [DecidablePred P] : pr n (fun k => if P k then 1 else 0) = if ∀ k, k < n → P k then 1 else 0 := by
  induction n with
  | zero => rw [pr, if_pos (fun k hk => absurd hk (Nat.not_lt_zero k))]
  | succ n ih =>
    rw [pr, ih]
    by_cases h : ∀ k, k < n → P k
    · by_cases hn : P n
      · rw [if_pos h, if_pos hn, if_pos (fun k hk => by
          rcases Nat.lt_succ_iff_lt_or_eq.mp hk with h1 | h1
          · exact h k h1
          · rw [h1]; exact hn)]
        rfl
      · rw [if_neg hn, if_neg (c := ∀ k, k < n + 1 → P k) (fun z => hn (z n (Nat.lt_succ_self n)))]
        exact Int.mul_zero _
    · rw [if_neg h, if_neg (c := ∀ k, k < n + 1 → P k) (fun z => h fun k hk => z k (Nat.lt_succ_of_lt hk))]
      exact Int.zero_mul _
theorem ker_I {n s o : Nat} (hs : s < 2 ^ n) (ho : o < 2 ^ n) : ker mI n s o = if o = s then 1 else 0 := by
  unfold ker mI
  rw [pr_ind n (fun k => s.testBit k = o.testBit k)]
  by_cases h : o = s
  · subst h
    rw [if_pos rfl, if_pos (fun _ _ => rfl)]
  · rw [if_neg h, if_neg (fun z => h (eq_bits ho hs fun k hk => (z k hk).symm))]
theorem ker_mm (m p : Mx) (n s o : Nat) : sm (2 ^ n) (fun z => ker m n s z * ker p n z o) = ker (mm m p) n s o := by
  unfold ker
  rw [show (fun z : Nat => pr n (fun k => m (s.testBit k) (z.testBit k)) * pr n (fun k => p (z.testBit k) (o.testBit k))) = fun z : Nat => pr n (fun k => m (s.testBit k) (z.testBit k) * p (z.testBit k) (o.testBit k)) from funext fun z => (pr_mul n _ _).symm]
  exact sm_pr n fun k b => m (s.testBit k) b * p b (o.testBit k)
theorem tr_mm (m p : Mx) (n : Nat) (f : Nat → Int) (s : Nat) : tr m n (tr p n f) s = tr (mm m p) n f s := by
  unfold tr
  rw [show (fun o => ker m n s o * sm (2 ^ n) fun o_1 => ker p n o o_1 * f o_1) = fun o => sm (2 ^ n) fun q => ker m n s o * ker p n o q * f q from funext fun o => by
    rw [← sm_mul]
    exact sm_congr fun q _ => (Int.mul_assoc _ _ _).symm]
  rw [sm_swap]
  refine sm_congr fun q _ => ?_
  rw [sm_mulr, ker_mm]
theorem tr_I {n : Nat} {f : Nat → Int} {s : Nat} (hs : s < 2 ^ n) : tr mI n f s = f s := by
  unfold tr
  rw [sm_congr (g := fun o => (if o = s then 1 else 0) * f o) fun o ho => by rw [ker_I hs ho]]
  exact sm_at hs f
theorem ker_smul (c : Int) (m : Mx) (n s o : Nat) : ker (fun x y => c * m x y) n s o = c ^ n * ker m n s o := by
  unfold ker
  rw [pr_mul, pr_const]
theorem tr_congr {m : Mx} {n : Nat} {f g : Nat → Int} (h : ∀ o, o < 2 ^ n → f o = g o) (s : Nat) : tr m n f s = tr m n g s := sm_congr fun o ho => by rw [h o ho]
theorem tr_add (m : Mx) (n : Nat) (f g : Nat → Int) (s : Nat) : tr m n (fun o => f o + g o) s = tr m n f s + tr m n g s := by
  unfold tr
  rw [← sm_add]
  exact sm_congr fun o _ => Int.mul_add _ _ _
theorem tr_mul (m : Mx) (n : Nat) (c : Int) (f : Nat → Int) (s : Nat) : tr m n (fun o => c * f o) s = c * tr m n f s := by
  unfold tr
  rw [← sm_mul]
  exact sm_congr fun o _ => Int.mul_left_comm _ _ _
/-! ### name by name -/
def stp (m : Mx) (k : Nat) (f : Nat → Int) (s : Nat) : Int := m (s.testBit k) (s.testBit k) * f s + m (s.testBit k) (!s.testBit k) * f (s ^^^ 2 ^ k)
theorem flip_bit (s k j : Nat) : (s ^^^ 2 ^ k).testBit j = (s.testBit j ^^ decide (k = j)) := by
  rw [Nat.testBit_xor, Nat.testBit_two_pow]
theorem flip_lt {s k n : Nat} (hs : s < 2 ^ n) (hk : k < n) : s ^^^ 2 ^ k < 2 ^ n := Nat.xor_lt_two_pow hs (Nat.pow_lt_pow_right (by decide) hk)
def fold_ (m : Mx) (n : Nat) (f : Nat → Int) : Nat → Int := (List.range n).foldl (fun g k => stp m k g) f
theorem fold_succ (m : Mx) (n : Nat) (f : Nat → Int) : fold_ m (n + 1) f = stp m n (fold_ m n f) := by
  unfold fold_
  rw [List.range_succ, List.foldl_append] <;> rfl
theorem xor_add {n s j : Nat} (hs : s < 2 ^ n) (hj : j < n) : (2 ^ n + s) ^^^ 2 ^ j = 2 ^ n + (s ^^^ 2 ^ j) := by
  have h1 := flip_lt hs hj
  have h2 : 2 ^ j < 2 ^ n := Nat.pow_lt_pow_right (by decide) hj
  have hp : 2 ^ (n + 1) = 2 ^ n + 2 ^ n := by rw [Nat.pow_succ, Nat.mul_two]
  refine eq_bits (n := n + 1) (Nat.xor_lt_two_pow (by omega) (by omega)) (by omega) fun k hk => ?_
  rw [flip_bit]
  rcases Nat.lt_succ_iff_lt_or_eq.mp hk with h | h
  · rw [bit_add hs h, bit_add h1 h, flip_bit]
  · subst h
    rw [bit_top hs, bit_top h1, decide_eq_false (by omega)]
    rfl
theorem xor_top {n s : Nat} (hs : s < 2 ^ n) : s ^^^ 2 ^ n = 2 ^ n + s := by
  have hp : 2 ^ (n + 1) = 2 ^ n + 2 ^ n := by rw [Nat.pow_succ, Nat.mul_two]
  refine eq_bits (n := n + 1) (Nat.xor_lt_two_pow (by omega) (by omega)) (by omega) fun k hk => ?_
  rw [flip_bit]
  rcases Nat.lt_succ_iff_lt_or_eq.mp hk with h | h
  · rw [bit_add hs h, decide_eq_false (by omega), Bool.xor_false]
  · subst h
    rw [bit_top hs, bit_low hs, decide_eq_true rfl]
    rfl
theorem xor_top2 {n s : Nat} (hs : s < 2 ^ n) : (2 ^ n + s) ^^^ 2 ^ n = s := by
  rw [← xor_top hs, Nat.xor_assoc, Nat.xor_self, Nat.xor_zero]
theorem fold_shift (m : Mx) {n j s : Nat} (f : Nat → Int) (hj : j ≤ n) (hs : s < 2 ^ n) : fold_ m j f (2 ^ n + s) = fold_ m j (fun o => f (2 ^ n + o)) s := by
  induction j generalizing s with
  | zero => rfl
  | succ j ih =>
    rw [fold_succ, fold_succ]
    unfold stp
    rw [bit_add hs (by omega), xor_add hs (by omega), ih (by omega) hs, ih (by omega) (flip_lt hs (by omega))]
theorem ker_ll {m : Mx} {n s o : Nat} (hs : s < 2 ^ n) (ho : o < 2 ^ n) : ker m (n + 1) s o = ker m n s o * m false false := by
  unfold ker
  rw [pr, bit_low hs, bit_low ho]
theorem ker_lh {m : Mx} {n s o : Nat} (hs : s < 2 ^ n) (ho : o < 2 ^ n) : ker m (n + 1) s (2 ^ n + o) = ker m n s o * m false true := by
  unfold ker
  rw [pr, bit_low hs, bit_top ho, pr_congr (g := fun k => m (s.testBit k) (o.testBit k)) fun k hk => by rw [bit_add ho hk]]
theorem ker_hl {m : Mx} {n s o : Nat} (hs : s < 2 ^ n) (ho : o < 2 ^ n) : ker m (n + 1) (2 ^ n + s) o = ker m n s o * m true false := by
  unfold ker
  rw [pr, bit_top hs, bit_low ho, pr_congr (g := fun k => m (s.testBit k) (o.testBit k)) fun k hk => by rw [bit_add hs hk]]
theorem ker_hh {m : Mx} {n s o : Nat} (hs : s < 2 ^ n) (ho : o < 2 ^ n) : ker m (n + 1) (2 ^ n + s) (2 ^ n + o) = ker m n s o * m true true := by
  unfold ker
  rw [pr, bit_top hs, bit_top ho, pr_congr (g := fun k => m (s.testBit k) (o.testBit k)) fun k hk => by rw [bit_add hs hk, bit_add ho hk]]
theorem ml3 (a b c : Int) : a * (b * c) = b * a * c := by rw [Int.mul_comm b a, Int.mul_assoc]
theorem fold_tr (m : Mx) (n : Nat) (f : Nat → Int) {s : Nat} (hs : s < 2 ^ n) : fold_ m n f s = tr m n f s := by
  induction n generalizing s f with
  | zero =>
    have e : s = 0 := by rw [Nat.pow_zero] at hs; omega
    subst e
    show f 0 = 0 + 1 * f 0
    omega
  | succ n ih =>
    have hp : 2 ^ (n + 1) = 2 ^ n + 2 ^ n := by rw [Nat.pow_succ, Nat.mul_two]
    rw [fold_succ]
    unfold stp tr
    rw [sm_double]
    by_cases h : s < 2 ^ n
    · rw [bit_low h, xor_top h, fold_shift m f (Nat.le_refl n) h, ih f h, ih _ h]
      unfold tr
      rw [← sm_mul, ← sm_mul]
      congr 1
      · exact sm_congr fun o ho => by rw [ker_ll h ho, ml3]
      · exact sm_congr fun o ho => by rw [ker_lh h ho, ml3]; rfl
    · obtain ⟨t, rfl⟩ : ∃ t, s = 2 ^ n + t := ⟨s - 2 ^ n, by omega⟩
      have ht : t < 2 ^ n := by omega
      rw [bit_top ht, xor_top2 ht, fold_shift m f (Nat.le_refl n) ht, ih f ht, ih _ ht]
      unfold tr
      rw [← sm_mul, ← sm_mul, Int.add_comm]
      congr 1
      · exact sm_congr fun o ho => by rw [ker_hl ht ho, ml3]; rfl
      · exact sm_congr fun o ho => by rw [ker_hh ht ho, ml3]
end SS

/-! the walked sums are kernels -/
namespace SS
theorem at0_set {l : List Int} {i s : Nat} {v : Int} (h : i < l.length) : at0 (l.set i v) s = if s = i then v else at0 l s := by
  unfold at0
  rw [List.getD_eq_getElem?_getD, List.getD_eq_getElem?_getD, List.getElem?_set]
  by_cases e : i = s
  · subst e
    rw [if_pos rfl, if_pos h, if_pos rfl] <;> rfl
  · rw [if_neg e, if_neg (Ne.symm e)]
theorem ext0 {l r : List Int} (hl : l.length = r.length) (h : ∀ s, s < l.length → at0 l s = at0 r s) : l = r := by
  apply List.ext_getElem hl
  intro i h1 h2
  have := h i h1
  unfold at0 at this
  rw [List.getD_eq_getElem?_getD, List.getD_eq_getElem?_getD, List.getElem?_eq_getElem h1, List.getElem?_eq_getElem h2] at this
  exact this
theorem at0_map {N s : Nat} (f : Nat → Int) (h : s < N) : at0 ((List.range N).map f) s = f s := by
  unfold at0
  rw [List.getD_eq_getElem?_getD, List.getElem?_map, List.getElem?_range h] <;> rfl
theorem and_bit (j k : Nat) : (j &&& 2 ^ k = 0) ↔ j.testBit k = false := by
  constructor
  · intro h
    have : (j &&& 2 ^ k).testBit k = false := by rw [h, Nat.zero_testBit]
    rw [Nat.testBit_and, Nat.testBit_two_pow_self, Bool.and_true] at this
    exact this
  · intro h
    refine Nat.eq_of_testBit_eq fun i => ?_
    rw [Nat.testBit_and, Nat.zero_testBit, Nat.testBit_two_pow]
    by_cases e : k = i
    · subst e
      rw [h] <;> rfl
    · rw [decide_eq_false e, Bool.and_false]
theorem or_bit {j k : Nat} (h : j.testBit k = false) : j ||| 2 ^ k = j ^^^ 2 ^ k := by
  refine Nat.eq_of_testBit_eq fun i => ?_
  rw [Nat.testBit_or, Nat.testBit_xor, Nat.testBit_two_pow]
  by_cases e : k = i
  · subst e
    rw [h, decide_eq_true rfl] <;> rfl
  · rw [decide_eq_false e, Bool.or_false, Bool.xor_false]
theorem flip_flip (j k : Nat) : (j ^^^ 2 ^ k) ^^^ 2 ^ k = j := by rw [Nat.xor_assoc, Nat.xor_self, Nat.xor_zero]
theorem flip_ne (j k : Nat) : j ^^^ 2 ^ k ≠ j := fun h => by
  have := congrArg (fun z => z.testBit k) h
  simp only [flip_bit, decide_true, Bool.xor_true] at this
  cases hb : j.testBit k <;> rw [hb] at this <;> cases this
/-- one pass over all sets, pair by pair -/
theorem pass_stp (m : Mx) {n k : Nat} (hk : k < n) (g : List Int → Nat → List Int) (hlen : ∀ l j, (g l j).length = l.length)
    (h1 : ∀ l j, j.testBit k = true → g l j = l)
    (h0 : ∀ l j, l.length = 2 ^ n → j < 2 ^ n → j.testBit k = false → ∀ s, s < 2 ^ n → at0 (g l j) s = if s = j ∨ s = j ^^^ 2 ^ k then stp m k (at0 l) s else at0 l s)
    (l : List Int) (hl : l.length = 2 ^ n) : ∀ s, s < 2 ^ n → at0 ((List.range (2 ^ n)).foldl g l) s = stp m k (at0 l) s := by
  have key : ∀ j, j ≤ 2 ^ n → ∀ s, s < 2 ^ n → at0 ((List.range j).foldl g l) s = if (if s.testBit k = true then s ^^^ 2 ^ k else s) < j then stp m k (at0 l) s else at0 l s := by
    intro j
    induction j with
    | zero =>
      intro _ s _
      rw [if_neg (Nat.not_lt_zero _)]
      rfl
    | succ j ih =>
      intro hj s hs
      have hj' : j < 2 ^ n := by omega
      rw [foldl_range_succ]
      have lL : ((List.range j).foldl g l).length = 2 ^ n := by rw [foldl_length hlen, hl]
      generalize hL : (List.range j).foldl g l = L at lL
      have ihL : ∀ s, s < 2 ^ n → at0 L s = if (if s.testBit k = true then s ^^^ 2 ^ k else s) < j then stp m k (at0 l) s else at0 l s := fun s hs => by rw [← hL]; exact ih (by omega) s hs
      cases hb : j.testBit k with
      | true =>
        rw [h1 L j hb, ihL s hs]
        have hne : (if s.testBit k = true then s ^^^ 2 ^ k else s) ≠ j := fun e => by
          split at e
          · rename_i ht
            rw [← e, flip_bit, ht, decide_eq_true rfl] at hb
            cases hb
          · rename_i ht
            rw [e] at ht
            exact ht hb
        generalize (if s.testBit k = true then s ^^^ 2 ^ k else s) = z at hne ⊢
        by_cases hz : z < j
        · rw [if_pos hz, if_pos (by omega)]
        · rw [if_neg hz, if_neg (by omega)]
      | false =>
        have hp : (j ^^^ 2 ^ k).testBit k = true := by rw [flip_bit, hb, decide_eq_true rfl] <;> rfl
        have hj2 := flip_lt hj' hk
        rw [h0 L j lL hj' hb s hs]
        have vj : at0 L j = at0 l j := by
          rw [ihL j hj', hb, if_neg (show ¬ false = true by decide), if_neg (Nat.lt_irrefl j)]
        have vj2 : at0 L (j ^^^ 2 ^ k) = at0 l (j ^^^ 2 ^ k) := by
          rw [ihL _ hj2, hp, if_pos rfl, flip_flip, if_neg (Nat.lt_irrefl j)]
        by_cases e : s = j ∨ s = j ^^^ 2 ^ k
        · rw [if_pos e]
          rcases e with e | e
          · subst e
            rw [hb, if_neg (show ¬ false = true by decide), if_pos (Nat.lt_succ_self s)]
            unfold stp
            rw [vj, vj2]
          · subst e
            rw [hp, if_pos rfl, flip_flip, if_pos (Nat.lt_succ_self j)]
            unfold stp
            rw [flip_flip, vj, vj2]
        · rw [if_neg e, ihL s hs]
          have hne : (if s.testBit k = true then s ^^^ 2 ^ k else s) ≠ j := fun z => by
            split at z
            · exact e (.inr (by rw [← z, flip_flip]))
            · exact e (.inl z)
          generalize (if s.testBit k = true then s ^^^ 2 ^ k else s) = z at hne ⊢
          by_cases hz : z < j
          · rw [if_pos hz, if_pos (by omega)]
          · rw [if_neg hz, if_neg (by omega)]
  intro s hs
  rw [key _ (Nat.le_refl _) s hs, if_pos]
  split
  · exact flip_lt hs hk
  · exact hs
/-- name by name -/
theorem names_tr (m : Mx) {n : Nat} (G : List Int → Nat → List Int) (hlen : ∀ l k, (G l k).length = l.length)
    (hG : ∀ l k, l.length = 2 ^ n → k < n → ∀ s, s < 2 ^ n → at0 (G l k) s = stp m k (at0 l) s) (l : List Int) (hl : l.length = 2 ^ n) {s : Nat} (hs : s < 2 ^ n) :
    at0 ((List.range n).foldl G l) s = tr m n (at0 l) s := by
  rw [← fold_tr m n _ hs]
  have key : ∀ j, j ≤ n → ∀ s, s < 2 ^ n → at0 ((List.range j).foldl G l) s = fold_ m j (at0 l) s := by
    intro j
    induction j with
    | zero => intro _ s _; rfl
    | succ j ih =>
      intro hj s hs
      rw [foldl_range_succ, fold_succ, hG _ j (by rw [foldl_length hlen, hl]) (by omega) s hs]
      unfold stp
      rw [ih (by omega) s hs, ih (by omega) _ (flip_lt hs (by omega))]
  exact key n (Nat.le_refl n) s hs
/-! ### the three ways -/
def mS (b : Int) (up : Bool) : Mx := fun x y => if x = y then 1 else if x = up then b else 0
def mG : Mx := fun x y => if x = true ∧ y = true then -1 else 1
theorem spName_stp (b : Int) (up : Bool) {n k : Nat} (hk : k < n) (l : List Int) (hl : l.length = 2 ^ n) {s : Nat} (hs : s < 2 ^ n) : at0 (spName (2 ^ n) b up l k) s = stp (mS b up) k (at0 l) s := by
  refine pass_stp (mS b up) hk (spStep (2 ^ k) b up) (spStep_length _ _ _) (fun l j h => ?_) (fun l j hl hj h s hs => ?_) l hl s hs
  · unfold spStep
    rw [if_neg (fun z => by rw [and_bit] at z; rw [z] at h; cases h)]
  · have hj2 := flip_lt hj hk
    unfold spStep
    rw [if_pos ((and_bit j k).mpr h), or_bit h]
    cases up with
    | true =>
      rw [if_pos rfl, at0_set (by omega)]
      by_cases e : s = j ^^^ 2 ^ k
      · rw [if_pos e, if_pos (.inr e)]
        subst e
        unfold stp mS
        rw [flip_bit, h, flip_flip]
        simp [at0]
      · rw [if_neg e]
        by_cases e2 : s = j
        · rw [if_pos (.inl e2)]
          subst e2
          unfold stp mS
          rw [h]
          simp
        · rw [if_neg (by rintro (z | z); exact e2 z; exact e z)]
    | false =>
      rw [if_neg (by decide), at0_set (by omega)]
      by_cases e : s = j
      · rw [if_pos e, if_pos (.inl e)]
        subst e
        unfold stp mS
        rw [h]
        simp [at0]
      · rw [if_neg e]
        by_cases e2 : s = j ^^^ 2 ^ k
        · rw [if_pos (.inr e2)]
          subst e2
          unfold stp mS
          rw [flip_bit, h]
          simp
        · rw [if_neg (by rintro (z | z); exact e z; exact e2 z)]
theorem spread_tr (b : Int) (up : Bool) {n : Nat} (l : List Int) (hl : l.length = 2 ^ n) {s : Nat} (hs : s < 2 ^ n) : at0 (spreadM n b up l) s = tr (mS b up) n (at0 l) s := by
  unfold spreadM
  rw [hl]
  exact names_tr (mS b up) (spName (2 ^ n) b up) (spName_length _ _ _) (fun l k hl hk s hs => spName_stp b up hk l hl hs) l hl hs
theorem sgName_stp {n k : Nat} (hk : k < n) (l : List Int) (hl : l.length = 2 ^ n) {s : Nat} (hs : s < 2 ^ n) : at0 (sgName (2 ^ n) l k) s = stp mG k (at0 l) s := by
  refine pass_stp mG hk (sgStep (2 ^ k)) (sgStep_length _) (fun l j h => ?_) (fun l j hl hj h s hs => ?_) l hl s hs
  · unfold sgStep
    rw [if_neg (fun z => by rw [and_bit] at z; rw [z] at h; cases h)]
  · have hj2 := flip_lt hj hk
    unfold sgStep
    rw [if_pos ((and_bit j k).mpr h), or_bit h, at0_set (by rw [List.length_set]; omega), at0_set (by omega)]
    by_cases e : s = j ^^^ 2 ^ k
    · rw [if_pos e, if_pos (.inr e)]
      subst e
      unfold stp mG
      rw [flip_bit, h, flip_flip]
      simp [at0]
      omega
    · rw [if_neg e]
      by_cases e2 : s = j
      · rw [if_pos e2, if_pos (.inl e2)]
        subst e2
        unfold stp mG
        rw [h]
        simp [at0]
      · rw [if_neg e2, if_neg (by rintro (z | z); exact e2 z; exact e z)]
theorem signed_tr {n : Nat} (l : List Int) (hl : l.length = 2 ^ n) {s : Nat} (hs : s < 2 ^ n) : at0 (signedM n l) s = tr mG n (at0 l) s := by
  unfold signedM
  rw [hl]
  exact names_tr mG (sgName (2 ^ n)) (sgName_length _) (fun l k hl hk s hs => sgName_stp hk l hl hs) l hl hs
end SS

/-! two tables put together: sums over pairs of sets, weighed by products over names -/
namespace SS
abbrev T3 := Bool → Bool → Bool → Int
def ker3 (t : T3) (n s x y : Nat) : Int := pr n fun k => t (s.testBit k) (x.testBit k) (y.testBit k)
def conv (t : T3) (n : Nat) (f g : Nat → Int) (s : Nat) : Int := sm (2 ^ n) fun x => sm (2 ^ n) fun y => ker3 t n s x y * (f x * g y)
theorem sm_prod (n m : Nat) (f g : Nat → Int) : sm n f * sm m g = sm n fun x => sm m fun y => f x * g y := by
  rw [← sm_mulr]
  exact sm_congr fun i _ => (sm_mul m (f i) g).symm
theorem sm_congr2 {n m : Nat} {f g : Nat → Nat → Int} (h : ∀ i j, i < n → j < m → f i j = g i j) : (sm n fun x => sm m fun y => f x y) = sm n fun x => sm m fun y => g x y :=
  sm_congr fun i hi => sm_congr fun j hj => h i j hi hj
theorem ker3_congr {t u : T3} (h : ∀ s x y, t s x y = u s x y) (n s x y : Nat) : ker3 t n s x y = ker3 u n s x y := pr_congr fun k _ => h _ _ _
theorem conv_congr {t : T3} {n : Nat} {f f' g g' : Nat → Int} (hf : ∀ o, o < 2 ^ n → f o = f' o) (hg : ∀ o, o < 2 ^ n → g o = g' o) (s : Nat) : conv t n f g s = conv t n f' g' s :=
  sm_congr2 fun x y hx hy => by rw [hf x hx, hg y hy]
theorem conv_t {t u : T3} (h : ∀ s x y, t s x y = u s x y) (n : Nat) (f g : Nat → Int) (s : Nat) : conv t n f g s = conv u n f g s := sm_congr2 fun x y _ _ => by rw [ker3_congr h]
theorem conv_smul (c : Int) (t : T3) (n : Nat) (f g : Nat → Int) (s : Nat) : conv (fun s x y => c * t s x y) n f g s = c ^ n * conv t n f g s := by
  unfold conv
  rw [← sm_mul]
  refine sm_congr fun x _ => ?_
  rw [← sm_mul]
  refine sm_congr fun y _ => ?_
  unfold ker3
  rw [pr_mul, pr_const, Int.mul_assoc]
/-- out of m, p, q -/
def t3 (m p q : Mx) : T3 := fun s x y => m s false * p false x * q false y + m s true * p true x * q true y
theorem ker_t3 (m p q : Mx) (n s x y : Nat) : sm (2 ^ n) (fun z => ker m n s z * ker p n z x * ker q n z y) = ker3 (t3 m p q) n s x y := by
  unfold ker ker3
  rw [show (fun z : Nat => pr n (fun k => m (s.testBit k) (z.testBit k)) * pr n (fun k => p (z.testBit k) (x.testBit k)) * pr n (fun k => q (z.testBit k) (y.testBit k))) = fun z : Nat => pr n (fun k => m (s.testBit k) (z.testBit k) * p (z.testBit k) (x.testBit k) * q (z.testBit k) (y.testBit k)) from funext fun z => by rw [pr_mul, pr_mul]]
  exact sm_pr n fun k b => m (s.testBit k) b * p b (x.testBit k) * q b (y.testBit k)
theorem sm_rot (n m l : Nat) (f : Nat → Nat → Nat → Int) : (sm n fun z => sm m fun x => sm l fun y => f z x y) = sm m fun x => sm l fun y => sm n fun z => f z x y := by
  rw [sm_swap]
  exact sm_congr fun x _ => sm_swap n l _
theorem tri (m p q : Mx) (n : Nat) (f g : Nat → Int) (s : Nat) : tr m n (fun z => tr p n f z * tr q n g z) s = conv (t3 m p q) n f g s := by
  show (sm (2 ^ n) fun z => ker m n s z * ((sm (2 ^ n) fun x => ker p n z x * f x) * (sm (2 ^ n) fun y => ker q n z y * g y))) = _
  rw [sm_congr (g := fun z => sm (2 ^ n) fun x => sm (2 ^ n) fun y => (ker m n s z * ker p n z x * ker q n z y) * (f x * g y)) fun z _ => by
    rw [sm_prod, ← sm_mul]
    refine sm_congr fun x _ => ?_
    rw [← sm_mul]
    refine sm_congr fun y _ => ?_
    grind]
  rw [sm_rot]
  refine sm_congr2 fun x y _ _ => ?_
  rw [sm_mulr, ker_t3]
theorem ker3_sm_l (t : T3) (m : Mx) (n s x y : Nat) : sm (2 ^ n) (fun z => ker m n s z * ker3 t n z x y) = ker3 (fun s x y => m s false * t false x y + m s true * t true x y) n s x y := by
  unfold ker ker3
  rw [show (fun z : Nat => pr n (fun k => m (s.testBit k) (z.testBit k)) * pr n (fun k => t (z.testBit k) (x.testBit k) (y.testBit k))) = fun z : Nat => pr n (fun k => m (s.testBit k) (z.testBit k) * t (z.testBit k) (x.testBit k) (y.testBit k)) from funext fun z => (pr_mul n _ _).symm]
  exact sm_pr n fun k b => m (s.testBit k) b * t b (x.testBit k) (y.testBit k)
theorem tr_conv (m : Mx) (t : T3) (n : Nat) (f g : Nat → Int) (s : Nat) : tr m n (conv t n f g) s = conv (fun s x y => m s false * t false x y + m s true * t true x y) n f g s := by
  show (sm (2 ^ n) fun z => ker m n s z * (sm (2 ^ n) fun x => sm (2 ^ n) fun y => ker3 t n z x y * (f x * g y))) = _
  rw [sm_congr (g := fun z => sm (2 ^ n) fun x => sm (2 ^ n) fun y => (ker m n s z * ker3 t n z x y) * (f x * g y)) fun z _ => by
    rw [← sm_mul]
    refine sm_congr fun x _ => ?_
    rw [← sm_mul]
    refine sm_congr fun y _ => ?_
    rw [Int.mul_assoc]]
  rw [sm_rot]
  refine sm_congr2 fun x y _ _ => ?_
  rw [sm_mulr, ker3_sm_l]
/-- sums of what is put together are the products of the sums -/
theorem tr_times {m : Mx} {t : T3} (h : ∀ s x y, m s false * t false x y + m s true * t true x y = m s x * m s y) (n : Nat) (f g : Nat → Int) (s : Nat) : tr m n (conv t n f g) s = tr m n f s * tr m n g s := by
  rw [tr_conv, conv_t h]
  unfold conv tr ker3
  rw [sm_prod]
  refine sm_congr2 fun x y _ _ => ?_
  rw [pr_mul]
  unfold ker
  grind
theorem conv_comm {t : T3} (h : ∀ s x y, t s x y = t s y x) (n : Nat) (f g : Nat → Int) (s : Nat) : conv t n f g s = conv t n g f s := by
  unfold conv
  rw [sm_swap]
  refine sm_congr2 fun x y _ _ => ?_
  rw [show ker3 t n s y x = ker3 t n s x y from pr_congr fun k _ => h _ _ _, Int.mul_comm (f y)]
theorem conv_add (t : T3) (n : Nat) (f g h : Nat → Int) (s : Nat) : conv t n (fun o => f o + g o) h s = conv t n f h s + conv t n g h s := by
  unfold conv
  rw [← sm_add]
  refine sm_congr fun x _ => ?_
  rw [← sm_add]
  refine sm_congr fun y _ => ?_
  grind
theorem conv_addr (t : T3) (n : Nat) (f g h : Nat → Int) (s : Nat) : conv t n f (fun o => g o + h o) s = conv t n f g s + conv t n f h s := by
  unfold conv
  rw [← sm_add]
  refine sm_congr fun x _ => ?_
  rw [← sm_add]
  refine sm_congr fun y _ => ?_
  grind
theorem ker3_ll (t : T3) (n s x y w : Nat) : sm (2 ^ n) (fun z => ker3 t n s z w * ker3 t n z x y) = pr n fun k => t (s.testBit k) false (w.testBit k) * t false (x.testBit k) (y.testBit k) + t (s.testBit k) true (w.testBit k) * t true (x.testBit k) (y.testBit k) := by
  unfold ker3
  rw [show (fun z : Nat => pr n (fun k => t (s.testBit k) (z.testBit k) (w.testBit k)) * pr n (fun k => t (z.testBit k) (x.testBit k) (y.testBit k))) = fun z : Nat => pr n (fun k => t (s.testBit k) (z.testBit k) (w.testBit k) * t (z.testBit k) (x.testBit k) (y.testBit k)) from funext fun z => (pr_mul n _ _).symm]
  exact sm_pr n fun k b => t (s.testBit k) b (w.testBit k) * t b (x.testBit k) (y.testBit k)
theorem ker3_rr (t : T3) (n s x y w : Nat) : sm (2 ^ n) (fun z => ker3 t n s x z * ker3 t n z y w) = pr n fun k => t (s.testBit k) (x.testBit k) false * t false (y.testBit k) (w.testBit k) + t (s.testBit k) (x.testBit k) true * t true (y.testBit k) (w.testBit k) := by
  unfold ker3
  rw [show (fun z : Nat => pr n (fun k => t (s.testBit k) (x.testBit k) (z.testBit k)) * pr n (fun k => t (z.testBit k) (y.testBit k) (w.testBit k))) = fun z : Nat => pr n (fun k => t (s.testBit k) (x.testBit k) (z.testBit k) * t (z.testBit k) (y.testBit k) (w.testBit k)) from funext fun z => (pr_mul n _ _).symm]
  exact sm_pr n fun k b => t (s.testBit k) (x.testBit k) b * t b (y.testBit k) (w.testBit k)
theorem sm_rot2 (n m : Nat) (f : Nat → Nat → Nat → Nat → Int) : (sm n fun z => sm n fun w => sm m fun x => sm m fun y => f z w x y) = sm m fun x => sm m fun y => sm n fun w => sm n fun z => f z w x y := by
  rw [sm_congr (g := fun z => sm m fun x => sm m fun y => sm n fun w => f z w x y) fun z _ => sm_rot n m m _]
  rw [sm_rot]
  exact sm_congr2 fun x y _ _ => sm_swap n n _
theorem conv_assoc {t : T3} (h : ∀ s x y w, t s false w * t false x y + t s true w * t true x y = t s x false * t false y w + t s x true * t true y w) (n : Nat) (f g u : Nat → Int) (s : Nat) :
    conv t n (conv t n f g) u s = conv t n f (conv t n g u) s := by
  have l : conv t n (conv t n f g) u s = sm (2 ^ n) fun x => sm (2 ^ n) fun y => sm (2 ^ n) fun w => (sm (2 ^ n) fun z => ker3 t n s z w * ker3 t n z x y) * (f x * g y * u w) := by
    show (sm (2 ^ n) fun z => sm (2 ^ n) fun w => ker3 t n s z w * ((sm (2 ^ n) fun x => sm (2 ^ n) fun y => ker3 t n z x y * (f x * g y)) * u w)) = _
    rw [sm_congr2 (g := fun z w => sm (2 ^ n) fun x => sm (2 ^ n) fun y => (ker3 t n s z w * ker3 t n z x y) * (f x * g y * u w)) fun z w _ _ => by
      rw [← sm_mulr, ← sm_mul]
      refine sm_congr fun x _ => ?_
      rw [← sm_mulr, ← sm_mul]
      refine sm_congr fun y _ => ?_
      grind]
    rw [sm_rot2]
    exact sm_congr2 fun x y _ _ => sm_congr fun w _ => sm_mulr _ _ _
  have r : conv t n f (conv t n g u) s = sm (2 ^ n) fun x => sm (2 ^ n) fun y => sm (2 ^ n) fun w => (sm (2 ^ n) fun z => ker3 t n s x z * ker3 t n z y w) * (f x * g y * u w) := by
    show (sm (2 ^ n) fun x => sm (2 ^ n) fun z => ker3 t n s x z * (f x * (sm (2 ^ n) fun y => sm (2 ^ n) fun w => ker3 t n z y w * (g y * u w)))) = _
    refine sm_congr fun x _ => ?_
    rw [sm_congr (g := fun z => sm (2 ^ n) fun y => sm (2 ^ n) fun w => (ker3 t n s x z * ker3 t n z y w) * (f x * g y * u w)) fun z _ => by
      rw [← sm_mul, ← sm_mul]
      refine sm_congr fun y _ => ?_
      rw [← sm_mul, ← sm_mul]
      refine sm_congr fun w _ => ?_
      grind]
    rw [sm_rot]
    exact sm_congr2 fun y w _ _ => sm_mulr _ _ _
  rw [l, r]
  refine sm_congr2 fun x y _ _ => sm_congr fun w _ => ?_
  rw [ker3_ll, ker3_rr, pr_congr fun k _ => h _ _ _ _]
/-- a table that changes nothing -/
theorem conv_unit {t : T3} {n e : Nat} (he : e < 2 ^ n) (h : ∀ k s x, k < n → t s x (e.testBit k) = mI s x) (f : Nat → Int) {s : Nat} (hs : s < 2 ^ n) : conv t n f (fun y => if y = e then 1 else 0) s = f s := by
  rw [← tr_I (f := f) hs]
  unfold conv tr
  refine sm_congr fun x _ => ?_
  rw [sm_congr (g := fun y => (if y = e then 1 else 0) * (ker3 t n s x y * f x)) fun y _ => by grind, sm_at he]
  unfold ker3 ker
  rw [pr_congr (g := fun k => mI (s.testBit k) (x.testBit k)) fun k hk => h k _ _ hk]
/-! ### the four ways -/
def kOr : T3 := fun s x y => if s = (x || y) then 1 else 0
def kAnd : T3 := fun s x y => if s = (x && y) then 1 else 0
def kXor : T3 := fun s x y => if s = (x ^^ y) then 1 else 0
def kApart : T3 := fun s x y => if s = (x || y) ∧ (x && y) = false then 1 else 0
def tW : Nat → T3
  | 0 => kOr
  | 1 => kAnd
  | 2 => kXor
  | _ => kApart
theorem tW_comm (i : Nat) : ∀ s x y, tW i s x y = tW i s y x := by
  match i with
  | 0 => decide
  | 1 => decide
  | 2 => decide
  | _ + 3 => intro s x y; show kApart s x y = kApart s y x; revert s x y; decide
theorem tW_assoc (i : Nat) : ∀ s x y w, tW i s false w * tW i false x y + tW i s true w * tW i true x y = tW i s x false * tW i false y w + tW i s x true * tW i true y w := by
  match i with
  | 0 => decide
  | 1 => decide
  | 2 => decide
  | _ + 3 =>
    intro s x y w
    show kApart s false w * kApart false x y + kApart s true w * kApart true x y = kApart s x false * kApart false y w + kApart s x true * kApart true y w
    revert s x y w
    decide
end SS

/-! bounds; the products are sums over pairs -/
namespace SS
/-! ### bounds -/
theorem sm_bd {B n : Nat} {f : Nat → Int} (hB : 0 < B) (h : ∀ i, i < n → (f i).natAbs < B) (hn : 0 < n) : (sm n f).natAbs < n * B := by
  have key : ∀ m, m ≤ n → (sm m f).natAbs ≤ m * (B - 1) := by
    intro m
    induction m with
    | zero => intro _; simp [sm]
    | succ m ih =>
      intro hm
      have h1 := ih (by omega)
      have h2 := h m (by omega)
      rw [sm, Nat.succ_mul]
      omega
  have h1 := key n (Nat.le_refl n)
  have h2 : n * (B - 1) < n * B := Nat.mul_lt_mul_of_pos_left (by omega) hn
  omega
theorem pr_bd {n : Nat} {u : Nat → Int} (h : ∀ i, i < n → (u i).natAbs ≤ 1) : (pr n u).natAbs ≤ 1 := by
  induction n with
  | zero => simp [pr]
  | succ n ih =>
    rw [pr, Int.natAbs_mul]
    exact Nat.le_trans (Nat.mul_le_mul (ih fun i hi => h i (by omega)) (h n (by omega))) (Nat.le_refl _)
theorem tr_bd {m : Mx} (hm : ∀ x y, (m x y).natAbs ≤ 1) {n k : Nat} (hn : n ≤ 10) {f : Nat → Int} (h : ∀ o, o < 2 ^ n → (f o).natAbs < 2 ^ k) (s : Nat) : (tr m n f s).natAbs < 2 ^ (k + 10) := by
  have h1 : (tr m n f s).natAbs < 2 ^ n * 2 ^ k := by
    refine sm_bd (Nat.two_pow_pos k) (fun o ho => ?_) (Nat.two_pow_pos n)
    rw [Int.natAbs_mul]
    exact Nat.lt_of_le_of_lt (Nat.mul_le_mul_right _ (pr_bd fun i _ => hm _ _)) (by rw [Nat.one_mul]; exact h o ho)
  rw [← Nat.pow_add] at h1
  exact Nat.lt_of_lt_of_le h1 (Nat.pow_le_pow_right (by decide) (by omega))
theorem bd_of {k : Nat} {l : List Int} (h : ∀ s, s < l.length → (at0 l s).natAbs < 2 ^ k) : Bd k l := fun x hx => by
  obtain ⟨i, hi, rfl⟩ := List.getElem_of_mem hx
  have := h i hi
  unfold at0 at this
  rw [List.getD_eq_getElem?_getD, List.getElem?_eq_getElem hi] at this
  exact this
theorem Bd.up {j k : Nat} {l : List Int} (h : Bd j l) (hjk : j ≤ k) : Bd k l := fun x hx => Nat.lt_of_lt_of_le (h x hx) (Nat.pow_le_pow_right (by decide) hjk)
theorem mS_bd {b : Int} (hb : b.natAbs ≤ 1) (up : Bool) (x y : Bool) : (mS b up x y).natAbs ≤ 1 := by
  unfold mS
  split
  · decide
  · split
    · exact hb
    · decide
theorem mG_bd : ∀ x y, (mG x y).natAbs ≤ 1 := by decide
theorem bd_spread {n k : Nat} (hn : n ≤ 10) {l : List Int} (hl : l.length = 2 ^ n) {b : Int} (hb : b.natAbs ≤ 1) (up : Bool) (h : Bd k l) : Bd (k + 10) (spreadM n b up l) := bd_of fun s hs => by
  rw [spreadM_length, hl] at hs
  rw [spread_tr b up l hl hs]
  exact tr_bd (mS_bd hb up) hn (fun o _ => h.at o) s
theorem bd_signed {n k : Nat} (hn : n ≤ 10) {l : List Int} (hl : l.length = 2 ^ n) (h : Bd k l) : Bd (k + 10) (signedM n l) := bd_of fun s hs => by
  rw [signedM_length, hl] at hs
  rw [signed_tr l hl hs]
  exact tr_bd mG_bd hn (fun o _ => h.at o) s
theorem bd_mul {j k : Nat} {a b : List Int} (ha : Bd j a) (hb : Bd k b) : Bd (j + k) (mulM a b) := bd_of fun s hs => by
  rw [mulM_length] at hs
  unfold mulM
  rw [at0_map _ hs, Int.natAbs_mul, Nat.pow_add]
  exact Nat.mul_lt_mul'' (ha.at s) (hb.at s)
theorem bd_add {k : Nat} {a b : List Int} (ha : Bd k a) (hb : Bd k b) : Bd (k + 1) (addM a b) := bd_of fun s hs => by
  rw [addM_length] at hs
  unfold addM
  rw [at0_map _ hs, Nat.pow_succ]
  have := ha.at s
  have := hb.at s
  omega
theorem bd_rep (k n : Nat) : Bd k (List.replicate n 0) := fun x hx => by
  rw [(List.mem_replicate.mp hx).2]
  exact Nat.two_pow_pos k
theorem bd_size {k : Nat} {a : List Int} (ha : Bd k a) (j : Nat) : Bd k (ofSizeM j a) := bd_of fun s hs => by
  rw [ofSizeM_length] at hs
  unfold ofSizeM
  rw [at0_map _ hs]
  have := ha.at s
  split
  · rw [Int.mul_one]; exact this
  · rw [Int.mul_zero]; exact Nat.two_pow_pos k
theorem bd_rank {n k : Nat} (hn : n ≤ 10) {a : List Int} (hl : a.length = 2 ^ n) (ha : Bd k a) (j : Nat) : Bd (k + 10) (rankM n j a) := bd_spread hn (by rw [ofSizeM_length, hl]) (by decide) true (bd_size ha j)
theorem bd_total {n j k m : Nat} (hn : n ≤ 10) {a b : List Int} (hla : a.length = 2 ^ n) (hlb : b.length = 2 ^ n) (ha : Bd j a) (hb : Bd k b) (z : Nat) : Bd (j + k + 20 + m) (totalM n z a b m) := by
  induction m with
  | zero => exact bd_rep _ _
  | succ m ih =>
    unfold totalM at ih ⊢
    rw [foldl_range_succ]
    exact bd_add ih ((bd_mul (bd_rank hn hla ha m) (bd_rank hn hlb hb (z - m))).up (by show j + 10 + (k + 10) ≤ j + k + 20 + m; omega))
theorem bd_div {k : Nat} {l : List Int} (d : Nat) (h : Bd k l) : Bd k (l.map fun z => z / (d : Int)) := fun x hx => by
  obtain ⟨z, hz, rfl⟩ := List.mem_map.mp hx
  exact Nat.lt_of_le_of_lt (Int.natAbs_ediv_le_natAbs z d) (h z hz)
theorem bd_back {k n : Nat} (hn : n ≤ 10) {rows : Nat → List Int} (hl : ∀ i, i ≤ 10 → (rows i).length = 2 ^ n) (h : ∀ i, i ≤ 10 → Bd k (rows i)) : Bd (k + 10) (backM n rows) := fun x hx => by
  unfold backM at hx
  obtain ⟨s, _, rfl⟩ := List.mem_map.mp hx
  have hs : (bitsN s).length ≤ 10 := by
    unfold bitsN
    have := List.length_filter_le (fun i => s.testBit i) (List.range 10)
    rw [List.length_range] at this
    exact this
  exact (bd_spread hn (hl _ hs) (by decide) true (h _ hs)).at s
theorem bd_put {j k n : Nat} (hn : n ≤ 10) (way : Nat) {a b : List Int} (hla : a.length = 2 ^ n) (hlb : b.length = 2 ^ n) (ha : Bd j a) (hb : Bd k b) : Bd (j + k + 45) (putM way n a b) := by
  match way with
  | 0 => exact (bd_spread hn (by rw [mulM_length, spreadM_length, hla]) (by decide) true (bd_mul (bd_spread hn hla (by decide) true ha) (bd_spread hn hlb (by decide) true hb))).up (by omega)
  | 1 => exact (bd_spread hn (by rw [mulM_length, spreadM_length, hla]) (by decide) false (bd_mul (bd_spread hn hla (by decide) false ha) (bd_spread hn hlb (by decide) false hb))).up (by omega)
  | 2 => exact (bd_div (2 ^ n) (bd_signed hn (by rw [mulM_length, signedM_length, hla]) (bd_mul (bd_signed hn hla ha) (bd_signed hn hlb hb)))).up (by omega)
  | _ + 3 => exact (bd_back (k := j + k + 31) hn (fun i _ => (totalM_length n i a b (i + 1)).trans hla) fun i hi => (bd_total hn hla hlb ha hb i).up (by omega)).up (by omega)
theorem bd_sum {j n : Nat} (hn : n ≤ 10) (way : Nat) {a : List Int} (hla : a.length = 2 ^ n) (ha : Bd j a) : Bd (j + 10) (sumM way n a) := by
  match way with
  | 0 => exact bd_spread hn hla (by decide) true ha
  | 1 => exact bd_spread hn hla (by decide) false ha
  | _ + 2 => exact bd_signed hn hla ha
/-! ### what the four ways tell -/
theorem at0_mul {a b : List Int} {s : Nat} (h : s < a.length) : at0 (mulM a b) s = at0 a s * at0 b s := by
  unfold mulM
  rw [at0_map _ h]
theorem at0_add {a b : List Int} {s : Nat} (h : s < a.length) : at0 (addM a b) s = at0 a s + at0 b s := by
  unfold addM
  rw [at0_map _ h]
theorem at0_rep (n s : Nat) : at0 (List.replicate n 0) s = 0 := by
  unfold at0
  rw [List.getD_eq_getElem?_getD, List.getElem?_replicate]
  split <;> rfl
theorem at0_div {l : List Int} {s : Nat} (d : Int) (h : s < l.length) : at0 (l.map fun z => z / d) s = at0 l s / d := by
  unfold at0
  rw [List.getD_eq_getElem?_getD, List.getD_eq_getElem?_getD, List.getElem?_map, List.getElem?_eq_getElem h] <;> rfl
section
variable {n : Nat} {a b : List Int} (ha : a.length = 2 ^ n) (hb : b.length = 2 ^ n)
include ha hb
theorem joined_at {s : Nat} (hs : s < 2 ^ n) : at0 (joinedM n a b) s = conv kOr n (at0 a) (at0 b) s := by
  unfold joinedM
  rw [spread_tr _ _ _ (by rw [mulM_length, spreadM_length, ha]) hs, tr_congr (g := fun z => tr (mS 1 true) n (at0 a) z * tr (mS 1 true) n (at0 b) z) fun o ho => by
    rw [at0_mul (by rw [spreadM_length, ha]; exact ho), spread_tr _ _ a ha ho, spread_tr _ _ b hb ho], tri]
  exact conv_t (by decide) n _ _ s
theorem met_at {s : Nat} (hs : s < 2 ^ n) : at0 (metM n a b) s = conv kAnd n (at0 a) (at0 b) s := by
  unfold metM
  rw [spread_tr _ _ _ (by rw [mulM_length, spreadM_length, ha]) hs, tr_congr (g := fun z => tr (mS 1 false) n (at0 a) z * tr (mS 1 false) n (at0 b) z) fun o ho => by
    rw [at0_mul (by rw [spreadM_length, ha]; exact ho), spread_tr _ _ a ha ho, spread_tr _ _ b hb ho], tri]
  exact conv_t (by decide) n _ _ s
theorem signed_mul {s : Nat} (hs : s < 2 ^ n) : at0 (signedM n (mulM (signedM n a) (signedM n b))) s = 2 ^ n * conv kXor n (at0 a) (at0 b) s := by
  rw [signed_tr _ (by rw [mulM_length, signedM_length, ha]) hs, tr_congr (g := fun z => tr mG n (at0 a) z * tr mG n (at0 b) z) fun o ho => by
    rw [at0_mul (by rw [signedM_length, ha]; exact ho), signed_tr a ha ho, signed_tr b hb ho], tri, ← conv_smul]
  exact conv_t (by decide) n _ _ s
theorem crossed_at {s : Nat} (hs : s < 2 ^ n) : at0 (crossedM n a b) s = conv kXor n (at0 a) (at0 b) s := by
  unfold crossedM fromSgM
  have hp : (2 : Int) ^ n = ((2 ^ n : Nat) : Int) := by norm_cast
  rw [at0_div _ (by rw [signedM_length, mulM_length, signedM_length, ha]; exact hs), signed_mul ha hb hs, hp]
  exact Int.mul_ediv_cancel_left _ (by have := Nat.two_pow_pos n; omega)
theorem signed_div : ((signedM n (mulM (signedM n a) (signedM n b))).all fun z => decide (z % ((2 ^ n : Nat) : Int) = 0)) = true := by
  rw [List.all_eq_true]
  intro z hz
  obtain ⟨s, hs, rfl⟩ := List.getElem_of_mem hz
  have hs' : s < 2 ^ n := by
    have := hs
    rw [signedM_length, mulM_length, signedM_length, ha] at this
    exact this
  have h := signed_mul ha hb hs'
  have hp : (2 : Int) ^ n = ((2 ^ n : Nat) : Int) := by norm_cast
  unfold at0 at h
  rw [List.getD_eq_getElem?_getD, List.getElem?_eq_getElem hs, hp] at h
  rw [show (signedM n (mulM (signedM n a) (signedM n b)))[s] = _ from h]
  exact decide_eq_true (Int.mul_emod_right _ _)
end
theorem tr_sm (m : Mx) (n k : Nat) (F : Nat → Nat → Int) (s : Nat) : tr m n (fun o => sm k fun j => F j o) s = sm k fun j => tr m n (F j) s := by
  unfold tr
  rw [← sm_swap]
  exact sm_congr fun o _ => (sm_mul k _ _).symm
theorem ker_or {n s x y : Nat} (hs : s < 2 ^ n) (hx : x < 2 ^ n) (hy : y < 2 ^ n) : ker3 kOr n s x y = if s = x ||| y then 1 else 0 := by
  unfold ker3 kOr
  rw [pr_ind n (fun k => s.testBit k = (x.testBit k || y.testBit k))]
  have e : (∀ k, k < n → s.testBit k = (x.testBit k || y.testBit k)) ↔ s = x ||| y := by
    constructor
    · intro h
      exact eq_bits hs (Nat.or_lt_two_pow hx hy) fun k hk => by rw [h k hk, Nat.testBit_or]
    · rintro rfl k _
      exact Nat.testBit_or _ _ _
  by_cases h : s = x ||| y
  · rw [if_pos h, if_pos (e.mpr h)]
  · rw [if_neg h, if_neg fun z => h (e.mp z)]
theorem ker_and {n s x y : Nat} (hs : s < 2 ^ n) (hx : x < 2 ^ n) (hy : y < 2 ^ n) : ker3 kAnd n s x y = if s = x &&& y then 1 else 0 := by
  unfold ker3 kAnd
  rw [pr_ind n (fun k => s.testBit k = (x.testBit k && y.testBit k))]
  have e : (∀ k, k < n → s.testBit k = (x.testBit k && y.testBit k)) ↔ s = x &&& y := by
    constructor
    · intro h
      exact eq_bits hs (Nat.and_lt_two_pow x hy) fun k hk => by rw [h k hk, Nat.testBit_and]
    · rintro rfl k _
      exact Nat.testBit_and _ _ _
  by_cases h : s = x &&& y
  · rw [if_pos h, if_pos (e.mpr h)]
  · rw [if_neg h, if_neg fun z => h (e.mp z)]
theorem ker_xor {n s x y : Nat} (hs : s < 2 ^ n) (hx : x < 2 ^ n) (hy : y < 2 ^ n) : ker3 kXor n s x y = if s = x ^^^ y then 1 else 0 := by
  unfold ker3 kXor
  rw [pr_ind n (fun k => s.testBit k = (x.testBit k ^^ y.testBit k))]
  have e : (∀ k, k < n → s.testBit k = (x.testBit k ^^ y.testBit k)) ↔ s = x ^^^ y := by
    constructor
    · intro h
      exact eq_bits hs (Nat.xor_lt_two_pow hx hy) fun k hk => by rw [h k hk, Nat.testBit_xor]
    · rintro rfl k _
      exact Nat.testBit_xor _ _ _
  by_cases h : s = x ^^^ y
  · rw [if_pos h, if_pos (e.mpr h)]
  · rw [if_neg h, if_neg fun z => h (e.mp z)]
theorem ker_apart {n s x y : Nat} (hs : s < 2 ^ n) (hx : x < 2 ^ n) (hy : y < 2 ^ n) : ker3 kApart n s x y = if s = x ||| y ∧ x &&& y = 0 then 1 else 0 := by
  unfold ker3 kApart
  rw [pr_ind n (fun k => s.testBit k = (x.testBit k || y.testBit k) ∧ (x.testBit k && y.testBit k) = false)]
  have e : (∀ k, k < n → s.testBit k = (x.testBit k || y.testBit k) ∧ (x.testBit k && y.testBit k) = false) ↔ (s = x ||| y ∧ x &&& y = 0) := by
    constructor
    · intro h
      exact ⟨eq_bits hs (Nat.or_lt_two_pow hx hy) fun k hk => by rw [(h k hk).1, Nat.testBit_or], eq_bits (Nat.and_lt_two_pow x hy) (Nat.two_pow_pos n) fun k hk => by rw [Nat.testBit_and, (h k hk).2, Nat.zero_testBit]⟩
    · rintro ⟨rfl, h⟩ k _
      exact ⟨Nat.testBit_or _ _ _, by rw [← Nat.testBit_and, h, Nat.zero_testBit]⟩
  by_cases h : s = x ||| y ∧ x &&& y = 0
  · rw [if_pos h, if_pos (e.mpr h)]
  · rw [if_neg h, if_neg fun z => h (e.mp z)]
def szN (x : Nat) : Nat := (bitsN x).length
def sizesChk : Bool := (List.range 32).all fun x => (List.range 32).all fun y => decide (szN x + szN y = szN (x ||| y)) == decide (x &&& y = 0)
theorem sizesChk_ok : sizesChk = true := by decide +kernel
theorem sizes {x y : Nat} (hx : x < 32) (hy : y < 32) : szN x + szN y = szN (x ||| y) ↔ x &&& y = 0 := by
  have h1 := List.all_eq_true.mp sizesChk_ok x (List.mem_range.mpr hx)
  have h2 := List.all_eq_true.mp h1 y (List.mem_range.mpr hy)
  rw [beq_iff_eq, decide_eq_decide] at h2
  exact h2
theorem two_sizes (p q z : Nat) : sm (z + 1) (fun j => (if p = j then 1 else 0) * (if q = z - j then 1 else 0)) = if p + q = z then 1 else 0 := by
  by_cases h : p ≤ z
  · rw [sm_congr (g := fun j => (if j = p then 1 else 0) * (if q = z - j then 1 else 0)) fun j _ => by
      by_cases e : p = j
      · rw [if_pos e, if_pos e.symm]
      · rw [if_neg e, if_neg (Ne.symm e)], sm_at (by omega)]
    by_cases e : q = z - p
    · rw [if_pos e, if_pos (by omega)]
    · rw [if_neg e, if_neg (by omega)]
  · rw [if_neg (by omega), sm_congr (g := fun _ => 0) fun j hj => by rw [if_neg (by omega), Int.zero_mul], sm_zero]
section
variable {n : Nat} {a b : List Int} (ha : a.length = 2 ^ n) (hb : b.length = 2 ^ n)
include ha hb
theorem total_at (z m : Nat) {s : Nat} (hs : s < 2 ^ n) : at0 (totalM n z a b m) s = sm m fun j => tr (mS 1 true) n (at0 (ofSizeM j a)) s * tr (mS 1 true) n (at0 (ofSizeM (z - j) b)) s := by
  induction m with
  | zero => exact at0_rep _ _
  | succ m ih =>
    have hl : (totalM n z a b m).length = 2 ^ n := (totalM_length n z a b m).trans ha
    unfold totalM at ih hl ⊢
    rw [foldl_range_succ, sm, ← ih, at0_add (by rw [hl]; exact hs), at0_mul (by rw [rankM_length, ha]; exact hs)]
    unfold rankM
    rw [spread_tr _ _ _ (by rw [ofSizeM_length, ha]) hs, spread_tr _ _ _ (by rw [ofSizeM_length, hb]) hs]
theorem apart_at (hn : n ≤ 5) {s : Nat} (hs : s < 2 ^ n) : at0 (apartM n a b) s = conv kApart n (at0 a) (at0 b) s := by
  have h32 : 2 ^ n ≤ 32 := Nat.pow_le_pow_right (by decide) hn
  unfold apartM backM
  rw [at0_map _ hs]
  show at0 (spreadM n (-1) true (totalM n (szN s) a b (szN s + 1))) s = _
  rw [spread_tr _ _ _ (by rw [totalM_length, ha]) hs, tr_congr (fun o ho => total_at ha hb (szN s) (szN s + 1) ho), tr_sm]
  rw [sm_congr (g := fun j => sm (2 ^ n) fun x => sm (2 ^ n) fun y => ker3 kOr n s x y * ((at0 a x * (if szN x = j then 1 else 0)) * (at0 b y * (if szN y = szN s - j then 1 else 0)))) fun j _ => by
    rw [tri, conv_t (u := kOr) (by decide)]
    refine sm_congr2 fun x y hx hy => ?_
    unfold ofSizeM
    rw [at0_map _ (by omega), at0_map _ (by omega)]
    rfl]
  rw [sm_rot]
  refine sm_congr2 fun x y hx hy => ?_
  rw [sm_congr (g := fun j => ker3 kOr n s x y * (at0 a x * at0 b y) * ((if szN x = j then 1 else 0) * (if szN y = szN s - j then 1 else 0))) fun j _ => by grind, sm_mul, two_sizes, ker_or hs hx hy, ker_apart hs hx hy]
  have hxy := sizes (show x < 32 by omega) (show y < 32 by omega)
  by_cases h : s = x ||| y
  · subst h
    by_cases h2 : x &&& y = 0
    · rw [if_pos rfl, if_pos (hxy.mpr h2), if_pos ⟨rfl, h2⟩]
      omega
    · rw [if_pos rfl, if_neg fun z => h2 (hxy.mp z), if_neg fun z => h2 z.2]
      omega
  · rw [if_neg h, if_neg (c := s = x ||| y ∧ x &&& y = 0) fun z => h z.1]
    simp
theorem put_at (way : Nat) (hn : n ≤ 5) {s : Nat} (hs : s < 2 ^ n) : at0 (putM way n a b) s = conv (tW way) n (at0 a) (at0 b) s := by
  match way with
  | 0 => exact joined_at ha hb hs
  | 1 => exact met_at ha hb hs
  | 2 => exact crossed_at ha hb hs
  | _ + 3 => exact apart_at ha hb hn hs
end
def mW : Nat → Mx
  | 0 => mS 1 true
  | 1 => mS 1 false
  | _ => mG
theorem sum_at (way : Nat) {n : Nat} {a : List Int} (ha : a.length = 2 ^ n) {s : Nat} (hs : s < 2 ^ n) : at0 (sumM way n a) s = tr (mW way) n (at0 a) s := by
  match way with
  | 0 => exact spread_tr _ _ _ ha hs
  | 1 => exact spread_tr _ _ _ ha hs
  | _ + 2 => exact signed_tr _ ha hs
theorem ext_n {n : Nat} {a b : List Int} (ha : a.length = 2 ^ n) (hb : b.length = 2 ^ n) (h : ∀ s, s < 2 ^ n → at0 a s = at0 b s) : a = b := ext0 (ha.trans hb.symm) fun s hs => h s (by omega)
end SS

/-! there and back; the contrary -/
namespace SS
theorem tr_m {m p : Mx} (h : ∀ x y, m x y = p x y) (n : Nat) (f : Nat → Int) (s : Nat) : tr m n f s = tr p n f s := by
  unfold tr ker
  exact sm_congr fun o _ => by rw [pr_congr fun k _ => h _ _]
theorem spread_inv {b c : Int} {up : Bool} (h : ∀ x y, mm (mS b up) (mS c up) x y = mI x y) {n : Nat} {l : List Int} (hl : l.length = 2 ^ n) : spreadM n b up (spreadM n c up l) = l := by
  have h1 : (spreadM n c up l).length = 2 ^ n := (spreadM_length _ _ _ _).trans hl
  refine ext_n ((spreadM_length _ _ _ _).trans h1) hl fun s hs => ?_
  rw [spread_tr _ _ _ h1 hs, tr_congr (g := tr (mS c up) n (at0 l)) fun o ho => spread_tr _ _ l hl ho, tr_mm, tr_m h, tr_I hs]
theorem back_below {n : Nat} {l : List Int} (hl : l.length = 2 ^ n) : spreadM n (-1) true (spreadM n 1 true l) = l := spread_inv (by decide) hl
theorem below_back {n : Nat} {l : List Int} (hl : l.length = 2 ^ n) : spreadM n 1 true (spreadM n (-1) true l) = l := spread_inv (by decide) hl
theorem back_above {n : Nat} {l : List Int} (hl : l.length = 2 ^ n) : spreadM n (-1) false (spreadM n 1 false l) = l := spread_inv (by decide) hl
theorem above_back {n : Nat} {l : List Int} (hl : l.length = 2 ^ n) : spreadM n 1 false (spreadM n (-1) false l) = l := spread_inv (by decide) hl
theorem signed_twice {n : Nat} {l : List Int} (hl : l.length = 2 ^ n) : signedM n (signedM n l) = l.map fun z => z * ((2 ^ n : Nat) : Int) := by
  have h1 : (signedM n l).length = 2 ^ n := (signedM_length _ _).trans hl
  have hp : (2 : Int) ^ n = ((2 ^ n : Nat) : Int) := by norm_cast
  refine ext_n ((signedM_length _ _).trans h1) (by rw [List.length_map, hl]) fun s hs => ?_
  rw [signed_tr _ h1 hs, tr_congr (g := tr mG n (at0 l)) fun o ho => signed_tr l hl ho, tr_mm, tr_m (p := fun x y => 2 * mI x y) (by decide)]
  have e : tr (fun x y => 2 * mI x y) n (at0 l) s = 2 ^ n * tr mI n (at0 l) s := by
    unfold tr
    rw [← sm_mul]
    exact sm_congr fun o _ => by rw [ker_smul, Int.mul_assoc]
  rw [e, tr_I hs, hp]
  unfold at0
  rw [List.getD_eq_getElem?_getD, List.getD_eq_getElem?_getD, List.getElem?_map, List.getElem?_eq_getElem (show s < l.length by omega)]
  exact Int.mul_comm _ _
theorem signed_back {n : Nat} {l : List Int} (hl : l.length = 2 ^ n) : fromSgM n (signedM n l) = l ∧ ((signedM n (signedM n l)).all fun z => decide (z % ((2 ^ n : Nat) : Int) = 0)) = true := by
  have hp := Nat.two_pow_pos n
  unfold fromSgM
  rw [signed_twice hl]
  constructor
  · rw [List.map_map]
    conv => rhs; rw [← List.map_id l]
    exact List.map_congr_left fun z _ => Int.mul_ediv_cancel z (by omega)
  · rw [List.all_eq_true]
    intro z hz
    obtain ⟨y, _, rfl⟩ := List.mem_map.mp hz
    exact decide_eq_true (Int.mul_emod_left _ _)
theorem sm_rev (n : Nat) (f : Nat → Int) : sm n f = sm n fun i => f (n - 1 - i) := by
  induction n generalizing f with
  | zero => rfl
  | succ n ih =>
    rw [sm, Nat.add_comm n 1, sm_app, Nat.add_comm 1 n]
    show sm n f + f n = (0 + f (n + 1 - 1 - 0)) + _
    rw [ih]
    have e : sm n (fun i => f (n + 1 - 1 - (1 + i))) = sm n fun i => f (n - 1 - i) := sm_congr fun i hi => by rw [show n + 1 - 1 - (1 + i) = n - 1 - i by omega]
    rw [e, show n + 1 - 1 - 0 = n by omega]
    omega
theorem bit_rev {n s k : Nat} (hs : s < 2 ^ n) (hk : k < n) : (2 ^ n - 1 - s).testBit k = !s.testBit k := by
  rw [show 2 ^ n - 1 - s = 2 ^ n - (s + 1) by omega, Nat.testBit_two_pow_sub_succ hs, decide_eq_true hk, Bool.true_and]
theorem at0_rev {l : List Int} {s : Nat} (hs : s < l.length) : at0 l.reverse s = at0 l (l.length - 1 - s) := by
  unfold at0
  rw [List.getD_eq_getElem?_getD, List.getD_eq_getElem?_getD, List.getElem?_reverse hs]
theorem rev_map {l : List Int} {N : Nat} (hl : l.length = N) : l.reverse = (List.range N).map fun i => at0 l (N - 1 - i) := by
  refine ext0 (by rw [List.length_reverse, List.length_map, List.length_range, hl]) fun s hs => ?_
  rw [List.length_reverse, hl] at hs
  rw [at0_rev (by rw [hl]; exact hs), at0_map _ hs, hl]
theorem contrary_above {n : Nat} {l : List Int} (hl : l.length = 2 ^ n) : spreadM n 1 false l = (spreadM n 1 true l.reverse).reverse := by
  have hr : l.reverse.length = 2 ^ n := by rw [List.length_reverse, hl]
  have h1 : (spreadM n 1 true l.reverse).length = 2 ^ n := (spreadM_length _ _ _ _).trans hr
  have hp := Nat.two_pow_pos n
  refine ext_n ((spreadM_length _ _ _ _).trans hl) (by rw [List.length_reverse, h1]) fun s hs => ?_
  rw [spread_tr _ _ _ hl hs, at0_rev (by rw [h1]; exact hs), h1, spread_tr _ _ _ hr (by omega)]
  unfold tr
  rw [sm_rev]
  refine sm_congr fun o ho => ?_
  rw [at0_rev (by rw [hl]; exact ho), hl]
  congr 1
  refine pr_congr fun k hk => ?_
  rw [bit_rev hs hk, bit_rev ho hk]
  generalize s.testBit k = x
  generalize o.testBit k = y
  revert x y
  decide
end SS

/-! the laws' own sums over pairs -/
namespace SS
theorem dueStep_at {ok : Nat → Nat → Bool} {spot : Nat → Nat → Nat} {A B L : List Int} {x y N s : Nat} (hL : L.length = N) (hs : ok x y = true → spot x y < N) : at0 (dueStep ok spot A B x L y) s = at0 L s + (if ok x y = true ∧ s = spot x y then 1 else 0) * (at0 A x * at0 B y) := by
  unfold dueStep
  by_cases h : ok x y = true
  · have hsp := hs h
    rw [if_pos h, at0_set (by rw [hL]; exact hsp)]
    by_cases e : s = spot x y
    · rw [if_pos e, if_pos ⟨h, e⟩, e, Int.one_mul]
    · rw [if_neg e, if_neg (c := ok x y = true ∧ s = spot x y) (fun z => e z.2), Int.zero_mul, Int.add_zero]
  · rw [if_neg h, if_neg (c := ok x y = true ∧ s = spot x y) (fun z => h z.1), Int.zero_mul, Int.add_zero]
theorem dueRow_at {ok : Nat → Nat → Bool} {spot : Nat → Nat → Nat} {A B L : List Int} {x N s : Nat} (hL : L.length = N) (hs : ∀ y, y < N → ok x y = true → spot x y < N) : at0 (dueRow N ok spot A B L x) s = at0 L s + sm N fun y => (if ok x y = true ∧ s = spot x y then 1 else 0) * (at0 A x * at0 B y) := by
  unfold dueRow
  have key : ∀ m, m ≤ N → at0 ((List.range m).foldl (dueStep ok spot A B x) L) s = at0 L s + sm m fun y => (if ok x y = true ∧ s = spot x y then 1 else 0) * (at0 A x * at0 B y) := by
    intro m
    induction m with
    | zero => intro _; exact (Int.add_zero _).symm
    | succ m ih =>
      intro hm
      rw [foldl_range_succ, dueStep_at (N := N) (by rw [foldl_length (dueStep_length _ _ _ _ _), hL]) (hs m (by omega)), ih (by omega), sm]
      omega
  exact key N (Nat.le_refl N)
theorem dueP_at {ok : Nat → Nat → Bool} {spot : Nat → Nat → Nat} {A B : List Int} {N s : Nat} (hs : ∀ x y, x < N → y < N → ok x y = true → spot x y < N) : at0 (dueP N ok spot A B) s = sm N fun x => sm N fun y => (if ok x y = true ∧ s = spot x y then 1 else 0) * (at0 A x * at0 B y) := by
  unfold dueP
  have key : ∀ m, m ≤ N → at0 ((List.range m).foldl (dueRow N ok spot A B) (List.replicate N 0)) s = sm m fun x => sm N fun y => (if ok x y = true ∧ s = spot x y then 1 else 0) * (at0 A x * at0 B y) := by
    intro m
    induction m with
    | zero => intro _; exact at0_rep _ _
    | succ m ih =>
      intro hm
      rw [foldl_range_succ, dueRow_at (by rw [foldl_length (dueRow_length _ _ _ _ _), List.length_replicate]) (fun y hy => hs m y (by omega) hy), ih (by omega), sm]
  exact key N (Nat.le_refl N)
theorem pairs {n : Nat} {A B R : List Int} {t : T3} {ok : Nat → Nat → Bool} {spot : Nat → Nat → Nat} (hR : R.length = 2 ^ n) (hs : ∀ x y, x < 2 ^ n → y < 2 ^ n → ok x y = true → spot x y < 2 ^ n)
    (hat : ∀ s, s < 2 ^ n → at0 R s = conv t n (at0 A) (at0 B) s) (hk : ∀ s x y, s < 2 ^ n → x < 2 ^ n → y < 2 ^ n → ker3 t n s x y = if ok x y = true ∧ s = spot x y then 1 else 0) : R = dueP (2 ^ n) ok spot A B :=
  ext_n hR (dueP_length _ _ _ _ _) fun s hs' => by
    rw [hat s hs', dueP_at hs]
    exact sm_congr2 fun x y hx hy => by rw [hk s x y hs' hx hy]
section
variable {n : Nat} {A B : List Int} (hA : A.length = 2 ^ n) (hB : B.length = 2 ^ n)
include hA hB
theorem joined_due : joinedM n A B = dueP (2 ^ n) (fun _ _ => true) (fun x y => x ||| y) A B := pairs ((joinedM_length _ _ _).trans hA) (fun x y hx hy _ => Nat.or_lt_two_pow hx hy) (fun s hs => joined_at hA hB hs) fun s x y hs hx hy => by
  rw [ker_or hs hx hy]
  by_cases h : s = x ||| y
  · rw [if_pos h, if_pos ⟨rfl, h⟩]
  · rw [if_neg h, if_neg (c := true = true ∧ s = x ||| y) (fun z => h z.2)]
theorem met_due : metM n A B = dueP (2 ^ n) (fun _ _ => true) (fun x y => x &&& y) A B := pairs ((metM_length _ _ _).trans hA) (fun x y hx hy _ => Nat.and_lt_two_pow x hy) (fun s hs => met_at hA hB hs) fun s x y hs hx hy => by
  rw [ker_and hs hx hy]
  by_cases h : s = x &&& y
  · rw [if_pos h, if_pos ⟨rfl, h⟩]
  · rw [if_neg h, if_neg (c := true = true ∧ s = x &&& y) (fun z => h z.2)]
theorem crossed_due : crossedM n A B = dueP (2 ^ n) (fun _ _ => true) (fun x y => x ^^^ y) A B := pairs ((crossedM_length _ _ _).trans hA) (fun x y hx hy _ => Nat.xor_lt_two_pow hx hy) (fun s hs => crossed_at hA hB hs) fun s x y hs hx hy => by
  rw [ker_xor hs hx hy]
  by_cases h : s = x ^^^ y
  · rw [if_pos h, if_pos ⟨rfl, h⟩]
  · rw [if_neg h, if_neg (c := true = true ∧ s = x ^^^ y) (fun z => h z.2)]
theorem or_xor {x y : Nat} (h : x &&& y = 0) : x ||| y = x ^^^ y := Nat.eq_of_testBit_eq fun k => by
  have h1 : (x &&& y).testBit k = false := by rw [h, Nat.zero_testBit]
  rw [Nat.testBit_and] at h1
  rw [Nat.testBit_or, Nat.testBit_xor]
  generalize x.testBit k = u at *
  generalize y.testBit k = v at *
  revert u v
  decide
theorem apart_due (hn : n ≤ 5) : apartM n A B = dueP (2 ^ n) (fun x y => decide (x &&& y = 0)) (fun x y => x ^^^ y) A B := pairs (apartM_length _ _ _) (fun x y hx hy _ => Nat.xor_lt_two_pow hx hy) (fun s hs => apart_at hA hB hn hs) fun s x y hs hx hy => by
  rw [ker_apart hs hx hy]
  by_cases h : x &&& y = 0
  · rw [← or_xor hA hB h]
    by_cases h2 : s = x ||| y
    · rw [if_pos ⟨h2, h⟩, if_pos ⟨decide_eq_true h, h2⟩]
    · rw [if_neg (c := s = x ||| y ∧ x &&& y = 0) (fun z => h2 z.1), if_neg (c := decide (x &&& y = 0) = true ∧ s = x ||| y) (fun z => h2 z.2)]
  · rw [if_neg (c := s = x ||| y ∧ x &&& y = 0) (fun z => h z.2), if_neg (c := decide (x &&& y = 0) = true ∧ s = x ^^^ y) (fun z => h (of_decide_eq_true z.1))]
end
end SS

/-! sets by their bits; names told otherwise -/
namespace SS
theorem sum_cast (l : List Nat) : (l.map fun i : Nat => (i : Int)).sum = ((l.sum : Nat) : Int) := by
  induction l with
  | nil => rfl
  | cons a l ih => rw [List.map_cons, List.sum_cons, List.sum_cons, ih, Int.natCast_add]
def mkN : Nat → (Nat → Bool) → Nat
  | 0, _ => 0
  | n + 1, b => mkN n b + if b n = true then 2 ^ n else 0
theorem mkN_lt (n : Nat) (b : Nat → Bool) : mkN n b < 2 ^ n := by
  induction n with
  | zero => exact Nat.one_pos
  | succ n ih =>
    rw [mkN, Nat.pow_succ]
    split <;> omega
theorem mkN_bit {n k : Nat} (b : Nat → Bool) (h : k < n) : (mkN n b).testBit k = b k := by
  induction n with
  | zero => omega
  | succ n ih =>
    rw [mkN]
    have hl := mkN_lt n b
    rcases Nat.lt_succ_iff_lt_or_eq.mp h with h1 | h1
    · split
      · rw [Nat.add_comm, bit_add hl h1, ih h1]
      · rw [Nat.add_zero, ih h1]
    · subst h1
      cases hb : b k with
      | true => rw [if_pos rfl, Nat.add_comm, bit_top hl]
      | false => rw [if_neg (by decide), Nat.add_zero, bit_low hl]
theorem mkN_congr {n : Nat} {b c : Nat → Bool} (h : ∀ k, k < n → b k = c k) : mkN n b = mkN n c := by
  induction n with
  | zero => rfl
  | succ n ih => rw [mkN, mkN, ih fun k hk => h k (by omega), h n (by omega)]
theorem mkN_self {n s : Nat} (h : s < 2 ^ n) : mkN n s.testBit = s := eq_bits (mkN_lt _ _) h fun k hk => mkN_bit _ hk
theorem mkN_false (n : Nat) : mkN n (fun _ => false) = 0 := by
  induction n with
  | zero => rfl
  | succ n ih => rw [mkN, ih] <;> rfl
theorem mkN_add {n a : Nat} {b : Nat → Bool} (ha : a < n) (hb : b a = false) : 2 ^ a + mkN n b = mkN n (fun j => b j || decide (j = a)) := by
  induction n with
  | zero => omega
  | succ n ih =>
    rw [mkN, mkN]
    rcases Nat.lt_succ_iff_lt_or_eq.mp ha with h | h
    · rw [← ih h, decide_eq_false (show ¬ n = a by omega), Bool.or_false]
      omega
    · subst h
      rw [show mkN a (fun j => b j || decide (j = a)) = mkN a b from mkN_congr fun k hk => by rw [decide_eq_false (show ¬ k = a by omega), Bool.or_false], hb, decide_eq_true rfl]
      simp
      omega
theorem sum_pows {n : Nat} {l : List Nat} (nd : l.Nodup) (hl : ∀ a ∈ l, a < n) : (l.map fun a => 2 ^ a).sum = mkN n (fun j => decide (j ∈ l)) := by
  induction l with
  | nil =>
    rw [mkN_congr (c := fun _ => false) fun k _ => by simp, mkN_false]
    rfl
  | cons a l ih =>
    rw [List.nodup_cons] at nd
    rw [List.map_cons, List.sum_cons, ih nd.2 fun x hx => hl x (List.mem_cons_of_mem _ hx), mkN_add (hl a (List.mem_cons_self ..)) (decide_eq_false nd.1)]
    refine mkN_congr fun k _ => ?_
    by_cases h : k = a
    · simp [h]
    · simp [h]
theorem bitsN_nodup (s : Nat) : (bitsN s).Nodup := List.nodup_range.sublist List.filter_sublist
theorem bitsN_mem {n s k : Nat} (hn : n ≤ 10) (hs : s < 2 ^ n) : k ∈ bitsN s ↔ k < n ∧ s.testBit k = true := by
  rw [← bits_below hn (Nat.div_eq_of_lt hs), List.mem_filter, List.mem_range]
section
variable {n : Nat} {ord : List Nat} (hn : n ≤ 10) (hp : List.Perm ord (List.range n))
include hp
theorem ord_len : ord.length = n := by rw [hp.length_eq, List.length_range]
theorem ord_lt {k : Nat} (hk : k < n) : ord.getD k 0 < n := by
  have hl := ord_len hp
  rw [List.getD_eq_getElem?_getD, List.getElem?_eq_getElem (by omega)]
  exact List.mem_range.mp (hp.mem_iff.mp (List.getElem_mem _))
theorem ord_inj {j k : Nat} (hj : j < n) (hk : k < n) (h : ord.getD j 0 = ord.getD k 0) : j = k := by
  have hl := ord_len hp
  have nd : ord.Nodup := hp.nodup_iff.mpr List.nodup_range
  rw [List.getD_eq_getElem?_getD, List.getD_eq_getElem?_getD, List.getElem?_eq_getElem (show j < ord.length by omega), List.getElem?_eq_getElem (show k < ord.length by omega)] at h
  exact (List.getElem_inj nd).mp h
include hn
theorem reN_mk {s : Nat} (hs : s < 2 ^ n) : reN ord s = mkN n (fun j => decide (j ∈ (bitsN s).map fun k => ord.getD k 0)) := by
  unfold reN
  rw [← sum_pows (n := n) (l := (bitsN s).map fun k => ord.getD k 0), List.map_map]
  · rfl
  · unfold List.Nodup
    rw [List.pairwise_map]
    exact List.Pairwise.imp_of_mem (fun {a b} ha hb h z => h (ord_inj hp ((bitsN_mem hn hs).mp ha).1 ((bitsN_mem hn hs).mp hb).1 z)) (bitsN_nodup s)
  · intro a ha
    obtain ⟨k, hk, rfl⟩ := List.mem_map.mp ha
    exact ord_lt hp ((bitsN_mem hn hs).mp hk).1
theorem reN_lt {s : Nat} (hs : s < 2 ^ n) : reN ord s < 2 ^ n := by
  rw [reN_mk hn hp hs]
  exact mkN_lt _ _
/-- the set's name k is ord[k] -/
theorem reN_bit {s k : Nat} (hs : s < 2 ^ n) (hk : k < n) : (reN ord s).testBit (ord.getD k 0) = s.testBit k := by
  rw [reN_mk hn hp hs, mkN_bit _ (ord_lt hp hk)]
  cases h : s.testBit k with
  | true => exact decide_eq_true (List.mem_map.mpr ⟨k, (bitsN_mem hn hs).mpr ⟨hk, h⟩, rfl⟩)
  | false =>
    refine decide_eq_false fun hm => ?_
    obtain ⟨j, hj, e⟩ := List.mem_map.mp hm
    obtain ⟨hj1, hj2⟩ := (bitsN_mem hn hs).mp hj
    have := ord_inj hp hj1 hk e
    subst this
    rw [h] at hj2
    cases hj2
end
end SS

/-! sums and tables put together, the names told by an order -/
namespace SS
def lprod (l : List Int) : Int := l.foldr (· * ·) 1
theorem lprod_snoc (l : List Int) (a : Int) : lprod (l ++ [a]) = lprod l * a := by
  unfold lprod
  induction l with
  | nil => simp
  | cons b l ih => rw [List.cons_append, List.foldr_cons, List.foldr_cons, ih, Int.mul_assoc]
theorem pr_lprod (n : Nat) (u : Nat → Int) : pr n u = lprod ((List.range n).map u) := by
  induction n with
  | zero => rfl
  | succ n ih => rw [pr, ih, List.range_succ, List.map_append, List.map_cons, List.map_nil, lprod_snoc]
theorem lprod_perm {l m : List Int} (h : l.Perm m) : lprod l = lprod m := h.foldr_eq' (fun x _ y _ z => by rw [← Int.mul_assoc, ← Int.mul_assoc, Int.mul_comm y x]) 1
section
variable {n : Nat} {ord : List Nat} (hp : List.Perm ord (List.range n))
include hp
theorem pr_ord (u : Nat → Int) : pr n (fun k => u (ord.getD k 0)) = pr n u := by
  rw [pr_lprod, pr_lprod]
  have hl := ord_len hp
  have e : (List.range n).map (fun k => u (ord.getD k 0)) = ord.map u := by
    apply List.ext_getElem
    · simp [hl]
    · intro i h1 h2
      rw [List.length_map] at h2
      rw [List.getElem_map, List.getElem_map, List.getElem_range, List.getD_eq_getElem?_getD, List.getElem?_eq_getElem h2]
      rfl
  rw [e]
  exact lprod_perm (hp.map u)
end
theorem sm_bij {N : Nat} {p r : Nat → Nat} (h1 : ∀ x, x < N → p x < N) (h2 : ∀ z, z < N → r z < N) (h : ∀ x z, x < N → z < N → (z = p x ↔ x = r z)) (f : Nat → Int) : sm N (fun x => f (p x)) = sm N f := by
  rw [sm_congr (g := fun x => sm N fun z => (if z = p x then 1 else 0) * f z) fun x hx => (sm_at (h1 x hx) f).symm, sm_swap]
  refine sm_congr fun z hz => ?_
  rw [sm_congr (g := fun x => (if x = r z then 1 else 0) * f z) fun x hx => by
    by_cases e : z = p x
    · rw [if_pos e, if_pos ((h x z hx hz).mp e)]
    · rw [if_neg e, if_neg fun q => e ((h x z hx hz).mpr q)]]
  exact sm_at (h2 z hz) (fun _ => f z)
section
variable {n : Nat} {ord : List Nat} (hn : n ≤ 10) (hp : List.Perm ord (List.range n))
include hp
theorem ord_onto {j : Nat} (hj : j < n) : ∃ k, k < n ∧ ord.getD k 0 = j := by
  have hm : j ∈ ord := hp.mem_iff.mpr (List.mem_range.mpr hj)
  obtain ⟨k, hk, e⟩ := List.getElem_of_mem hm
  refine ⟨k, by rw [← ord_len hp]; exact hk, ?_⟩
  rw [List.getD_eq_getElem?_getD, List.getElem?_eq_getElem hk]
  exact e
include hn
theorem re_iff {x z : Nat} (hx : x < 2 ^ n) (hz : z < 2 ^ n) : z = reN ord x ↔ x = mkN n fun k => z.testBit (ord.getD k 0) := by
  constructor
  · rintro rfl
    exact eq_bits hx (mkN_lt _ _) fun k hk => by rw [mkN_bit _ hk, reN_bit hn hp hx hk]
  · intro e
    refine eq_bits hz (reN_lt hn hp hx) fun j hj => ?_
    obtain ⟨k, hk, rfl⟩ := ord_onto hp hj
    rw [reN_bit hn hp hx hk, e, mkN_bit _ hk]
theorem sm_re (f : Nat → Int) : sm (2 ^ n) (fun x => f (reN ord x)) = sm (2 ^ n) f := sm_bij (r := fun z => mkN n fun k => z.testBit (ord.getD k 0)) (fun x hx => reN_lt hn hp hx) (fun z hz => mkN_lt _ _) (fun x z hx hz => re_iff hn hp hx hz) f
theorem re_tr (m : Mx) (f : Nat → Int) {s : Nat} (hs : s < 2 ^ n) : tr m n f (reN ord s) = tr m n (fun o => f (reN ord o)) s := by
  unfold tr
  rw [← sm_re hn hp]
  refine sm_congr fun o ho => ?_
  congr 1
  unfold ker
  rw [← pr_ord hp]
  exact pr_congr fun k hk => by rw [reN_bit hn hp hs hk, reN_bit hn hp ho hk]
theorem re_conv (t : T3) (f g : Nat → Int) {s : Nat} (hs : s < 2 ^ n) : conv t n f g (reN ord s) = conv t n (fun o => f (reN ord o)) (fun o => g (reN ord o)) s := by
  unfold conv
  rw [← sm_re hn hp]
  refine sm_congr fun x hx => ?_
  rw [← sm_re hn hp]
  refine sm_congr fun y hy => ?_
  congr 1
  unfold ker3
  rw [← pr_ord hp]
  exact pr_congr fun k hk => by rw [reN_bit hn hp hs hk, reN_bit hn hp hx hk, reN_bit hn hp hy hk]
end
theorem reM_length (ord : List Nat) (l : List Int) : (reM ord l).length = l.length := by unfold reM; rw [List.length_map, List.length_range]
theorem reM_at {ord : List Nat} {l : List Int} {s : Nat} (hs : s < l.length) : at0 (reM ord l) s = at0 l (reN ord s) := by unfold reM; rw [at0_map _ hs]
section
variable {n : Nat} {ord : List Nat} (hn : n ≤ 5) (hp : List.Perm ord (List.range n)) {A B : List Int} (hA : A.length = 2 ^ n) (hB : B.length = 2 ^ n)
include hn hp hA
theorem re_sum (way : Nat) : sumM way n (reM ord A) = reM ord (sumM way n A) := by
  have l1 := (reM_length ord A).trans hA
  have l2 := (sumM_length way n A).trans hA
  refine ext_n ((sumM_length _ _ _).trans l1) ((reM_length _ _).trans l2) fun s hs => ?_
  rw [sum_at way l1 hs, reM_at (by rw [l2]; exact hs), sum_at way hA (reN_lt (by omega) hp hs), re_tr (by omega) hp _ _ hs]
  exact tr_congr (fun o ho => reM_at (by rw [hA]; exact ho)) s
include hB
theorem re_put (way : Nat) : putM way n (reM ord A) (reM ord B) = reM ord (putM way n A B) := by
  have l1 := (reM_length ord A).trans hA
  have l2 := (reM_length ord B).trans hB
  have l3 := putM_length way n A B hA
  refine ext_n (putM_length _ _ _ _ l1) ((reM_length _ _).trans l3) fun s hs => ?_
  rw [put_at l1 l2 way hn hs, reM_at (by rw [l3]; exact hs), put_at hA hB way hn (reN_lt (by omega) hp hs), re_conv (by omega) hp _ _ _ hs]
  exact conv_congr (fun o ho => reM_at (by rw [hA]; exact ho)) (fun o ho => reM_at (by rw [hB]; exact ho)) s
end
/-- two orders, one behind the other -/
theorem re_re {n : Nat} (hn : n ≤ 10) {ord later : List Nat} (hp : List.Perm ord (List.range n)) (hq : List.Perm later (List.range n)) {A : List Int} (hA : A.length = 2 ^ n) :
    List.Perm (later.map fun k => ord.getD k 0) (List.range n) ∧ reM later (reM ord A) = reM (later.map fun k => ord.getD k 0) A := by
  have e0 : (List.range n).map (fun k => ord.getD k 0) = ord := by
    have := range_get ord 0
    rwa [ord_len hp] at this
  have hc : List.Perm (later.map fun k => ord.getD k 0) (List.range n) := ((hq.map _).trans (by rw [e0])).trans hp
  refine ⟨hc, ?_⟩
  have l1 := (reM_length ord A).trans hA
  refine ext_n ((reM_length _ _).trans l1) ((reM_length _ _).trans hA) fun s hs => ?_
  rw [reM_at (by rw [l1]; exact hs), reM_at (by rw [hA]; exact reN_lt hn hq hs), reM_at (by rw [hA]; exact hs)]
  congr 1
  refine eq_bits (reN_lt hn hp (reN_lt hn hq hs)) (reN_lt hn hc hs) fun j hj => ?_
  obtain ⟨k, hk, e⟩ := ord_onto hc hj
  have e2 : (later.map fun k => ord.getD k 0).getD k 0 = ord.getD (later.getD k 0) 0 := by
    have hl := ord_len hq
    rw [List.getD_eq_getElem?_getD, List.getElem?_map, List.getD_eq_getElem?_getD (l := later), List.getElem?_eq_getElem (show k < later.length by omega)]
    rfl
  rw [← e, reN_bit hn hc hs hk, e2, reN_bit hn hp (reN_lt hn hq hs) (ord_lt hq hk), reN_bit hn hq hs hk]
end SS

/-! a name more, a name fewer -/
namespace SS
/-- the set i with the name m put in, held or not -/
def insN (n m : Nat) (b : Bool) (i : Nat) : Nat := mkN (n + 1) fun k => if k < m then i.testBit k else if k = m then b else i.testBit (k - 1)
theorem insN_lt (n m : Nat) (b : Bool) (i : Nat) : insN n m b i < 2 ^ (n + 1) := mkN_lt _ _
theorem wbM_bit (m s k : Nat) : (wbM m s).testBit k = if k < m then s.testBit k else s.testBit (k + 1) := by
  unfold wbM
  rw [Nat.testBit_or, Nat.testBit_and, Nat.testBit_two_pow_sub_one, Nat.testBit_mul_two_pow]
  by_cases h : k < m
  · rw [if_pos h, decide_eq_true h, decide_eq_false (show ¬ m ≤ k by omega), Bool.and_true, Bool.false_and, Bool.or_false]
  · rw [if_neg h, decide_eq_false h, decide_eq_true (show m ≤ k by omega), Bool.and_false, Bool.true_and, Bool.false_or, Nat.testBit_div_two_pow]
    congr 1
    omega
theorem wbM_lt {n m s : Nat} (hm : m ≤ n) (hs : s < 2 ^ (n + 1)) : wbM m s < 2 ^ n := by
  refine Nat.lt_of_not_le fun h => ?_
  obtain ⟨k, hk, hb⟩ := Nat.exists_ge_and_testBit_of_ge_two_pow h
  rw [wbM_bit, if_neg (by omega), Nat.testBit_lt_two_pow (Nat.lt_of_lt_of_le hs (Nat.pow_le_pow_right (by decide) (by omega)))] at hb
  cases hb
section
variable {n m : Nat} (hm : m ≤ n)
include hm
theorem insN_bit (b : Bool) (i : Nat) {k : Nat} (hk : k < n) : (insN n m b i).testBit (if k < m then k else k + 1) = i.testBit k := by
  unfold insN
  split
  · rename_i h
    rw [mkN_bit _ (by omega), if_pos h]
  · rename_i h
    rw [mkN_bit _ (by omega), if_neg (by omega), if_neg (by omega)]
    rfl
theorem insN_own (b : Bool) (i : Nat) : (insN n m b i).testBit m = b := by
  unfold insN
  rw [mkN_bit _ (by omega), if_neg (Nat.lt_irrefl m), if_pos rfl]
theorem wb_ins (b : Bool) {i : Nat} (hi : i < 2 ^ n) : wbM m (insN n m b i) = i := eq_bits (wbM_lt hm (insN_lt _ _ _ _)) hi fun k hk => by
  rw [wbM_bit, ← insN_bit hm b i hk]
  split <;> rfl
theorem ins_iff {b : Bool} {s i : Nat} (hs : s < 2 ^ (n + 1)) (hi : i < 2 ^ n) : s = insN n m b i ↔ i = wbM m s ∧ s.testBit m = b := by
  constructor
  · rintro rfl
    exact ⟨(wb_ins hm b hi).symm, insN_own hm b i⟩
  · rintro ⟨rfl, hb⟩
    refine eq_bits hs (insN_lt _ _ _ _) fun k hk => ?_
    unfold insN
    rw [mkN_bit _ hk, wbM_bit, wbM_bit]
    by_cases h1 : k < m
    · rw [if_pos h1, if_pos h1]
    · rw [if_neg h1]
      by_cases h2 : k = m
      · rw [if_pos h2, h2, hb]
      · rw [if_neg h2, if_neg (by omega), show k - 1 + 1 = k by omega]
theorem sm_ins (b : Bool) (f : Nat → Int) : sm (2 ^ n) (fun i => f (insN n m b i)) = sm (2 ^ (n + 1)) fun s => (if s.testBit m = b then 1 else 0) * f s := by
  rw [sm_congr (g := fun i => sm (2 ^ (n + 1)) fun s => (if s = insN n m b i then 1 else 0) * f s) fun i _ => (sm_at (insN_lt n m b i) f).symm, sm_swap]
  refine sm_congr fun s hs => ?_
  by_cases h : s.testBit m = b
  · rw [if_pos h, Int.one_mul, sm_congr (g := fun i => (if i = wbM m s then 1 else 0) * f s) fun i hi => by
      by_cases e : i = wbM m s
      · rw [if_pos e, if_pos ((ins_iff hm hs hi).mpr ⟨e, h⟩)]
      · rw [if_neg e, if_neg fun z => e ((ins_iff hm hs hi).mp z).1]]
    exact sm_at (wbM_lt hm hs) (fun _ => f s)
  · rw [if_neg h, Int.zero_mul, sm_congr (g := fun _ => 0) fun i hi => by rw [if_neg fun z => h ((ins_iff hm hs hi).mp z).2, Int.zero_mul], sm_zero]
theorem sm_split (f : Nat → Int) : sm (2 ^ (n + 1)) f = sm (2 ^ n) (fun i => f (insN n m false i)) + sm (2 ^ n) (fun i => f (insN n m true i)) := by
  rw [sm_ins hm, sm_ins hm, ← sm_add]
  refine sm_congr fun s _ => ?_
  cases s.testBit m <;> simp
theorem pr_split (u : Nat → Int) : pr (n + 1) u = u m * pr n fun k => u (if k < m then k else k + 1) := by
  induction n with
  | zero =>
    have : m = 0 := by omega
    subst this
    show 1 * u 0 = u 0 * 1
    omega
  | succ n ih =>
    by_cases h : m ≤ n
    · rw [pr, ih h, pr, if_neg (show ¬ n < m by omega), Int.mul_assoc]
    · have : m = n + 1 := by omega
      subst this
      rw [pr, Int.mul_comm]
      congr 1
      exact pr_congr fun k hk => by rw [if_pos hk]
theorem ker_ins (M : Mx) (b c : Bool) (i j : Nat) : ker M (n + 1) (insN n m b i) (insN n m c j) = M b c * ker M n i j := by
  unfold ker
  rw [pr_split hm, insN_own hm, insN_own hm]
  congr 1
  exact pr_congr fun k hk => by rw [insN_bit hm b i hk, insN_bit hm c j hk]
theorem ker3_ins (t : T3) (b c d : Bool) (i j k : Nat) : ker3 t (n + 1) (insN n m b i) (insN n m c j) (insN n m d k) = t b c d * ker3 t n i j k := by
  unfold ker3
  rw [pr_split hm, insN_own hm, insN_own hm, insN_own hm]
  congr 1
  exact pr_congr fun l hl => by rw [insN_bit hm b i hl, insN_bit hm c j hl, insN_bit hm d k hl]
theorem tr_ins (M : Mx) (b : Bool) (f : Nat → Int) (i : Nat) : tr M (n + 1) f (insN n m b i) = M b false * tr M n (fun j => f (insN n m false j)) i + M b true * tr M n (fun j => f (insN n m true j)) i := by
  unfold tr
  rw [sm_split hm, ← sm_mul, ← sm_mul]
  congr 1
  · exact sm_congr fun j _ => by rw [ker_ins hm, Int.mul_assoc]
  · exact sm_congr fun j _ => by rw [ker_ins hm, Int.mul_assoc]
theorem conv_part (t : T3) (b c d : Bool) (f g : Nat → Int) (i : Nat) : (sm (2 ^ n) fun x => sm (2 ^ n) fun y => ker3 t (n + 1) (insN n m b i) (insN n m c x) (insN n m d y) * (f (insN n m c x) * g (insN n m d y))) = t b c d * conv t n (fun j => f (insN n m c j)) (fun j => g (insN n m d j)) i := by
  unfold conv
  rw [← sm_mul]
  refine sm_congr fun x _ => ?_
  rw [← sm_mul]
  exact sm_congr fun y _ => by rw [ker3_ins hm, Int.mul_assoc]
theorem conv_ins (t : T3) (b : Bool) (f g : Nat → Int) (i : Nat) : conv t (n + 1) f g (insN n m b i) =
    t b false false * conv t n (fun j => f (insN n m false j)) (fun j => g (insN n m false j)) i + t b false true * conv t n (fun j => f (insN n m false j)) (fun j => g (insN n m true j)) i +
    (t b true false * conv t n (fun j => f (insN n m true j)) (fun j => g (insN n m false j)) i + t b true true * conv t n (fun j => f (insN n m true j)) (fun j => g (insN n m true j)) i) := by
  rw [← conv_part hm, ← conv_part hm, ← conv_part hm, ← conv_part hm]
  rw [show conv t (n + 1) f g (insN n m b i) = sm (2 ^ (n + 1)) fun x => sm (2 ^ (n + 1)) fun y => ker3 t (n + 1) (insN n m b i) x y * (f x * g y) from rfl, sm_split hm]
  have e : ∀ c, (sm (2 ^ n) fun x => sm (2 ^ (n + 1)) fun y => ker3 t (n + 1) (insN n m b i) (insN n m c x) y * (f (insN n m c x) * g y)) =
      (sm (2 ^ n) fun x => sm (2 ^ n) fun y => ker3 t (n + 1) (insN n m b i) (insN n m c x) (insN n m false y) * (f (insN n m c x) * g (insN n m false y))) +
      (sm (2 ^ n) fun x => sm (2 ^ n) fun y => ker3 t (n + 1) (insN n m b i) (insN n m c x) (insN n m true y) * (f (insN n m c x) * g (insN n m true y))) := fun c => by
    rw [← sm_add]
    exact sm_congr fun x _ => sm_split hm _
  rw [e false, e true]
end
/-- the halves of a table by a name -/
def partChk : Bool := (List.range 6).all fun n => (List.range (n + 1)).all fun m => [false, true].all fun w => decide (((List.range (2 ^ (n + 1))).filter fun s => s.testBit m == w) = (List.range (2 ^ n)).map (insN n m w))
theorem partChk_ok : partChk = true := by decide +kernel
theorem part_ins {n m : Nat} (hn : n ≤ 5) (hm : m ≤ n) (w : Bool) : ((List.range (2 ^ (n + 1))).filter fun s => s.testBit m == w) = (List.range (2 ^ n)).map (insN n m w) := by
  have h1 := List.all_eq_true.mp partChk_ok n (List.mem_range.mpr (by omega))
  have h2 := List.all_eq_true.mp h1 m (List.mem_range.mpr (by omega))
  have h3 := List.all_eq_true.mp h2 w (by cases w <;> simp)
  exact of_decide_eq_true h3
theorem partM_eq {n m : Nat} (hn : n ≤ 5) (hm : m ≤ n) (w : Bool) {l : List Int} (hl : l.length = 2 ^ (n + 1)) : partM m w l = (List.range (2 ^ n)).map fun i => at0 l (insN n m w i) := by
  unfold partM
  rw [hl, part_ins hn hm, List.map_map]
  rfl
end SS

/-! the plain law of covers: rows counted by what they are together -/
namespace SS
open L2 PySem
theorem snocI {P : List Nat → Prop} (h0 : P []) (h1 : ∀ l k, P l → P (l ++ [k])) (l : List Nat) : P l := by
  have : ∀ m : List Nat, P m.reverse := fun m => by
    induction m with
    | nil => exact h0
    | cons k m ih => rw [List.reverse_cons]; exact h1 _ _ ih
  have h := this l.reverse
  rwa [List.reverse_reverse] at h
def incM (L : List Int) (one : Nat) : List Int := L.set one (at0 L one + 1)
def countsM (n : Nat) (l : List Nat) : List Int := l.foldl incM (List.replicate (2 ^ n) 0)
theorem incM_length (L : List Int) (k : Nat) : (incM L k).length = L.length := List.length_set
theorem countsM_length (n : Nat) (l : List Nat) : (countsM n l).length = 2 ^ n := by
  unfold countsM
  rw [foldl_length incM_length, List.length_replicate]
theorem countsM_snoc (n : Nat) (l : List Nat) (k : Nat) : countsM n (l ++ [k]) = incM (countsM n l) k := by
  unfold countsM
  rw [List.foldl_append]
  rfl
theorem countsM_at {n : Nat} {l : List Nat} (hl : ∀ k ∈ l, k < 2 ^ n) (s : Nat) : at0 (countsM n l) s = (l.count s : Int) := by
  induction l using snocI with
  | h0 => exact at0_rep _ _
  | h1 l k ih =>
    have ih := ih fun j hj => hl j (List.mem_append_left _ hj)
    have hk := hl k (by simp)
    rw [countsM_snoc]
    unfold incM
    rw [at0_set (by rw [countsM_length]; exact hk), List.count_append]
    by_cases e : s = k
    · subst e
      rw [if_pos rfl, ih]
      simp
    · rw [if_neg e, ih]
      have : k ≠ s := fun z => e z.symm
      simp [this]
def sgnM (n s : Nat) : Int := 1 - 2 * (((n - (bitsN s).length) % 2 : Nat) : Int)
def bySetM (n : Nat) (l : List Nat) (k : Nat) : List Int := (List.range (2 ^ n)).map fun s => sgnM n s * at0 (spreadM n 1 true (countsM n l)) s ^ k
def restM (n : Nat) (l : List Nat) (k : Nat) : List Int := spreadM n 1 false (bySetM n l k)
theorem bySetM_length (n : Nat) (l : List Nat) (k : Nat) : (bySetM n l k).length = 2 ^ n := by unfold bySetM; rw [List.length_map, List.length_range]
theorem restM_length (n : Nat) (l : List Nat) (k : Nat) : (restM n l k).length = 2 ^ n := (spreadM_length _ _ _ _).trans (bySetM_length n l k)
/-- how many rows of so many places are a set together -/
def wayF (n : Nat) (l : List Nat) : Nat → Nat → Int
  | 0 => fun u => if u = 0 then 1 else 0
  | t + 1 => conv kOr n (wayF n l t) fun u => (l.count u : Int)
theorem way_pow (n : Nat) (l : List Nat) (t s : Nat) : tr (mS 1 true) n (wayF n l t) s = tr (mS 1 true) n (fun u => (l.count u : Int)) s ^ t := by
  induction t with
  | zero =>
    rw [Int.pow_zero]
    unfold tr wayF
    rw [sm_congr (g := fun o => (if o = 0 then 1 else 0) * ker (mS 1 true) n s o) fun o _ => Int.mul_comm _ _, sm_at (Nat.two_pow_pos n) (fun o => ker (mS 1 true) n s o)]
    show ker (mS 1 true) n s 0 = 1
    unfold ker
    rw [pr_congr (g := fun _ => 1) fun k _ => ?_, pr_one]
    rw [Nat.zero_testBit]
    cases s.testBit k <;> rfl
  | succ t ih =>
    show tr (mS 1 true) n (conv kOr n (wayF n l t) fun u => (l.count u : Int)) s = _
    rw [tr_times (by decide), ih, Int.pow_succ]
def sgnChk : Bool := (List.range 6).all fun n => (List.range (2 ^ n)).all fun s => decide (sgnM n s = ker (mS (-1) true) n (2 ^ n - 1) s)
theorem sgnChk_ok : sgnChk = true := by decide +kernel
theorem sgn_ker {n s : Nat} (hn : n ≤ 5) (hs : s < 2 ^ n) : sgnM n s = ker (mS (-1) true) n (2 ^ n - 1) s := by
  have h1 := List.all_eq_true.mp sgnChk_ok n (List.mem_range.mpr (by omega))
  exact of_decide_eq_true (List.all_eq_true.mp h1 s (List.mem_range.mpr hs))
theorem full_bit {n k : Nat} (hk : k < n) : (2 ^ n - 1).testBit k = true := by
  rw [Nat.testBit_two_pow_sub_one, decide_eq_true hk]
theorem full_iff {n x : Nat} (hx : x < 2 ^ n) : x = 2 ^ n - 1 ↔ ∀ k, k < n → x.testBit k = true := by
  constructor
  · rintro rfl k hk
    exact full_bit hk
  · intro h
    exact eq_bits hx (by have := Nat.two_pow_pos n; omega) fun k hk => by rw [h k hk, full_bit hk]
def mT : Mx := fun z x => mS (-1) true x z
theorem rest_at {n : Nat} (hn : n ≤ 5) {l : List Nat} (hl : ∀ k ∈ l, k < 2 ^ n) (k : Nat) {T : Nat} (hT : T < 2 ^ n) :
    at0 (restM n l k) T = sm (2 ^ n) fun U => (if T ||| U = 2 ^ n - 1 then 1 else 0) * wayF n l k U := by
  unfold restM
  rw [spread_tr 1 false _ (bySetM_length n l k) hT]
  unfold tr
  have e1 : ∀ S, S < 2 ^ n → ker (mS 1 false) n T S * at0 (bySetM n l k) S = sm (2 ^ n) fun U => ker (mS 1 false) n T S * ker mT n S (2 ^ n - 1) * ker (mS 1 true) n S U * wayF n l k U := fun S hS => by
    unfold bySetM
    rw [at0_map _ hS, spread_tr 1 true _ (countsM_length n l) hS, tr_congr (fun o _ => countsM_at hl o) S, ← way_pow, sgn_ker hn hS]
    unfold tr
    rw [← Int.mul_assoc, ← sm_mul]
    refine sm_congr fun U _ => ?_
    have : ker mT n S (2 ^ n - 1) = ker (mS (-1) true) n (2 ^ n - 1) S := rfl
    rw [this]
    simp only [Int.mul_assoc]
  rw [sm_congr e1, sm_swap]
  refine sm_congr fun U hU => ?_
  rw [sm_mulr, ker_t3]
  congr 1
  unfold ker3
  have e2 : pr n (fun j => t3 (mS 1 false) mT (mS 1 true) (T.testBit j) ((2 ^ n - 1).testBit j) (U.testBit j)) = pr n fun j => if (T ||| U).testBit j = true then 1 else 0 := pr_congr fun j hj => by
    rw [full_bit hj, Nat.testBit_or]
    cases T.testBit j <;> cases U.testBit j <;> rfl
  rw [e2, pr_ind]
  have hTU : T ||| U < 2 ^ n := Nat.or_lt_two_pow hT hU
  by_cases h : T ||| U = 2 ^ n - 1
  · rw [if_pos h, if_pos ((full_iff hTU).mp h)]
  · rw [if_neg h, if_neg fun z => h ((full_iff hTU).mpr z)]
/-- at no set at all: the rows that cover -/
theorem rest_0 {n : Nat} (hn : n ≤ 5) {l : List Nat} (hl : ∀ k ∈ l, k < 2 ^ n) (k : Nat) : at0 (restM n l k) 0 = wayF n l k (2 ^ n - 1) := by
  rw [rest_at hn hl k (Nat.two_pow_pos n)]
  rw [sm_congr (g := fun U => (if U = 2 ^ n - 1 then 1 else 0) * wayF n l k U) fun U _ => by rw [Nat.zero_or]]
  exact sm_at (by have := Nat.two_pow_pos n; omega) _
/-! ### all rows gone through -/
def rowsM (l : List Nat) : Nat → List Nat
  | 0 => [0]
  | t + 1 => (rowsM l t).flatMap fun h => l.map fun one => h ||| one
theorem rowsM_lt {n : Nat} {l : List Nat} (hl : ∀ k ∈ l, k < 2 ^ n) : ∀ t, ∀ h ∈ rowsM l t, h < 2 ^ n
  | 0, h, hh => by rw [List.mem_singleton.mp hh]; exact Nat.two_pow_pos n
  | t + 1, h, hh => by
    obtain ⟨x, hx, hm⟩ := List.mem_flatMap.mp hh
    obtain ⟨y, hy, rfl⟩ := List.mem_map.mp hm
    exact Nat.or_lt_two_pow (rowsM_lt hl t x hx) (hl y hy)
theorem lsum_count {N : Nat} (g : Nat → Int) : ∀ {L : List Nat}, (∀ h ∈ L, h < N) → (L.map g).sum = sm N fun x => (L.count x : Int) * g x
  | [], _ => by simp [sm_zero]
  | h :: L, hL => by
    rw [List.map_cons, List.sum_cons, lsum_count g fun x hx => hL x (List.mem_cons_of_mem _ hx), ← sm_at (hL h (List.mem_cons_self ..)) g, ← sm_add]
    refine sm_congr fun x _ => ?_
    rw [List.count_cons]
    by_cases e : x = h
    · subst e
      simp
      rw [Int.add_mul, Int.one_mul, Int.add_comm]
    · have : ¬ h = x := fun z => e z.symm
      simp [e, this]
/-- how many of the sets make U of x -/
def makeF (l : List Nat) (U x : Nat) : Int := ((l.map fun one => x ||| one).count U : Int)
theorem makeF_sum (l : List Nat) (U x : Nat) : makeF l U x = (l.map fun one => if U = x ||| one then (1 : Int) else 0).sum := by
  unfold makeF
  induction l with
  | nil => rfl
  | cons y l ih =>
    rw [List.map_cons, List.count_cons, List.map_cons, List.sum_cons, ← ih]
    by_cases e : U = x ||| y
    · rw [if_pos e, e]
      simp
      omega
    · rw [if_neg e]
      have : ¬ x ||| y = U := fun z => e z.symm
      simp [this]
theorem conv_make {n : Nat} {l : List Nat} (hl : ∀ k ∈ l, k < 2 ^ n) (f : Nat → Int) {U : Nat} (hU : U < 2 ^ n) : conv kOr n f (fun u => (l.count u : Int)) U = sm (2 ^ n) fun x => makeF l U x * f x := by
  unfold conv
  refine sm_congr fun x hx => ?_
  rw [makeF_sum, lsum_count _ hl, ← sm_mulr]
  refine sm_congr fun y hy => ?_
  rw [ker_or hU hx hy]
  by_cases e : U = x ||| y
  · rw [if_pos e, Int.one_mul, Int.mul_one, Int.mul_comm]
  · rw [if_neg e, Int.zero_mul, Int.mul_zero, Int.zero_mul]
theorem count_rows {n : Nat} {l : List Nat} (hl : ∀ k ∈ l, k < 2 ^ n) (t : Nat) {U : Nat} (hU : U < 2 ^ n) : ((rowsM l t).count U : Int) = wayF n l t U := by
  induction t generalizing U with
  | zero =>
    show (([0] : List Nat).count U : Int) = if U = 0 then 1 else 0
    by_cases e : U = 0
    · subst e; rfl
    · have : ¬ 0 = U := fun z => e z.symm
      simp [e, this]
  | succ t ih =>
    show (((rowsM l t).flatMap fun h => l.map fun one => h ||| one).count U : Int) = conv kOr n (wayF n l t) (fun u => (l.count u : Int)) U
    rw [conv_make hl _ hU]
    have e : ∀ R : List Nat, ((R.flatMap fun h => l.map fun one => h ||| one).count U : Int) = (R.map fun x => makeF l U x).sum := fun R => by
      induction R with
      | nil => rfl
      | cons x R ih2 =>
        rw [List.flatMap_cons, List.count_append, List.map_cons, List.sum_cons, ← ih2]
        exact Int.natCast_add _ _
    rw [e, lsum_count _ (rowsM_lt hl t)]
    exact sm_congr fun x hx => by rw [ih hx, Int.mul_comm]
theorem flat_len (l : List Nat) (R : List Nat) : (R.flatMap fun h => l.map fun one => h ||| one).length = R.length * l.length := by
  induction R with
  | nil => simp
  | cons x R ih => rw [List.flatMap_cons, List.length_append, ih, List.length_map, List.length_cons, Nat.succ_mul, Nat.add_comm]
theorem rowsM_len (l : List Nat) (t : Nat) : (rowsM l t).length = l.length ^ t := by
  induction t with
  | zero => rfl
  | succ t ih =>
    show ((rowsM l t).flatMap fun h => l.map fun one => h ||| one).length = _
    rw [flat_len, ih, Nat.pow_succ]
theorem count_ordI (R : List Nat) (u : Nat) : ((ordI R).filter fun z => decide (z = (u : Int))).length = R.count u := by
  unfold ordI
  induction R with
  | nil => rfl
  | cons x R ih =>
    rw [List.map_cons, List.filter_cons, List.count_cons]
    by_cases e : x = u
    · subst e
      simp [ih]
    · have h1 : ¬ (x : Int) = (u : Int) := by omega
      simp [h1, e, ih]
/-! ### a dict by sets -/
def getL (L : List (Nat × Int)) (u : Nat) : Int := ((L.find? fun p => decide (p.1 = u)).map (·.2)).getD 0
def putN (L : List (Nat × Int)) (u : Nat) (v : Int) : List (Nat × Int) := if L.any (fun p => decide (p.1 = u)) then L.map (fun p => if p.1 = u then (p.1, v) else p) else L ++ [(u, v)]
def encD (L : List (Nat × Int)) : List (Key × V) := L.map fun p => (Sum.inl (p.1 : Int), V.int p.2)
theorem key_eq (a b : Nat) : decide ((Sum.inl (a : Int) : Key) = Sum.inl (b : Int)) = decide (a = b) := by
  by_cases h : a = b
  · subst h
    rw [decide_eq_true rfl, decide_eq_true rfl]
  · rw [decide_eq_false h, decide_eq_false fun z => h (by have := Sum.inl.inj z; omega)]
theorem enc_val (L : List (Nat × Int)) (u : Nat) : valV (encD L) (Sum.inl (u : Int)) = (L.find? fun p => decide (p.1 = u)).map fun p => V.int p.2 := by
  unfold valV encD
  rw [List.find?_map, Option.map_map]
  have e : ((fun kv : Key × V => decide (kv.1 = Sum.inl (u : Int))) ∘ fun p : Nat × Int => ((Sum.inl (p.1 : Int) : Key), V.int p.2)) = fun p => decide (p.1 = u) := by
    funext p
    exact key_eq p.1 u
  rw [e]
  rfl
theorem enc_get (L : List (Nat × Int)) (u : Nat) : (valV (encD L) (Sum.inl (u : Int))).getD (.int 0) = .int (getL L u) := by
  rw [enc_val]
  unfold getL
  cases L.find? fun p => decide (p.1 = u) <;> rfl
theorem enc_put (L : List (Nat × Int)) (u : Nat) (v : Int) : putK (encD L) (Sum.inl (u : Int)) (.int v) = encD (putN L u v) := by
  unfold putK putN
  have e : (encD L).any (fun kv => decide (kv.1 = Sum.inl (u : Int))) = L.any fun p => decide (p.1 = u) := by
    unfold encD
    rw [List.any_map]
    congr 1
    funext p
    exact key_eq p.1 u
  rw [e]
  cases L.any fun p => decide (p.1 = u) with
  | false => simp [encD]
  | true =>
    simp only [if_true]
    unfold encD
    rw [List.map_map, List.map_map]
    refine List.map_congr_left fun p _ => ?_
    show (if (Sum.inl (p.1 : Int) : Key) = Sum.inl (u : Int) then _ else _) = _
    by_cases h : p.1 = u
    · rw [if_pos (by rw [h])]
      show _ = ((Sum.inl (((if p.1 = u then (p.1, v) else p).1 : Nat) : Int) : Key), V.int (if p.1 = u then (p.1, v) else p).2)
      rw [if_pos h]
    · rw [if_neg (fun z => h (by have := Sum.inl.inj z; omega))]
      show _ = ((Sum.inl (((if p.1 = u then (p.1, v) else p).1 : Nat) : Int) : Key), V.int (if p.1 = u then (p.1, v) else p).2)
      rw [if_neg h]
/-- keys unlike, below N -/
def KeysOk (N : Nat) (L : List (Nat × Int)) : Prop := (L.map (·.1)).Nodup ∧ ∀ p ∈ L, p.1 < N
theorem put_keys {N : Nat} {L : List (Nat × Int)} (h : KeysOk N L) {u : Nat} (hu : u < N) (v : Int) : KeysOk N (putN L u v) := by
  unfold putN
  split
  · have e : ((L.map fun p => if p.1 = u then (p.1, v) else p).map (·.1)) = L.map (·.1) := by
      rw [List.map_map]
      refine List.map_congr_left fun p _ => ?_
      show (if p.1 = u then (p.1, v) else p).1 = p.1
      split <;> rfl
    refine ⟨by rw [e]; exact h.1, fun p hp => ?_⟩
    have hm : p.1 ∈ L.map (·.1) := by rw [← e]; exact List.mem_map.mpr ⟨p, hp, rfl⟩
    obtain ⟨q, hq, hqe⟩ := List.mem_map.mp hm
    rw [← hqe]
    exact h.2 q hq
  · rename_i hno
    refine ⟨?_, fun p hp => ?_⟩
    · rw [List.map_append, List.nodup_append]
      refine ⟨h.1, by simp, fun a ha b hb => ?_⟩
      obtain ⟨p, hp, rfl⟩ := List.mem_map.mp ha
      have hb2 : b = u := by simpa using hb
      rw [hb2]
      intro z
      refine hno ?_
      rw [List.any_eq_true]
      exact ⟨p, hp, by rw [decide_eq_true z]⟩
    · rcases List.mem_append.mp hp with hp | hp
      · exact h.2 p hp
      · rw [List.mem_singleton.mp hp]
        exact hu
theorem get_put (L : List (Nat × Int)) (u : Nat) (v : Int) (x : Nat) : getL (putN L u v) x = if x = u then v else getL L x := by
  have key : ∀ L : List (Nat × Int), ((L.map fun p => if p.1 = u then (p.1, v) else p).find? fun p => decide (p.1 = x)) = (L.find? fun p => decide (p.1 = x)).map fun p => if p.1 = u then (p.1, v) else p := fun L => by
    induction L with
    | nil => rfl
    | cons p L ih =>
      rw [List.map_cons, List.find?_cons, List.find?_cons]
      have : (if p.1 = u then (p.1, v) else p).1 = p.1 := by split <;> rfl
      rw [this]
      cases decide (p.1 = x) with
      | true => rfl
      | false => exact ih
  unfold putN getL
  cases hany : L.any fun p => decide (p.1 = u) with
  | true =>
    rw [if_pos rfl, key]
    cases hf : L.find? fun p => decide (p.1 = x) with
    | none =>
      by_cases e : x = u
      · subst e
        rw [List.find?_eq_none] at hf
        rw [List.any_eq_true] at hany
        obtain ⟨p, hp, hpe⟩ := hany
        exact absurd hpe (hf p hp)
      · rw [if_neg e] <;> rfl
    | some p =>
      have hpx : p.1 = x := by simpa using List.find?_some hf
      show ((some (if p.1 = u then (p.1, v) else p)).map (·.2)).getD 0 = _
      by_cases e : x = u
      · rw [if_pos e, if_pos (hpx.trans e)] <;> rfl
      · rw [if_neg e, if_neg (fun z => e (hpx.symm.trans z))] <;> rfl
  | false =>
    simp only [Bool.false_eq_true, if_false]
    rw [List.find?_append]
    by_cases e : x = u
    · subst e
      have hn : (L.find? fun p => decide (p.1 = x)) = none := by
        rw [List.find?_eq_none]
        intro p hp hpe
        rw [List.any_eq_false] at hany
        exact hany p hp hpe
      rw [hn]
      simp
    · have : ¬ u = x := fun z => e z.symm
      rw [if_neg e]
      cases L.find? fun p => decide (p.1 = x) with
      | some p => rfl
      | none => simp [this]
theorem nodup_len : ∀ (N : Nat) (l : List Nat), l.Nodup → (∀ a ∈ l, a < N) → l.length ≤ N
  | 0, [], _, _ => Nat.le_refl 0
  | 0, a :: l, _, h => absurd (h a (List.mem_cons_self ..)) (Nat.not_lt_zero a)
  | N + 1, l, nd, h => by
    have h1 := nodup_len N (l.erase N) (nd.erase N) fun a ha => by
      obtain ⟨h2, h3⟩ := nd.mem_erase_iff.mp ha
      have := h a h3
      omega
    rw [List.length_erase] at h1
    split at h1 <;> omega
theorem keys_len {N : Nat} {L : List (Nat × Int)} (h : KeysOk N L) : L.length ≤ N := by
  have h1 := nodup_len N (L.map (·.1)) h.1 fun a ha => by
    obtain ⟨p, hp, rfl⟩ := List.mem_map.mp ha
    exact h.2 p hp
  rwa [List.length_map] at h1
theorem assoc_sum {N : Nat} (g : Nat → Int) : ∀ {L : List (Nat × Int)}, KeysOk N L → (L.map fun p => g p.1 * p.2).sum = sm N fun x => g x * getL L x
  | [], _ => by
    rw [sm_congr (g := fun _ => 0) fun x _ => by show g x * 0 = 0; exact Int.mul_zero _, sm_zero] <;> rfl
  | p :: L, h => by
    have nd := h.1
    rw [List.map_cons, List.nodup_cons] at nd
    rw [List.map_cons, List.sum_cons, assoc_sum g (L := L) ⟨nd.2, fun q hq => h.2 q (List.mem_cons_of_mem _ hq)⟩, ← sm_at (h.2 p (List.mem_cons_self ..)) (fun x => g x * p.2), ← sm_add]
    refine sm_congr fun x _ => ?_
    unfold getL
    rw [List.find?_cons]
    by_cases e : x = p.1
    · subst e
      have hn : (L.find? fun q => decide (q.1 = p.1)) = none := by
        rw [List.find?_eq_none]
        intro q hq hqe
        exact nd.1 (List.mem_map.mpr ⟨q, hq, of_decide_eq_true hqe⟩)
      rw [hn, if_pos rfl, decide_eq_true rfl]
      simp
    · have : ¬ p.1 = x := fun z => e z.symm
      rw [if_neg e, decide_eq_false this, Int.zero_mul, Int.zero_add]
theorem makeF_snoc (l : List Nat) (y U x : Nat) : makeF (l ++ [y]) U x = makeF l U x + (if U = x ||| y then 1 else 0) := by
  unfold makeF
  rw [List.map_append, List.count_append, List.map_cons, List.map_nil, List.count_cons, List.count_nil]
  by_cases e : U = x ||| y
  · rw [if_pos e, e]
    simp
  · have : ¬ x ||| y = U := fun z => e z.symm
    rw [if_neg e]
    simp [this]
def partD (l : List Nat) (L : List (Nat × Int)) (U : Nat) : Int := (L.map fun p => makeF l U p.1 * p.2).sum
theorem partD_snoc (l : List Nat) (L : List (Nat × Int)) (p : Nat × Int) (U : Nat) : partD l (L ++ [p]) U = partD l L U + makeF l U p.1 * p.2 := by
  unfold partD
  rw [List.map_append, List.sum_append]
  simp
theorem partD_way {n : Nat} {l : List Nat} (hl : ∀ k ∈ l, k < 2 ^ n) {L : List (Nat × Int)} (hL : KeysOk (2 ^ n) L) {t : Nat} (h : ∀ U, U < 2 ^ n → getL L U = wayF n l t U) {U : Nat} (hU : U < 2 ^ n) : partD l L U = wayF n l (t + 1) U := by
  unfold partD
  rw [assoc_sum (makeF l U) hL]
  show _ = conv kOr n (wayF n l t) (fun u => (l.count u : Int)) U
  rw [conv_make hl _ hU]
  exact sm_congr fun x hx => by rw [h x hx]
theorem get_enc {L : List (Nat × Int)} {i : Nat} {k : Key} {v : V} (h : (encD L)[i]? = some (k, v)) : ∃ x c, L[i]? = some (x, c) ∧ k = Sum.inl (x : Int) ∧ v = .int c := by
  unfold encD at h
  rw [List.getElem?_map] at h
  cases e : L[i]? with
  | none => rw [e] at h; cases h
  | some p =>
    rw [e] at h
    have h2 := Option.some.inj h
    exact ⟨p.1, p.2, rfl, (congrArg (·.1) h2).symm, (congrArg (·.2) h2).symm⟩
theorem len_enc (L : List (Nat × Int)) : (encD L).length = L.length := by unfold encD; rw [List.length_map]
theorem find_at {N : Nat} {L : List (Nat × Int)} (h : KeysOk N L) {i x : Nat} {c : Int} (hi : L[i]? = some (x, c)) : valV (encD L) (Sum.inl (x : Int)) = some (.int c) := by
  rw [enc_val]
  have : (L.find? fun p => decide (p.1 = x)) = some (x, c) := by
    have nd := h.1
    clear h
    induction L generalizing i with
    | nil => simp at hi
    | cons p L ih =>
      rw [List.map_cons, List.nodup_cons] at nd
      rw [List.find?_cons]
      cases i with
      | zero =>
        have hp : p = (x, c) := by simpa using hi
        subst hp
        rw [decide_eq_true rfl]
      | succ i =>
        have hi : L[i]? = some (x, c) := by simpa using hi
        have hne : ¬ p.1 = x := fun z => nd.1 (List.mem_map.mpr ⟨(x, c), List.mem_of_getElem? hi, z.symm⟩)
        rw [decide_eq_false hne]
        exact ih hi nd.2
  rw [this] <;> rfl
end SS

/-! the plain law of the least cover: the first choice of the fewest places -/
namespace SS
open L2 PySem
theorem sm_nn {N : Nat} {f : Nat → Int} (h : ∀ i, i < N → 0 ≤ f i) : 0 ≤ sm N f := by
  induction N with
  | zero => exact Int.le_refl 0
  | succ N ih =>
    have h1 := ih fun i hi => h i (by omega)
    have h2 := h N (by omega)
    show 0 ≤ sm N f + f N
    omega
theorem sm_pos {N : Nat} {f : Nat → Int} (h : ∀ i, i < N → 0 ≤ f i) : 0 < sm N f ↔ ∃ i, i < N ∧ 0 < f i := by
  induction N with
  | zero =>
    constructor
    · intro z
      exact absurd z (Int.lt_irrefl 0)
    · rintro ⟨i, hi, _⟩
      exact absurd hi (Nat.not_lt_zero i)
  | succ N ih =>
    have ih := ih fun i hi => h i (by omega)
    have h1 := sm_nn fun i (hi : i < N) => h i (by omega)
    have h2 := h N (by omega)
    have e : sm (N + 1) f = sm N f + f N := rfl
    rw [e]
    constructor
    · intro z
      by_cases hp : 0 < f N
      · exact ⟨N, by omega, hp⟩
      · obtain ⟨i, hi, hf⟩ := ih.mp (by omega)
        exact ⟨i, by omega, hf⟩
    · rintro ⟨i, hi, hf⟩
      by_cases hN : i = N
      · subst hN
        omega
      · have := ih.mpr ⟨i, by omega, hf⟩
        omega
/-- what the sets at these places are together with h -/
def togM (l : List Nat) (h : Nat) (r : List Nat) : Nat := r.foldl (fun h p => h ||| l.getD p 0) h
theorem tog_or (l : List Nat) (r : List Nat) : ∀ h, togM l h r = h ||| togM l 0 r := by
  induction r with
  | nil => intro h; exact (Nat.or_zero h).symm
  | cons p r ih =>
    intro h
    show togM l (h ||| l.getD p 0) r = h ||| togM l (0 ||| l.getD p 0) r
    rw [ih, ih (0 ||| l.getD p 0), Nat.zero_or, Nat.or_assoc]
theorem tog_app (l : List Nat) (h : Nat) (r s : List Nat) : togM l h (r ++ s) = togM l (togM l h r) s := List.foldl_append
theorem getD_lt {n : Nat} {l : List Nat} (hl : ∀ k ∈ l, k < 2 ^ n) (p : Nat) : l.getD p 0 < 2 ^ n := by
  rw [List.getD_eq_getElem?_getD]
  cases e : l[p]? with
  | none => exact Nat.two_pow_pos n
  | some k => exact hl k (List.mem_of_getElem? e)
theorem tog_lt {n : Nat} {l : List Nat} (hl : ∀ k ∈ l, k < 2 ^ n) (r : List Nat) : ∀ h, h < 2 ^ n → togM l h r < 2 ^ n := by
  induction r with
  | nil => intro h hh; exact hh
  | cons p r ih =>
    intro h hh
    exact ih _ (Nat.or_lt_two_pow hh (getD_lt hl p))
theorem way_nn {n : Nat} {l : List Nat} (hl : ∀ k ∈ l, k < 2 ^ n) (t : Nat) {U : Nat} (hU : U < 2 ^ n) : 0 ≤ wayF n l t U := by
  rw [← count_rows hl t hU]
  exact Int.natCast_nonneg _
theorem rest_nn {n : Nat} (hn : n ≤ 5) {l : List Nat} (hl : ∀ k ∈ l, k < 2 ^ n) (k : Nat) {T : Nat} (hT : T < 2 ^ n) : 0 ≤ at0 (restM n l k) T := by
  rw [rest_at hn hl k hT]
  refine sm_nn fun U hU => ?_
  have := way_nn hl k hU
  split
  · omega
  · omega
/-- rows of places -/
theorem rows_tog (l : List Nat) (t : Nat) : ∀ U, U ∈ rowsM l t ↔ ∃ r : List Nat, r.length = t ∧ (∀ p ∈ r, p < l.length) ∧ togM l 0 r = U := by
  induction t with
  | zero =>
    intro U
    constructor
    · intro h
      rw [List.mem_singleton.mp h]
      exact ⟨[], rfl, by simp, rfl⟩
    · rintro ⟨r, hr, _, h⟩
      rw [List.length_eq_zero_iff.mp hr] at h
      rw [← h]
      exact List.mem_singleton.mpr rfl
  | succ t ih =>
    intro U
    constructor
    · intro h
      obtain ⟨x, hx, hm⟩ := List.mem_flatMap.mp h
      obtain ⟨y, hy, rfl⟩ := List.mem_map.mp hm
      obtain ⟨r, hr, hp, rfl⟩ := (ih x).mp hx
      obtain ⟨i, hi, e⟩ := List.getElem_of_mem hy
      refine ⟨r ++ [i], by rw [List.length_append, hr] <;> rfl, fun p h => ?_, ?_⟩
      · rcases List.mem_append.mp h with h | h
        · exact hp p h
        · rw [List.mem_singleton.mp h]
          exact hi
      · rw [tog_app]
        show togM l 0 r ||| l.getD i 0 = _
        rw [List.getD_eq_getElem?_getD, List.getElem?_eq_getElem hi, e] <;> rfl
    · rintro ⟨r, hr, hp, rfl⟩
      have hne : r ≠ [] := by
        intro z
        rw [z] at hr
        simp at hr
      obtain ⟨r', i, rfl⟩ : ∃ r' i, r = r' ++ [i] := ⟨r.dropLast, r.getLast hne, (List.dropLast_concat_getLast hne).symm⟩
      have hi := hp i (by simp)
      refine List.mem_flatMap.mpr ⟨togM l 0 r', (ih _).mpr ⟨r', by simpa using hr, fun p h => hp p (List.mem_append_left _ h), rfl⟩, ?_⟩
      refine List.mem_map.mpr ⟨l[i], List.getElem_mem hi, ?_⟩
      rw [tog_app]
      show _ = togM l 0 r' ||| l.getD i 0
      rw [List.getD_eq_getElem?_getD, List.getElem?_eq_getElem hi] <;> rfl
/-- some k places cover with h -/
def CovR (n : Nat) (l : List Nat) (k h : Nat) : Prop := ∃ r : List Nat, r.length = k ∧ (∀ p ∈ r, p < l.length) ∧ togM l h r = 2 ^ n - 1
theorem rest_pos {n : Nat} (hn : n ≤ 5) {l : List Nat} (hl : ∀ k ∈ l, k < 2 ^ n) (k : Nat) {T : Nat} (hT : T < 2 ^ n) : 0 < at0 (restM n l k) T ↔ CovR n l k T := by
  rw [rest_at hn hl k hT, sm_pos fun U hU => by
    have := way_nn hl k hU
    split
    · omega
    · omega]
  constructor
  · rintro ⟨U, hU, h⟩
    by_cases e : T ||| U = 2 ^ n - 1
    · rw [if_pos e, Int.one_mul, ← count_rows hl k hU] at h
      have h2 : U ∈ rowsM l k := List.count_pos_iff.mp (by omega)
      obtain ⟨r, hr, hp, rfl⟩ := (rows_tog l k U).mp h2
      exact ⟨r, hr, hp, by rw [tog_or]; exact e⟩
    · rw [if_neg e] at h
      omega
  · rintro ⟨r, hr, hp, h⟩
    rw [tog_or] at h
    have hU := tog_lt hl r 0 (Nat.two_pow_pos n)
    refine ⟨togM l 0 r, hU, ?_⟩
    rw [if_pos h, Int.one_mul, ← count_rows hl k hU]
    have := List.count_pos_iff.mpr ((rows_tog l k _).mpr ⟨r, hr, hp, rfl⟩)
    omega
/-- how few places cover -/
def fewM (n : Nat) (l : List Nat) : Option Nat := (List.range (n + 1)).find? fun k => decide (0 < at0 (restM n l k) 0)
/-- the first place with which so many more cover -/
def pickM (n : Nat) (l : List Nat) (k h : Nat) : List Nat := (List.range l.length).filter fun p => decide (0 < at0 (restM n l k) (h ||| l.getD p 0))
def greedM (n : Nat) (l : List Nat) : Nat → Nat → List Nat
  | 0, _ => []
  | k + 1, h => (pickM n l k h).headD 0 :: greedM n l k (h ||| l.getD ((pickM n l k h).headD 0) 0)
/-- ahead of it, place by place -/
def Lx : List Nat → List Nat → Prop
  | a :: r, b :: s => a < b ∨ (a = b ∧ Lx r s)
  | _, _ => False
theorem lx_irrefl : ∀ r, ¬ Lx r r
  | [], h => h
  | a :: r, h => h.elim (Nat.lt_irrefl a) fun h => lx_irrefl r h.2
theorem lx_app : ∀ {r s : List Nat} (x y : List Nat), Lx r s → Lx (r ++ x) (s ++ y)
  | [], _, _, _, h => h.elim
  | _ :: _, [], _, _, h => h.elim
  | a :: r, b :: s, x, y, h => h.imp id fun ⟨h1, h2⟩ => ⟨h1, lx_app x y h2⟩
theorem lx_same : ∀ (r : List Nat) {x y : List Nat}, Lx x y → Lx (r ++ x) (r ++ y)
  | [], _, _, h => h
  | _ :: r, _, _, h => .inr ⟨rfl, lx_same r h⟩
theorem pick_head {n : Nat} (hn : n ≤ 5) {l : List Nat} (hl : ∀ k ∈ l, k < 2 ^ n) {k h : Nat} (hh : h < 2 ^ n) (hc : CovR n l (k + 1) h) :
    ∃ p rest, pickM n l k h = p :: rest ∧ p < l.length ∧ CovR n l k (h ||| l.getD p 0) ∧ ∀ q, q < p → ¬ CovR n l k (h ||| l.getD q 0) := by
  obtain ⟨r, hr, hp, e⟩ := hc
  match r, hr with
  | a :: r, hr =>
    have hb : ∀ q, h ||| l.getD q 0 < 2 ^ n := fun q => Nat.or_lt_two_pow hh (getD_lt hl q)
    have hm : a ∈ pickM n l k h := List.mem_filter.mpr ⟨List.mem_range.mpr (hp a (by simp)), decide_eq_true ((rest_pos hn hl k (hb a)).mpr ⟨r, by simpa using hr, fun p h => hp p (List.mem_cons_of_mem _ h), e⟩)⟩
    have hs : (pickM n l k h).Pairwise (· < ·) := List.Pairwise.filter _ List.pairwise_lt_range
    cases e2 : pickM n l k h with
    | nil => rw [e2] at hm; cases hm
    | cons p rest =>
      have hpm : p ∈ pickM n l k h := by rw [e2]; exact List.mem_cons_self ..
      obtain ⟨h1, h2⟩ := List.mem_filter.mp hpm
      refine ⟨p, rest, rfl, List.mem_range.mp h1, (rest_pos hn hl k (hb p)).mp (of_decide_eq_true h2), fun q hq hc => ?_⟩
      have hqm : q ∈ pickM n l k h := List.mem_filter.mpr ⟨List.mem_range.mpr (by have := List.mem_range.mp h1; omega), decide_eq_true ((rest_pos hn hl k (hb q)).mpr hc)⟩
      rw [e2] at hqm hs
      rcases List.mem_cons.mp hqm with z | z
      · omega
      · have := (List.pairwise_cons.mp hs).1 q z
        omega
/-- what is chosen covers, and none ahead of it -/
theorem greed_ok {n : Nat} (hn : n ≤ 5) {l : List Nat} (hl : ∀ k ∈ l, k < 2 ^ n) : ∀ (k : Nat) {h : Nat}, h < 2 ^ n → CovR n l k h →
    (greedM n l k h).length = k ∧ (∀ p ∈ greedM n l k h, p < l.length) ∧ togM l h (greedM n l k h) = 2 ^ n - 1 ∧ ∀ r : List Nat, r.length = k → (∀ p ∈ r, p < l.length) → togM l h r = 2 ^ n - 1 → ¬ Lx r (greedM n l k h)
  | 0, h, hh, ⟨r, hr, hp, e⟩ => by
    rw [List.length_eq_zero_iff.mp hr] at e
    exact ⟨rfl, by simp [greedM], e, fun r hr _ _ => by rw [List.length_eq_zero_iff.mp hr]; exact fun z => z⟩
  | k + 1, h, hh, hc => by
    obtain ⟨p, rest, e, hp, hc2, hq⟩ := pick_head hn hl hh hc
    have eg : greedM n l (k + 1) h = p :: greedM n l k (h ||| l.getD p 0) := by
      show (pickM n l k h).headD 0 :: greedM n l k (h ||| l.getD ((pickM n l k h).headD 0) 0) = _
      rw [e] <;> rfl
    obtain ⟨h1, h2, h3, h4⟩ := greed_ok hn hl k (Nat.or_lt_two_pow hh (getD_lt hl p)) hc2
    rw [eg]
    refine ⟨by rw [List.length_cons, h1], fun q hq => ?_, h3, fun r hr hrp ht => ?_⟩
    · rcases List.mem_cons.mp hq with z | z
      · rw [z]; exact hp
      · exact h2 q z
    · match r, hr with
      | a :: r, hr =>
        have hr : r.length = k := by simpa using hr
        have hr2 : ∀ p ∈ r, p < l.length := fun p h => hrp p (List.mem_cons_of_mem _ h)
        rintro (z | ⟨rfl, z⟩)
        · exact hq a z ⟨r, hr, hr2, ht⟩
        · exact h4 r hr hr2 ht z
/-- each place ahead of the next -/
def Adj : List Nat → Prop
  | a :: b :: r => a < b ∧ Adj (b :: r)
  | _ => True
theorem adj_not : ∀ (g : List Nat), ¬ Adj g → ∃ pre a b post, g = pre ++ a :: b :: post ∧ b ≤ a
  | [], h => absurd trivial h
  | [_], h => absurd trivial h
  | a :: b :: r, h => by
    by_cases hab : a < b
    · obtain ⟨pre, x, y, post, e, hxy⟩ := adj_not (b :: r) fun z => h ⟨hab, z⟩
      exact ⟨a :: pre, x, y, post, by rw [e] <;> rfl, hxy⟩
    · exact ⟨[], a, b, r, rfl, by omega⟩
theorem adj_pair : ∀ {g : List Nat}, Adj g → g.Pairwise (· < ·)
  | [], _ => .nil
  | [a], _ => by simp
  | a :: b :: r, h => by
    have ih := adj_pair h.2
    refine List.pairwise_cons.mpr ⟨fun x hx => ?_, ih⟩
    rcases List.mem_cons.mp hx with z | z
    · rw [z]; exact h.1
    · exact Nat.lt_trans h.1 ((List.pairwise_cons.mp ih).1 x z)
theorem or_swap (l : List Nat) (h a b : Nat) (post : List Nat) : togM l h (b :: a :: post) = togM l h (a :: b :: post) := by
  show togM l ((h ||| l.getD b 0) ||| l.getD a 0) post = togM l ((h ||| l.getD a 0) ||| l.getD b 0) post
  rw [Nat.or_assoc, Nat.or_assoc, Nat.or_comm (l.getD b 0)]
theorem greed_rise {n : Nat} (hn : n ≤ 5) {l : List Nat} (hl : ∀ k ∈ l, k < 2 ^ n) {k : Nat} (hc : CovR n l k 0) (hf : ∀ j, j < k → ¬ CovR n l j 0) : Adj (greedM n l k 0) := by
  obtain ⟨h1, h2, h3, h4⟩ := greed_ok hn hl k (Nat.two_pow_pos n) hc
  refine Classical.byContradiction fun hno => ?_
  obtain ⟨pre, a, b, post, e, hab⟩ := adj_not _ hno
  rw [e] at h1 h2 h3
  by_cases hab2 : a = b
  · subst hab2
    refine hf (k - 1) (by simp at h1; omega) ⟨pre ++ a :: post, by simp at h1 ⊢; omega, fun p hp => h2 p (by simp at hp ⊢; rcases hp with z | z | z <;> simp [z]), ?_⟩
    rw [← h3, tog_app, tog_app]
    show togM l (togM l 0 pre ||| l.getD a 0) post = togM l ((togM l 0 pre ||| l.getD a 0) ||| l.getD a 0) post
    rw [Nat.or_assoc, Nat.or_self]
  · refine h4 (pre ++ b :: a :: post) (by simp at h1 ⊢; omega) (fun p hp => h2 p (by simp at hp ⊢; rcases hp with z | z | z | z <;> simp [z])) ?_ ?_
    · rw [tog_app, or_swap, ← tog_app]
      exact h3
    · rw [e]
      exact lx_same pre (.inl (by omega))
/-- all rising lists of so many places, in order -/
def laterM (m : Nat) (row : List Nat) : List (List Nat) := (List.range (m - (if row = [] then 0 else row.getLastD 0 + 1))).map fun i => row ++ [(if row = [] then 0 else row.getLastD 0 + 1) + i]
def choicesM (m : Nat) : Nat → List (List Nat)
  | 0 => [[]]
  | t + 1 => (choicesM m t).flatMap (laterM m)
theorem choices_mem {m : Nat} : ∀ (t : Nat) {r : List Nat}, r ∈ choicesM m t → r.length = t ∧ ∀ p ∈ r, p < m
  | 0, r, h => by
    rw [List.mem_singleton.mp h]
    exact ⟨rfl, by simp⟩
  | t + 1, r, h => by
    obtain ⟨x, hx, hm⟩ := List.mem_flatMap.mp h
    obtain ⟨i, hi, rfl⟩ := List.mem_map.mp hm
    obtain ⟨h1, h2⟩ := choices_mem t hx
    have hi := List.mem_range.mp hi
    refine ⟨by rw [List.length_append, h1] <;> rfl, fun p hp => ?_⟩
    rcases List.mem_append.mp hp with z | z
    · exact h2 p z
    · rw [List.mem_singleton.mp z]
      omega
theorem choices_has {m : Nat} {g : List Nat} : Adj g → (∀ p ∈ g, p < m) → g ∈ choicesM m g.length := by
  have pw : ∀ {r : List Nat} {x : Nat}, Adj (r ++ [x]) → (r ++ [x]).Pairwise (· < ·) := fun h => adj_pair h
  have key : ∀ g : List Nat, g.Pairwise (· < ·) → (∀ p ∈ g, p < m) → g ∈ choicesM m g.length := fun g => by
    induction g using snocI with
    | h0 => exact fun _ _ => List.mem_singleton.mpr rfl
    | h1 r x ih =>
      intro hp hm
      obtain ⟨hp1, _, hp2⟩ := List.pairwise_append.mp hp
      have ih := ih hp1 fun p h => hm p (List.mem_append_left _ h)
      rw [List.length_append]
      refine List.mem_flatMap.mpr ⟨r, ih, ?_⟩
      have hx := hm x (by simp)
      have hlo : (if r = [] then 0 else r.getLastD 0 + 1) ≤ x := by
        split
        · exact Nat.zero_le x
        · rename_i hne
          have : r.getLastD 0 ∈ r := by
            cases r with
            | nil => exact absurd rfl hne
            | cons a r => exact List.getLast_mem (List.cons_ne_nil a r)
          exact hp2 _ this x (by simp)
      refine List.mem_map.mpr ⟨x - (if r = [] then 0 else r.getLastD 0 + 1), List.mem_range.mpr (by omega), ?_⟩
      congr 2
      omega
  exact fun h hm => key g (adj_pair h) hm
theorem choices_ord (m : Nat) : ∀ t, (choicesM m t).Pairwise Lx
  | 0 => by simp [choicesM]
  | t + 1 => by
    show ((choicesM m t).flatMap (laterM m)).Pairwise Lx
    rw [List.pairwise_flatMap]
    refine ⟨fun r _ => ?_, (choices_ord m t).imp fun {r s} h x hx y hy => ?_⟩
    · unfold laterM
      rw [List.pairwise_map]
      exact List.pairwise_lt_range.imp fun {a b} h => lx_same r (x := [_]) (y := [_]) (Or.inl (by omega))
    · obtain ⟨i, _, rfl⟩ := List.mem_map.mp hx
      obtain ⟨j, _, rfl⟩ := List.mem_map.mp hy
      exact lx_app _ _ h
theorem later_len (m : Nat) (r : List Nat) : (laterM m r).length ≤ m := by
  unfold laterM
  rw [List.length_map, List.length_range]
  omega
theorem flat_later (m : Nat) (L : List (List Nat)) : (L.flatMap (laterM m)).length ≤ L.length * m := by
  induction L with
  | nil => simp
  | cons r L ih =>
    rw [List.flatMap_cons, List.length_append, List.length_cons, Nat.succ_mul]
    have := later_len m r
    omega
theorem choices_len (m : Nat) : ∀ t, (choicesM m t).length ≤ m ^ t
  | 0 => Nat.le_refl 1
  | t + 1 => by
    rw [Nat.pow_succ]
    exact Nat.le_trans (flat_later m _) (Nat.mul_le_mul_right m (choices_len m t))
def coversB (n : Nat) (l r : List Nat) : Bool := decide (togM l 0 r = 2 ^ n - 1)
theorem find_first {R : List Nat → List Nat → Prop} {f : List Nat → Bool} {g : List Nat} (hr : ¬ R g g) : ∀ {L : List (List Nat)}, L.Pairwise R → g ∈ L → f g = true → (∀ r ∈ L, f r = true → ¬ R r g) → L.find? f = some g
  | r :: L, hp, hm, hg, h => by
    rw [List.find?_cons]
    cases e : f r with
    | true =>
      rcases List.mem_cons.mp hm with z | z
      · rw [z]
      · exact absurd ((List.pairwise_cons.mp hp).1 g z) (h r (List.mem_cons_self ..) e)
    | false =>
      rcases List.mem_cons.mp hm with z | z
      · rw [z, e] at hg
        cases hg
      · exact find_first hr (List.pairwise_cons.mp hp).2 z hg fun r hr => h r (List.mem_cons_of_mem _ hr)
theorem few_some {n : Nat} (hn : n ≤ 5) {l : List Nat} (hl : ∀ k ∈ l, k < 2 ^ n) {k : Nat} (h : fewM n l = some k) : k ≤ n ∧ CovR n l k 0 ∧ ∀ j, j < k → ¬ CovR n l j 0 := by
  unfold fewM at h
  have h1 := List.find?_some h
  have h2 := List.mem_range.mp (List.mem_of_find?_eq_some h)
  refine ⟨by omega, (rest_pos hn hl k (Nat.two_pow_pos n)).mp (of_decide_eq_true h1), fun j hj hc => ?_⟩
  rw [List.find?_range_eq_some] at h
  have := h.2.2 j hj
  rw [decide_eq_true ((rest_pos hn hl j (Nat.two_pow_pos n)).mpr hc)] at this
  cases this
theorem few_none {n : Nat} (hn : n ≤ 5) {l : List Nat} (hl : ∀ k ∈ l, k < 2 ^ n) (h : fewM n l = none) : ∀ k, k ≤ n → ¬ CovR n l k 0 := fun k hk hc => by
  unfold fewM at h
  rw [List.find?_eq_none] at h
  exact h k (List.mem_range.mpr (by omega)) (decide_eq_true ((rest_pos hn hl k (Nat.two_pow_pos n)).mpr hc))
/-- the first of the least choices that cover -/
theorem first_some {n : Nat} (hn : n ≤ 5) {l : List Nat} (hl : ∀ k ∈ l, k < 2 ^ n) {k : Nat} (h : fewM n l = some k) : (choicesM l.length k).find? (coversB n l) = some (greedM n l k 0) ∧ ∀ j, j < k → (choicesM l.length j).find? (coversB n l) = none := by
  obtain ⟨_, hc, hf⟩ := few_some hn hl h
  obtain ⟨h1, h2, h3, h4⟩ := greed_ok hn hl k (Nat.two_pow_pos n) hc
  refine ⟨find_first (lx_irrefl _) (choices_ord l.length k) ?_ (decide_eq_true h3) fun r hr hc => ?_, fun j hj => ?_⟩
  · have := choices_has (greed_rise hn hl hc hf) h2
    rwa [h1] at this
  · obtain ⟨q1, q2⟩ := choices_mem k hr
    exact h4 r q1 q2 (of_decide_eq_true hc)
  · rw [List.find?_eq_none]
    intro r hr hc
    obtain ⟨q1, q2⟩ := choices_mem j hr
    exact hf j hj ⟨r, q1, q2, of_decide_eq_true hc⟩
theorem first_none {n : Nat} (hn : n ≤ 5) {l : List Nat} (hl : ∀ k ∈ l, k < 2 ^ n) (h : fewM n l = none) : ∀ j, j ≤ n → (choicesM l.length j).find? (coversB n l) = none := fun j hj => by
  rw [List.find?_eq_none]
  intro r hr hc
  obtain ⟨q1, q2⟩ := choices_mem j hr
  exact few_none hn hl h j hj ⟨r, q1, q2, of_decide_eq_true hc⟩
/-- all sets together -/
theorem tog_mem {l : List Nat} {p : Nat} : ∀ {r : List Nat}, p ∈ r → ∀ (h : Nat) {j : Nat}, (l.getD p 0).testBit j = true → (togM l h r).testBit j = true := fun {r} hp h {j} hj => by
  induction r generalizing h with
  | nil => cases hp
  | cons q r ih =>
    rcases List.mem_cons.mp hp with z | z
    · subst z
      show (togM l (h ||| l.getD p 0) r).testBit j = true
      rw [tog_or, Nat.testBit_or, Nat.testBit_or, hj]
      simp
    · exact ih z _
theorem tog_from {l : List Nat} {j : Nat} : ∀ {r : List Nat} (h : Nat), (togM l h r).testBit j = true → h.testBit j = true ∨ ∃ p ∈ r, (l.getD p 0).testBit j = true := fun {r} h hj => by
  induction r generalizing h with
  | nil => exact .inl hj
  | cons q r ih =>
    rcases ih _ hj with z | ⟨p, hp, hb⟩
    · rw [Nat.testBit_or, Bool.or_eq_true] at z
      exact z.imp id fun z => ⟨q, by simp, z⟩
    · exact .inr ⟨p, List.mem_cons_of_mem _ hp, hb⟩
theorem few_full {n : Nat} (hn : n ≤ 5) {l : List Nat} (hl : ∀ k ∈ l, k < 2 ^ n) (h : togM l 0 (List.range l.length) = 2 ^ n - 1) : ∃ k, fewM n l = some k := by
  cases e : fewM n l with
  | some k => exact ⟨k, rfl⟩
  | none =>
    exfalso
    have hj : ∀ j, j < n → ∃ p, p < l.length ∧ (l.getD p 0).testBit j = true := fun j hj => by
      have hb : (togM l 0 (List.range l.length)).testBit j = true := by rw [h]; exact full_bit hj
      rcases tog_from 0 hb with z | ⟨p, hp, hb⟩
      · rw [Nat.zero_testBit] at z
        cases z
      · exact ⟨p, List.mem_range.mp hp, hb⟩
    have hrow : ∀ t, t ≤ n → ∃ r : List Nat, r.length = t ∧ (∀ p ∈ r, p < l.length) ∧ ∀ j, j < t → (togM l 0 r).testBit j = true := fun t => by
      induction t with
      | zero => exact fun _ => ⟨[], rfl, by simp, fun j h => absurd h (Nat.not_lt_zero j)⟩
      | succ t ih =>
        intro ht
        obtain ⟨r, hr, hp, hb⟩ := ih (by omega)
        obtain ⟨p, hpl, hpb⟩ := hj t (by omega)
        refine ⟨p :: r, by rw [List.length_cons, hr], fun q hq => ?_, fun j hjt => ?_⟩
        · rcases List.mem_cons.mp hq with z | z
          · rw [z]; exact hpl
          · exact hp q z
        · by_cases hjt2 : j = t
          · rw [hjt2]
            exact tog_mem (by simp) 0 hpb
          · show (togM l (0 ||| l.getD p 0) r).testBit j = true
            rw [tog_or, Nat.testBit_or, hb j (by omega), Bool.or_true]
    obtain ⟨r, hr, hp, hb⟩ := hrow n (Nat.le_refl n)
    exact few_none hn hl e n (Nat.le_refl n) ⟨r, hr, hp, (full_iff (tog_lt hl r 0 (Nat.two_pow_pos n))).mpr hb⟩
theorem few_part {n : Nat} (hn : n ≤ 5) {l : List Nat} (hl : ∀ k ∈ l, k < 2 ^ n) (h : togM l 0 (List.range l.length) ≠ 2 ^ n - 1) : fewM n l = none := by
  cases e : fewM n l with
  | none => rfl
  | some k =>
    obtain ⟨_, ⟨r, hr, hp, ht⟩, _⟩ := few_some hn hl e
    refine absurd ((full_iff (tog_lt hl _ 0 (Nat.two_pow_pos n))).mpr fun j hj => ?_) h
    have hb : (togM l 0 r).testBit j = true := by rw [ht]; exact full_bit hj
    rcases tog_from 0 hb with z | ⟨p, hp2, hb⟩
    · rw [Nat.zero_testBit] at z
      cases z
    · exact tog_mem (List.mem_range.mpr (hp p hp2)) 0 hb
/-- sorted(set(..)) of a rising list -/
theorem sorted_rise {l : List Nat} {ns : List Int} (hl : l.Pairwise (· < ·)) (h1 : ns.Pairwise (· ≤ ·)) (h2 : ns.Nodup) (h : ∀ k, k ∈ ns ↔ decide (k ∈ ordI l) = true) : ns = ordI l := by
  have hl2 : (ordI l).Pairwise (· < ·) := by
    unfold ordI
    rw [List.pairwise_map]
    exact hl.imp fun h => by omega
  have nd : (ordI l).Nodup := hl2.imp fun h => by omega
  have pm : ns.Perm (ordI l) := (List.perm_ext_iff_of_nodup h2 nd).mpr fun k => by rw [h, decide_eq_true_eq]
  exact List.Perm.eq_of_pairwise (le := (· ≤ ·)) (fun a b _ _ h1 h2 => Int.le_antisymm h1 h2) h1 (hl2.imp fun h => by omega) pm
end SS

namespace SS
open PySem PySem.Spec PyProof.Rows L2 Evl

local macro_rules | `(tactic| walk_at "rd") => `(tactic| simp (maxSteps := 5000000) only [tSeq, tNext, tAsg, gName, tRet, tRetN, tDrop, tIfS, tCall, tCallS, tCons, tNil, tVar, tC, tOp, tUn, rI0, rI, rU, tCB, tB, tTest, tAnd, tOr, tNot, tAndV, tOrV, tNotV, tIf, tChain, tLst, tTup, rEq, rNe, is_int, is_bool, is_list, is_tuple, tIsN, tNotN, rLenS, rListS, rIxL, rIxT, gSub, rSetL, tBM, tBM0, rAppend, rClear, rExtend, rPop, rCat, rRep, reduceCtorEq, false_and, exists_false, false_or, or_false, L2.wipe, List.length_map, tSl, rSlL, tPart, tNoPart, rSum, rAll, tDNewK, tLstRg, tRg1, 
  List.getElem?_cons_zero, List.getElem?_cons_succ, List.set_cons_zero, List.set_cons_succ, List.append_nil, List.nil_append, List.cons_append, List.cons.injEq, and_true, true_and, Option.some.injEq, V.int.injEq, V.bl.injEq, V.ref.injEq, exists_eq_left', exists_eq_left, exists_and_left, exists_eq', if_true, if_false, Bool.false_eq_true, ite_true, ite_false, decide_eq_true_eq, Int.toNat_natCast, Int.one_mul, band_nn, bor_nn, bxor_nn, bit_ask, bit_dec])
local macro_rules | `(tactic| walk_at "rl") => `(tactic| simp (maxSteps := 5000000) only [tFor_W, tLc_W, iList, iTup, iRng1, iRng2, iRng3, iEnum, iZip, tSeq, tNext, tAsg, gName, tRet, tRetN, tDrop, tIfS, tCall, tCallS, tCons, tNil, tVar, tC, tOp, tUn, rI0, rI, rU, tCB, tB, tTest, tAnd, tOr, tNot, tAndV, tOrV, tNotV, tIf, tChain, tLst, tTup, rEq, rNe, is_int, is_bool, is_list, is_tuple, tIsN, tNotN, rLenS, rListS, rIxL, rIxT, gSub, rSetL, tBM, tBM0, rAppend, rClear, rExtend, rPop, rCat, rRep, reduceCtorEq, false_and, exists_false, false_or, or_false, L2.wipe, List.length_map, tSl, rSlL, tPart, tNoPart, rSum, rAll, tDNewK, tLstRg, tRg1, 
  List.getElem?_cons_zero, List.getElem?_cons_succ, List.set_cons_zero, List.set_cons_succ, List.append_nil, List.nil_append, List.cons_append, List.cons.injEq, and_true, true_and, Option.some.injEq, V.int.injEq, V.bl.injEq, V.ref.injEq, exists_eq_left', exists_eq_left, exists_and_left, exists_eq', if_true, if_false, Bool.false_eq_true, ite_true, ite_false, decide_eq_true_eq, Int.toNat_natCast, Int.one_mul, band_nn, bor_nn, bxor_nn, bit_ask, bit_dec])
local macro_rules | `(tactic| walk_at "eva") => `(tactic| (intro H1 e1 Q1 q1; walk_at "rd"; exact q1 _ (Ex.refl _)))
local macro_rules | `(tactic| walk_at "go1") => `(tactic| first
  | refine ⟨_, by assumption, ?_⟩
  | refine ⟨_, Or.inl (Or.inl (Or.inl (by assumption))), ?_⟩
  | refine ⟨_, Or.inl (by assumption), ?_⟩
  | refine ⟨_, at_int (by first | assumption | omega), ?_⟩
  | refine ⟨_, ix_int (by first | assumption | omega), ?_⟩
  | refine ⟨_, rfl, ?_⟩
  | refine ⟨Or.inl (Or.inl ⟨by omega, by omega⟩), ?_⟩
  | refine ⟨Or.inl (Or.inr ⟨by omega, by omega⟩), ?_⟩
  | refine ⟨by assumption, ?_⟩
  | refine ⟨(rfl : scal _ _ = true), ?_⟩)
local macro_rules | `(tactic| walk_at "go") => `(tactic| repeat (walk_at "go1"))

def top (i : Nat) : Stmt := PySem.Challenge.pw_setsums_k12_whole_least_covers.main.body.getD i (.Pass ⟨0, 0, 0, 0⟩)
abbrev s_is_whole : Stmt := top 13
abbrev N_is_whole : List Str := ["thing"]
theorem sc_is_whole : FnScope N_is_whole ["thing"] (defScope s_is_whole) := ⟨rfl, rfl, rfl, by decide +kernel, rfl, by decide +kernel, by decide +kernel⟩
abbrev s_powered : Stmt := top 29
abbrev N_powered : List Str := ["number", "times", "found", "turn"]
theorem sc_powered : FnScope N_powered ["number", "times"] (defScope s_powered) := ⟨rfl, rfl, rfl, by decide +kernel, rfl, by decide +kernel, by decide +kernel⟩
abbrev s_law_cell : Stmt := top 35
abbrev N_law_cell : List Str := ["_law_script", "_law_k"]
theorem sc_law_cell : FnScope N_law_cell ["_law_script", "_law_k"] (defScope s_law_cell) := ⟨rfl, rfl, rfl, by decide +kernel, rfl, by decide +kernel, by decide +kernel⟩
abbrev s_law_kind : Stmt := top 37
abbrev N_law_kind : List Str := ["_law_caught_here", "_law_found", "_law_word", "_law_is_one"]
theorem sc_law_kind : FnScope N_law_kind ["_law_caught_here"] (defScope s_law_kind) := ⟨rfl, rfl, rfl, by decide +kernel, rfl, by decide +kernel, by decide +kernel⟩
abbrev s_law_together : Stmt := top 39
abbrev N_law_together : List Str := ["_law_sets_here", "_law_places", "_law_found", "_law_place"]
theorem sc_law_together : FnScope N_law_together ["_law_sets_here", "_law_places"] (defScope s_law_together) := ⟨rfl, rfl, rfl, by decide +kernel, rfl, by decide +kernel, by decide +kernel⟩
abbrev s_law_choices : Stmt := top 40
abbrev N_law_choices : List Str := ["_law_size", "_law_many", "_law_rows", "_law_turn", "_law_later", "_law_row", "_law_first_here", "_law_place"]
theorem sc_law_choices : FnScope N_law_choices ["_law_size", "_law_many"] (defScope s_law_choices) := ⟨rfl, rfl, rfl, by decide +kernel, rfl, by decide +kernel, by decide +kernel⟩
abbrev s_is_among : Stmt := top 14
abbrev N_is_among : List Str := ["thing", "least", "most"]
theorem sc_is_among : FnScope N_is_among ["thing", "least", "most"] (defScope s_is_among) := ⟨rfl, rfl, rfl, by decide +kernel, rfl, by decide +kernel, by decide +kernel⟩
abbrev s_names_of : Stmt := top 20
abbrev N_names_of : List Str := ["table", "number", "many"]
theorem sc_names_of : FnScope N_names_of ["table"] (defScope s_names_of) := ⟨rfl, rfl, rfl, by decide +kernel, rfl, by decide +kernel, by decide +kernel⟩
abbrev s_law_mixed : Stmt := top 36
abbrev N_law_mixed : List Str := ["_law_script", "_law_k", "_law_cell_here"]
theorem sc_law_mixed : FnScope N_law_mixed ["_law_script", "_law_k"] (defScope s_law_mixed) := ⟨rfl, rfl, rfl, by decide +kernel, rfl, by decide +kernel, by decide +kernel⟩
abbrev s_law_first : Stmt := top 41
abbrev N_law_first : List Str := ["_law_many", "_law_sets_here", "_law_long", "_law_row"]
theorem sc_law_first : FnScope N_law_first ["_law_many", "_law_sets_here"] (defScope s_law_first) := ⟨rfl, rfl, rfl, by decide +kernel, rfl, by decide +kernel, by decide +kernel⟩
abbrev s_need_count : Stmt := top 15
abbrev N_need_count : List Str := ["many"]
theorem sc_need_count : FnScope N_need_count ["many"] (defScope s_need_count) := ⟨rfl, rfl, rfl, by decide +kernel, rfl, by decide +kernel, by decide +kernel⟩
abbrev s_need_set : Stmt := top 16
abbrev N_need_set : List Str := ["one", "many"]
theorem sc_need_set : FnScope N_need_set ["one", "many"] (defScope s_need_set) := ⟨rfl, rfl, rfl, by decide +kernel, rfl, by decide +kernel, by decide +kernel⟩
abbrev s_spread : Stmt := top 22
abbrev N_spread : List Str := ["table", "by", "is_up", "many", "found", "name", "bit", "one"]
theorem sc_spread : FnScope N_spread ["table", "by", "is_up"] (defScope s_spread) := ⟨rfl, rfl, rfl, by decide +kernel, rfl, by decide +kernel, by decide +kernel⟩
abbrev s_law_sets : Stmt := top 42
abbrev N_law_sets : List Str := ["_law_script", "_law_many", "_law_size", "_law_first_here", "_law_found", "_law_k", "_law_number", "_law_one"]
theorem sc_law_sets : FnScope N_law_sets ["_law_script", "_law_many", "_law_size", "_law_first_here"] (defScope s_law_sets) := ⟨rfl, rfl, rfl, by decide +kernel, rfl, by decide +kernel, by decide +kernel⟩
abbrev s_members : Stmt := top 18
abbrev N_members : List Str := ["one", "name"]
theorem sc_members : FnScope N_members ["one"] (defScope s_members) := ⟨rfl, rfl, rfl, by decide +kernel, rfl, by decide +kernel, by decide +kernel⟩
abbrev s_below : Stmt := top 23
abbrev N_below : List Str := ["table"]
theorem sc_below : FnScope N_below ["table"] (defScope s_below) := ⟨rfl, rfl, rfl, by decide +kernel, rfl, by decide +kernel, by decide +kernel⟩
abbrev s_above : Stmt := top 24
abbrev N_above : List Str := ["table"]
theorem sc_above : FnScope N_above ["table"] (defScope s_above) := ⟨rfl, rfl, rfl, by decide +kernel, rfl, by decide +kernel, by decide +kernel⟩
abbrev s_need_sets : Stmt := top 28
abbrev N_need_sets : List Str := ["many", "sets", "one"]
theorem sc_need_sets : FnScope N_need_sets ["many", "sets"] (defScope s_need_sets) := ⟨rfl, rfl, rfl, by decide +kernel, rfl, by decide +kernel, by decide +kernel⟩
abbrev s_size_of : Stmt := top 17
abbrev N_size_of : List Str := ["one"]
theorem sc_size_of : FnScope N_size_of ["one"] (defScope s_size_of) := ⟨rfl, rfl, rfl, by decide +kernel, rfl, by decide +kernel, by decide +kernel⟩
abbrev s_rows_from : Stmt := top 30
abbrev N_rows_from : List Str := ["many", "sets", "long", "counts", "one", "within", "by_set", "sign"]
theorem sc_rows_from : FnScope N_rows_from ["many", "sets", "long"] (defScope s_rows_from) := ⟨rfl, rfl, rfl, by decide +kernel, rfl, by decide +kernel, by decide +kernel⟩
abbrev s_covers : Stmt := top 31
abbrev N_covers : List Str := ["many", "sets", "long"]
theorem sc_covers : FnScope N_covers ["many", "sets", "long"] (defScope s_covers) := ⟨rfl, rfl, rfl, by decide +kernel, rfl, by decide +kernel, by decide +kernel⟩
abbrev s_fewest : Stmt := top 32
abbrev N_fewest : List Str := ["many", "sets", "long"]
theorem sc_fewest : FnScope N_fewest ["many", "sets"] (defScope s_fewest) := ⟨rfl, rfl, rfl, by decide +kernel, rfl, by decide +kernel, by decide +kernel⟩
abbrev s_least_cover : Stmt := top 33
abbrev N_least_cover : List Str := ["many", "sets", "long", "have", "found", "left", "rest", "place", "one"]
theorem sc_least_cover : FnScope N_least_cover ["many", "sets"] (defScope s_least_cover) := ⟨rfl, rfl, rfl, by decide +kernel, rfl, by decide +kernel, by decide +kernel⟩
abbrev s_law_caught : Stmt := top 38
abbrev N_law_caught : List Str := ["_law_which", "_law_many", "_law_sets_here", "_law_caught_here", "error"]
theorem sc_law_caught : FnScope N_law_caught ["_law_which", "_law_many", "_law_sets_here"] (defScope s_law_caught) := ⟨rfl, rfl, rfl, by decide +kernel, rfl, by decide +kernel, by decide +kernel⟩
abbrev s_law_good : Stmt := top 43
abbrev N_law_good : List Str := ["_law_many", "_law_sets_here", "_law_due", "_law_kept", "_law_turn", "_law_found", "_law_place"]
theorem sc_law_good : FnScope N_law_good ["_law_many", "_law_sets_here", "_law_due"] (defScope s_law_good) := ⟨rfl, rfl, rfl, by decide +kernel, rfl, by decide +kernel, by decide +kernel⟩
abbrev s_law_great_good : Stmt := top 44
abbrev N_law_great_good : List Str := ["_law_many", "_law_sets_here", "_law_whole", "_law_found"]
theorem sc_law_great_good : FnScope N_law_great_good ["_law_many", "_law_sets_here"] (defScope s_law_great_good) := ⟨rfl, rfl, rfl, by decide +kernel, rfl, by decide +kernel, by decide +kernel⟩
abbrev s_law : Stmt := top 45
abbrev N_law : List Str := ["_law_script", "_law_many", "_law_sets_here", "_law_due", "_law_which", "_law_wrong"]
theorem sc_law : FnScope N_law ["_law_script"] (defScope s_law) := ⟨rfl, rfl, rfl, by decide +kernel, rfl, by decide +kernel, by decide +kernel⟩
structure Txt (K : PySem.W.Frag) (mg : Str → Option Value) : Prop where
  n_ValueError : mg "ValueError" = none
  n_all : mg "all" = none
  n_bool : mg "bool" = none
  n_enumerate : mg "enumerate" = none
  n_int : mg "int" = none
  n_isinstance : mg "isinstance" = none
  n_len : mg "len" = none
  n_list : mg "list" = none
  n_max : mg "max" = none
  n_min : mg "min" = none
  n_range : mg "range" = none
  n_set : mg "set" = none
  n_sorted : mg "sorted" = none
  n_tuple : mg "tuple" = none
  k_MOST_NAMES : ∃ t, mg "MOST_NAMES" = some (.int 10 t)
  k_MOST_SETS : ∃ t, mg "MOST_SETS" = some (.int 40 t)
  k_MOST_LONG : ∃ t, mg "MOST_LONG" = some (.int 20 t)
  c_SetError : ExcT K mg "SetError"
  c_BadCount : ExcT K mg "BadCount"
  c_BadSet : ExcT K mg "BadSet"
  c_BadName : ExcT K mg "BadName"
  c_BadNumber : ExcT K mg "BadNumber"
  c_BadOrder : ExcT K mg "BadOrder"
  c_BadTable : ExcT K mg "BadTable"
  c_Unlike : ExcT K mg "Unlike"
  c_NoCover : ExcT K mg "NoCover"
  c_NothingDone : ExcT K mg "NothingDone"
  d_is_whole : DefAt K mg "is_whole" s_is_whole ["thing"]
  d_powered : DefAt K mg "powered" s_powered ["number", "times"]
  d_law_cell : DefAt K mg "_law_cell" s_law_cell ["_law_script", "_law_k"]
  d_law_kind : DefAt K mg "_law_kind" s_law_kind ["_law_caught_here"]
  d_law_together : DefAt K mg "_law_together" s_law_together ["_law_sets_here", "_law_places"]
  d_law_choices : DefAt K mg "_law_choices" s_law_choices ["_law_size", "_law_many"]
  d_is_among : DefAt K mg "is_among" s_is_among ["thing", "least", "most"]
  d_names_of : DefAt K mg "names_of" s_names_of ["table"]
  d_law_mixed : DefAt K mg "_law_mixed" s_law_mixed ["_law_script", "_law_k"]
  d_law_first : DefAt K mg "_law_first" s_law_first ["_law_many", "_law_sets_here"]
  d_need_count : DefAt K mg "need_count" s_need_count ["many"]
  d_need_set : DefAt K mg "need_set" s_need_set ["one", "many"]
  d_spread : DefAt K mg "spread" s_spread ["table", "by", "is_up"]
  d_law_sets : DefAt K mg "_law_sets" s_law_sets ["_law_script", "_law_many", "_law_size", "_law_first_here"]
  d_members : DefAt K mg "members" s_members ["one"]
  d_below : DefAt K mg "below" s_below ["table"]
  d_above : DefAt K mg "above" s_above ["table"]
  d_need_sets : DefAt K mg "need_sets" s_need_sets ["many", "sets"]
  d_size_of : DefAt K mg "size_of" s_size_of ["one"]
  d_rows_from : DefAt K mg "rows_from" s_rows_from ["many", "sets", "long"]
  d_covers : DefAt K mg "covers" s_covers ["many", "sets", "long"]
  d_fewest : DefAt K mg "fewest" s_fewest ["many", "sets"]
  d_least_cover : DefAt K mg "least_cover" s_least_cover ["many", "sets"]
  d_law_caught : DefAt K mg "_law_caught" s_law_caught ["_law_which", "_law_many", "_law_sets_here"]
  d_law_good : DefAt K mg "_law_good" s_law_good ["_law_many", "_law_sets_here", "_law_due"]
  d_law_great_good : DefAt K mg "_law_great_good" s_law_great_good ["_law_many", "_law_sets_here"]
  d_law : DefAt K mg "law" s_law ["_law_script"]
  x : ExF K nineC nineC
section
variable {P : Program} {w : World} {K : PySem.W.Frag} {mg : Str → Option Value} {base : Heap}

def sp_is_whole (K : PySem.W.Frag) : Sp := fun vs H Q _ => ∃ x t, vs = [x] ∧ Kd K H x t ∧ Q (.bl (decide (t = .int))) H
theorem ok_is_whole (T : Txt K mg)  : Has P w K mg base 1 "is_whole" ["thing"] (sp_is_whole K) := by
  refine DefAt.has T.d_is_whole sc_is_whole (fun vs H Q E h => ?_) (fun f cdv A outer s H vs Q E hr h => ⟨_, (pss_one (ps_ret (pe_and (pe_callB (id := "isinstance") (k_isK K) (by rfl) T.n_isinstance (by decide +kernel) (pa_cons (pv 0) (pa_cons (pe_ty "int" (by rfl) T.n_int (by decide +kernel)) pa_nil))) (pe_one (pe_not (pe_callB (id := "isinstance") (k_isK K) (by rfl) T.n_isinstance (by decide +kernel) (pa_cons (pv 0) (pa_cons (pe_ty "bool" (by rfl) T.n_bool (by decide +kernel)) pa_nil)))))))), ?_⟩)
  · obtain ⟨x, t, rfl, _⟩ := h
    rfl
  · obtain ⟨x, t, rfl, hk, q⟩ := h
    simp only [L2.start, N_is_whole, List.map_cons, List.map_nil, List.length_cons, List.length_nil, List.replicate_succ, List.replicate_zero, Nat.reduceAdd, Nat.reduceSub, List.cons_append, List.nil_append]
    walk_at "rd"
    refine ⟨t, hk, ?_⟩
    cases t <;> first | exact q | exact ⟨_, hk, q⟩

def sp_powered (K : PySem.W.Frag) : Sp := fun vs H Q _ => ∃ (z : Int) (k : Nat), vs = [.int z, .int (k : Nat)] ∧ z.natAbs < 2 ^ 60 ∧ k ≤ 100 ∧ RetV (.int (z ^ k)) H Q
theorem ok_powered (T : Txt K mg)  : Has P w K mg base 1 "powered" ["number", "times"] (sp_powered K) := by
  refine DefAt.has T.d_powered sc_powered (fun vs H Q E h => ?_) (fun f cdv A outer s H vs Q E hr h => ⟨_, (pss_cons (ps_set (i := 2) sc_powered.nd rfl (Or.inl rfl) pe_int)
      (pss_cons (ps_for (passes_of rfl) rfl (pi_range1 rfl T.n_range (pa_cons (pv 1) pa_nil)) (pg_name (i := 3) sc_powered.nd rfl (Or.inl rfl))
      (pss_one (ps_set (i := 2) sc_powered.nd rfl (Or.inl rfl) (pe_op op_mu (pv 2) (pv 0)))))
      (pss_one (ps_ret (pv 2))))), ?_⟩)
  · obtain ⟨z, k, rfl, _⟩ := h
    rfl
  · obtain ⟨z, k, rfl, hz, hk, q⟩ := h
    simp only [L2.start, N_powered, List.map_cons, List.map_nil, List.length_cons, List.length_nil, List.replicate_succ, List.replicate_zero, Nat.reduceAdd, Nat.reduceSub, List.cons_append, List.nil_append]
    walk_at "rl"
    refine ⟨by omega, by omega, ?_⟩
    refine w_rng0 (n := k) (fun i σ H' => ∃ z3, σ = [some (.int z), some (.int (k : Nat)), some (.int (z ^ i)), z3] ∧ Ex H H')
      ⟨_, by rw [Int.pow_zero], Ex.refl _⟩ (fun i σ H' hi hP => ?_) (fun σ H' hP => ?_)
    · obtain ⟨z3, rfl, e0⟩ := hP
      walk_at "rd"
      exact ⟨cmu_r (by omega), _, ⟨(Int.pow_succ z i).symm, rfl⟩, e0⟩
    · obtain ⟨z3, rfl, e0⟩ := hP
      walk_at "rd"
      exact q H' e0

def sp_law_cell (K : PySem.W.Frag) : Sp := fun vs H Q _ => ∃ a ns k, vs = [.ref a, .int (k : Nat)] ∧ SqL K H a (ns.map V.int) ∧ RetV (.int (cellM ns k)) H Q
theorem ok_law_cell (T : Txt K mg)  : Has P w K mg base 1 "_law_cell" ["_law_script", "_law_k"] (sp_law_cell K) := by
  refine DefAt.has T.d_law_cell sc_law_cell (fun vs H Q E h => ?_) (fun f cdv A outer s H vs Q E hr h => ⟨_, (pss_one (ps_ret (pe_op op_mod (pe_ix (k_ixl K) (pe_op op_cat (pe_slice (k_sll K) (pv 0) (po_some (pv 1)) (po_some (pe_op op_add (pv 1) pe_int))) (pe_lst (pa_cons pe_int pa_nil))) pe_int (fun _ _ => rfl)) (pe_op op_pw pe_int pe_int)))), ?_⟩)
  · obtain ⟨a, ns, k, rfl, _⟩ := h
    rfl
  · obtain ⟨a, ns, k, rfl, hA, q⟩ := h
    simp only [L2.start, N_law_cell, List.map_cons, List.map_nil, List.length_cons, List.length_nil, List.replicate_succ, List.replicate_zero, Nat.reduceAdd, Nat.reduceSub, List.cons_append, List.nil_append]
    walk_at "rd"
    refine ⟨_, hA, fun p np => ⟨by decide, fun p1 np1 => ?_⟩⟩
    have e1 := Ex.new (o := HO.lst (cutV (ns.map V.int) (some (k : Int)) (some ((k : Int) + 1)))) np
    have e2 := Ex.new (o := HO.lst [V.int 0]) np1
    refine ⟨_, e2 p _ upd_same, _, upd_same, ?_, fun p2 np2 => ?_⟩
    · rw [cut1]
      exact sz_of (by simp; omega)
    · have e3 := Ex.new (o := HO.lst (cutV (ns.map V.int) (some (k : Int)) (some ((k : Int) + 1)) ++ [V.int 0])) np2
      refine ⟨_, .inl (.inl upd_same), _, by rw [cut1]; exact cell_at ns k, ⟨by decide, by decide⟩, _, rfl, by decide, ?_⟩
      exact q _ ((e1.trans e2).trans e3)

def sp_law_kind (K : PySem.W.Frag) : Sp := fun vs H Q _ => ∃ e, vs = [e] ∧ ((e = .non ∧ RetL [V.str "none"] H Q) ∨ ∃ a C, e = .ref a ∧ C ∈ nineC ∧ H a = some (ExK (.ref (He.ga K C)) a) ∧ RetL (kindV C) H Q)
theorem ok_law_kind (T : Txt K mg)  : Has P w K mg base 1 "_law_kind" ["_law_caught_here"] (sp_law_kind K) := by
  refine DefAt.has T.d_law_kind sc_law_kind (fun vs H Q E h => ?_) (fun f cdv A outer s H vs Q E hr h => ⟨_, (pss_cons (ps_if (pt_cmp (pc_isN (pv 0)) rfl)
      (pss_one (ps_ret (pe_lst (pa_cons pe_str pa_nil)))) pss_nil)
      (pss_cons (ps_set (i := 1) sc_law_kind.nd rfl (Or.inl rfl) (pe_lst (pa_cons (pe_tup (pa_cons pe_str (pa_cons (pe_callB (id := "isinstance") (k_isX K) (by rfl) T.n_isinstance (by decide +kernel) (pa_cons (pv 0) (pa_cons (k_cls K T.c_BadCount rfl) pa_nil))) pa_nil))) (pa_cons (pe_tup (pa_cons pe_str (pa_cons (pe_callB (id := "isinstance") (k_isX K) (by rfl) T.n_isinstance (by decide +kernel) (pa_cons (pv 0) (pa_cons (k_cls K T.c_BadSet rfl) pa_nil))) pa_nil))) pa_nil))))
      (pss_cons (ps_set (i := 1) sc_law_kind.nd rfl (Or.inl rfl) (pe_op op_cat (pv 1) (pe_lst (pa_cons (pe_tup (pa_cons pe_str (pa_cons (pe_callB (id := "isinstance") (k_isX K) (by rfl) T.n_isinstance (by decide +kernel) (pa_cons (pv 0) (pa_cons (k_cls K T.c_BadName rfl) pa_nil))) pa_nil))) (pa_cons (pe_tup (pa_cons pe_str (pa_cons (pe_callB (id := "isinstance") (k_isX K) (by rfl) T.n_isinstance (by decide +kernel) (pa_cons (pv 0) (pa_cons (k_cls K T.c_BadNumber rfl) pa_nil))) pa_nil))) pa_nil)))))
      (pss_cons (ps_set (i := 1) sc_law_kind.nd rfl (Or.inl rfl) (pe_op op_cat (pv 1) (pe_lst (pa_cons (pe_tup (pa_cons pe_str (pa_cons (pe_callB (id := "isinstance") (k_isX K) (by rfl) T.n_isinstance (by decide +kernel) (pa_cons (pv 0) (pa_cons (k_cls K T.c_BadOrder rfl) pa_nil))) pa_nil))) (pa_cons (pe_tup (pa_cons pe_str (pa_cons (pe_callB (id := "isinstance") (k_isX K) (by rfl) T.n_isinstance (by decide +kernel) (pa_cons (pv 0) (pa_cons (k_cls K T.c_BadTable rfl) pa_nil))) pa_nil))) pa_nil)))))
      (pss_cons (ps_set (i := 1) sc_law_kind.nd rfl (Or.inl rfl) (pe_op op_cat (pv 1) (pe_lst (pa_cons (pe_tup (pa_cons pe_str (pa_cons (pe_callB (id := "isinstance") (k_isX K) (by rfl) T.n_isinstance (by decide +kernel) (pa_cons (pv 0) (pa_cons (k_cls K T.c_Unlike rfl) pa_nil))) pa_nil))) (pa_cons (pe_tup (pa_cons pe_str (pa_cons (pe_callB (id := "isinstance") (k_isX K) (by rfl) T.n_isinstance (by decide +kernel) (pa_cons (pv 0) (pa_cons (k_cls K T.c_NoCover rfl) pa_nil))) pa_nil))) pa_nil)))))
      (pss_cons (ps_set (i := 1) sc_law_kind.nd rfl (Or.inl rfl) (pe_op op_cat (pv 1) (pe_lst (pa_cons (pe_tup (pa_cons pe_str (pa_cons (pe_callB (id := "isinstance") (k_isX K) (by rfl) T.n_isinstance (by decide +kernel) (pa_cons (pv 0) (pa_cons (k_cls K T.c_NothingDone rfl) pa_nil))) pa_nil))) (pa_cons (pe_tup (pa_cons pe_str (pa_cons (pe_callB (id := "isinstance") (k_isX K) (by rfl) T.n_isinstance (by decide +kernel) (pa_cons (pv 0) (pa_cons (pe_ty "ValueError" (by rfl) T.n_ValueError (by decide +kernel)) pa_nil))) pa_nil))) pa_nil)))))
      (pss_one (ps_ret (pe_lc (own := [("_law_word", 2), ("_law_is_one", 3)]) (g := gTup K 2 (gCons (gName 2) (gCons (gName 3) gNil))) rfl sc_law_kind.nd (k_pil K (pv 1)) (blkOk_by (own := [("_law_word", 2), ("_law_is_one", 3)]) (N := N_law_kind) (sc := defScope s_law_kind) (by decide +kernel)) (fun _ _ _ _ _ => (k_pgt K rfl (pgs_cons (pg_name (i := 2) sc_law_kind.nd rfl (Or.inl rfl)) (pgs_cons (pg_name (i := 3) sc_law_kind.nd rfl (Or.inl rfl)) pgs_nil)))) (fun _ _ _ _ _ => (pts_one (pt_val (pv 3)))) (fun _ _ _ _ _ => (pv 2))))))))))), ?_⟩)
  · obtain ⟨e, rfl, _⟩ := h
    rfl
  · obtain ⟨e, rfl, h⟩ := h
    simp only [L2.start, N_law_kind, List.map_cons, List.map_nil, List.length_cons, List.length_nil, List.replicate_succ, List.replicate_zero, Nat.reduceAdd, Nat.reduceSub, List.cons_append, List.nil_append]
    walk_at "rl"
    rcases h with ⟨rfl, q⟩ | ⟨a, C, rfl, hC, ha, q⟩
    · rw [if_pos rfl]
      exact ⟨by decide, fun p np => q p _ np (Ex.new np) upd_same⟩
    · rw [if_neg (by intro z; cases z)]
      refine isx_go T.x hC ha (by decide) ⟨sz_of (by simp), ?_⟩
      intro p1 n1
      generalize hG1 : upd _ p1 _ = G1
      have x1 := upd_ex hG1 n1
      have f1 := upd_at hG1
      have e1 : Ex H G1 := x1
      clear hG1
      refine isx_go T.x hC (e1 _ _ ha) (by decide) ⟨sz_of (by simp), ?_⟩
      intro p2 n2
      generalize hG2 : upd _ p2 _ = G2
      have x2 := upd_ex hG2 n2
      have f2 := upd_at hG2
      have e2 : Ex H G2 := e1.trans x2
      clear hG2
      refine ⟨sz_of (by simp), ?_⟩
      intro p3 n3
      generalize hG3 : upd _ p3 _ = G3
      have x3 := upd_ex hG3 n3
      have f3 := upd_at hG3
      have e3 : Ex H G3 := e2.trans x3
      clear hG3
      refine isx_go T.x hC (e3 _ _ ha) (by decide) ⟨sz_of (by simp), ?_⟩
      intro p4 n4
      generalize hG4 : upd _ p4 _ = G4
      have x4 := upd_ex hG4 n4
      have f4 := upd_at hG4
      have e4 : Ex H G4 := e3.trans x4
      clear hG4
      refine isx_go T.x hC (e4 _ _ ha) (by decide) ⟨sz_of (by simp), ?_⟩
      intro p5 n5
      generalize hG5 : upd _ p5 _ = G5
      have x5 := upd_ex hG5 n5
      have f5 := upd_at hG5
      have e5 : Ex H G5 := e4.trans x5
      clear hG5
      refine ⟨sz_of (by simp), ?_⟩
      intro p6 n6
      generalize hG6 : upd _ p6 _ = G6
      have x6 := upd_ex hG6 n6
      have f6 := upd_at hG6
      have e6 : Ex H G6 := e5.trans x6
      clear hG6
      refine ⟨_, ((x4.trans x5).trans x6) _ _ f3, _, f6, sz_of (by simp), ?_⟩
      intro p7 n7
      generalize hG7 : upd _ p7 _ = G7
      have x7 := upd_ex hG7 n7
      have f7 := upd_at hG7
      have e7 : Ex H G7 := e6.trans x7
      clear hG7
      refine isx_go T.x hC (e7 _ _ ha) (by decide) ⟨sz_of (by simp), ?_⟩
      intro p8 n8
      generalize hG8 : upd _ p8 _ = G8
      have x8 := upd_ex hG8 n8
      have f8 := upd_at hG8
      have e8 : Ex H G8 := e7.trans x8
      clear hG8
      refine isx_go T.x hC (e8 _ _ ha) (by decide) ⟨sz_of (by simp), ?_⟩
      intro p9 n9
      generalize hG9 : upd _ p9 _ = G9
      have x9 := upd_ex hG9 n9
      have f9 := upd_at hG9
      have e9 : Ex H G9 := e8.trans x9
      clear hG9
      refine ⟨sz_of (by simp), ?_⟩
      intro p10 n10
      generalize hG10 : upd _ p10 _ = G10
      have x10 := upd_ex hG10 n10
      have f10 := upd_at hG10
      have e10 : Ex H G10 := e9.trans x10
      clear hG10
      refine ⟨_, ((x8.trans x9).trans x10) _ _ f7, _, f10, sz_of (by simp), ?_⟩
      intro p11 n11
      generalize hG11 : upd _ p11 _ = G11
      have x11 := upd_ex hG11 n11
      have f11 := upd_at hG11
      have e11 : Ex H G11 := e10.trans x11
      clear hG11
      refine isx_go T.x hC (e11 _ _ ha) (by decide) ⟨sz_of (by simp), ?_⟩
      intro p12 n12
      generalize hG12 : upd _ p12 _ = G12
      have x12 := upd_ex hG12 n12
      have f12 := upd_at hG12
      have e12 : Ex H G12 := e11.trans x12
      clear hG12
      refine isx_go T.x hC (e12 _ _ ha) (by decide) ⟨sz_of (by simp), ?_⟩
      intro p13 n13
      generalize hG13 : upd _ p13 _ = G13
      have x13 := upd_ex hG13 n13
      have f13 := upd_at hG13
      have e13 : Ex H G13 := e12.trans x13
      clear hG13
      refine ⟨sz_of (by simp), ?_⟩
      intro p14 n14
      generalize hG14 : upd _ p14 _ = G14
      have x14 := upd_ex hG14 n14
      have f14 := upd_at hG14
      have e14 : Ex H G14 := e13.trans x14
      clear hG14
      refine ⟨_, ((x12.trans x13).trans x14) _ _ f11, _, f14, sz_of (by simp), ?_⟩
      intro p15 n15
      generalize hG15 : upd _ p15 _ = G15
      have x15 := upd_ex hG15 n15
      have f15 := upd_at hG15
      have e15 : Ex H G15 := e14.trans x15
      clear hG15
      refine isx_go T.x hC (e15 _ _ ha) (by decide) ⟨sz_of (by simp), ?_⟩
      intro p16 n16
      generalize hG16 : upd _ p16 _ = G16
      have x16 := upd_ex hG16 n16
      have f16 := upd_at hG16
      have e16 : Ex H G16 := e15.trans x16
      clear hG16
      refine isx_ve T.x hC (e16 _ _ ha) ⟨sz_of (by simp), ?_⟩
      intro p17 n17
      generalize hG17 : upd _ p17 _ = G17
      have x17 := upd_ex hG17 n17
      have f17 := upd_at hG17
      have e17 : Ex H G17 := e16.trans x17
      clear hG17
      refine ⟨sz_of (by simp), ?_⟩
      intro p18 n18
      generalize hG18 : upd _ p18 _ = G18
      have x18 := upd_ex hG18 n18
      have f18 := upd_at hG18
      have e18 : Ex H G18 := e17.trans x18
      clear hG18
      refine ⟨_, ((x16.trans x17).trans x18) _ _ f15, _, f18, sz_of (by simp), ?_⟩
      intro p19 n19
      generalize hG19 : upd _ p19 _ = G19
      have x19 := upd_ex hG19 n19
      have f19 := upd_at hG19
      have e19 : Ex H G19 := e18.trans x19
      clear hG19
      have hxs : SqL K G19 p19 [V.ref p1, V.ref p2, V.ref p4, V.ref p5, V.ref p8, V.ref p9, V.ref p12, V.ref p13, V.ref p16, V.ref p17] := .inl (.inl f19)
      have t0 : SqT K G19 p1 [.str "count", .bl (decide (C = "BadCount"))] := .inl (.inl ((((((((((((((((((x2.trans x3).trans x4).trans x5).trans x6).trans x7).trans x8).trans x9).trans x10).trans x11).trans x12).trans x13).trans x14).trans x15).trans x16).trans x17).trans x18).trans x19) _ _ f1))
      have t1 : SqT K G19 p2 [.str "set", .bl (decide (C = "BadSet"))] := .inl (.inl (((((((((((((((((x3.trans x4).trans x5).trans x6).trans x7).trans x8).trans x9).trans x10).trans x11).trans x12).trans x13).trans x14).trans x15).trans x16).trans x17).trans x18).trans x19) _ _ f2))
      have t2 : SqT K G19 p4 [.str "name", .bl (decide (C = "BadName"))] := .inl (.inl (((((((((((((((x5.trans x6).trans x7).trans x8).trans x9).trans x10).trans x11).trans x12).trans x13).trans x14).trans x15).trans x16).trans x17).trans x18).trans x19) _ _ f4))
      have t3 : SqT K G19 p5 [.str "number", .bl (decide (C = "BadNumber"))] := .inl (.inl ((((((((((((((x6.trans x7).trans x8).trans x9).trans x10).trans x11).trans x12).trans x13).trans x14).trans x15).trans x16).trans x17).trans x18).trans x19) _ _ f5))
      have t4 : SqT K G19 p8 [.str "order", .bl (decide (C = "BadOrder"))] := .inl (.inl (((((((((((x9.trans x10).trans x11).trans x12).trans x13).trans x14).trans x15).trans x16).trans x17).trans x18).trans x19) _ _ f8))
      have t5 : SqT K G19 p9 [.str "table", .bl (decide (C = "BadTable"))] := .inl (.inl ((((((((((x10.trans x11).trans x12).trans x13).trans x14).trans x15).trans x16).trans x17).trans x18).trans x19) _ _ f9))
      have t6 : SqT K G19 p12 [.str "unlike", .bl (decide (C = "Unlike"))] := .inl (.inl (((((((x13.trans x14).trans x15).trans x16).trans x17).trans x18).trans x19) _ _ f12))
      have t7 : SqT K G19 p13 [.str "cover", .bl (decide (C = "NoCover"))] := .inl (.inl ((((((x14.trans x15).trans x16).trans x17).trans x18).trans x19) _ _ f13))
      have t8 : SqT K G19 p16 [.str "nothing", .bl (decide (C = "NothingDone"))] := .inl (.inl (((x17.trans x18).trans x19) _ _ f16))
      have t9 : SqT K G19 p17 [.str "value", .bl true] := .inl (.inl ((x18.trans x19) _ _ f17))
      refine ⟨⟨_, hxs⟩, ?_⟩
      refine wl_pairs (K := K) _ (fun k => .str (nineW.getD k Str.empty)) (fun k => .bl ((nineC.map (fun D => decide (C = D)) ++ [true]).getD k false)) (fun k => (nineC.map (fun D => decide (C = D)) ++ [true]).getD k false) (fun k => .str (nineW.getD k Str.empty)) hxs (by simp) (fun _ _ => rfl) (fun k x hx => ?_) (fun k H1 hk e1 H2 e2 Q2 q2 => ?_) (fun k H1 hk e1 _ H2 e2 Q2 q2 => ?_) (fun p H2 np e2 h2 => q p H2 (fresh_back e19 np) (e19.trans e2) h2)
      · match k, hx with
        | 0, hx => cases hx; exact ⟨p1, rfl, t0⟩
        | 1, hx => cases hx; exact ⟨p2, rfl, t1⟩
        | 2, hx => cases hx; exact ⟨p4, rfl, t2⟩
        | 3, hx => cases hx; exact ⟨p5, rfl, t3⟩
        | 4, hx => cases hx; exact ⟨p8, rfl, t4⟩
        | 5, hx => cases hx; exact ⟨p9, rfl, t5⟩
        | 6, hx => cases hx; exact ⟨p12, rfl, t6⟩
        | 7, hx => cases hx; exact ⟨p13, rfl, t7⟩
        | 8, hx => cases hx; exact ⟨p16, rfl, t8⟩
        | 9, hx => cases hx; exact ⟨p17, rfl, t9⟩
        | k + 10, hx => simp at hx
      · walk_at "rd"
        exact q2 _ (Ex.refl _)
      · walk_at "rd"
        exact q2 _ (Ex.refl _)

def sp_law_together (K : PySem.W.Frag) : Sp := fun vs H Q _ => ∃ (a b : Addr) (l r : List Nat), vs = [.ref a, .ref b] ∧ SqL K H a ((ordI l).map V.int) ∧ SqL K H b ((ordI r).map V.int) ∧ (∀ p ∈ r, p < l.length) ∧ RetV (.int (togM l 0 r : Nat)) H Q
theorem ok_law_together (T : Txt K mg)  : Has P w K mg base 1 "_law_together" ["_law_sets_here", "_law_places"] (sp_law_together K) := by
  refine DefAt.has T.d_law_together sc_law_together (fun vs H Q E h => ?_) (fun f cdv A outer s H vs Q E hr h => ⟨_, (pss_cons (ps_set (i := 2) sc_law_together.nd rfl (Or.inl rfl) pe_int)
      (pss_cons (ps_for (passes_of rfl) rfl (k_pil K (pv 1)) (pg_name (i := 3) sc_law_together.nd rfl (Or.inl rfl))
      (pss_one (ps_set (i := 2) sc_law_together.nd rfl (Or.inl rfl) (pe_op op_or (pv 2) (pe_ix (k_ixl K) (pv 0) (pv 3) (fun _ _ => rfl))))))
      (pss_one (ps_ret (pv 2))))), ?_⟩)
  · obtain ⟨a, b, l, r, rfl, _⟩ := h
    rfl
  · obtain ⟨a, b, l, r, rfl, hA, hB, hr, q⟩ := h
    simp only [L2.start, N_law_together, List.map_cons, List.map_nil, List.length_cons, List.length_nil, List.replicate_succ, List.replicate_zero, Nat.reduceAdd, Nat.reduceSub, List.cons_append, List.nil_append]
    walk_at "rl"
    refine ⟨⟨_, hB⟩, ?_⟩
    refine w_list ((ordI r).map V.int) (fun i σ H' => ∃ z3, σ = [some (.ref a), some (.ref b), some (.int (togM l 0 (r.take i) : Nat)), z3] ∧ Ex H H')
      ⟨_, rfl, Ex.refl _⟩ (fun i σ H' _ hP => ?_) (fun i x σ H' hx hP => ?_) (fun σ H' hP => ?_)
    · obtain ⟨_, _, e0⟩ := hP
      exact ex_l e0 hB
    · obtain ⟨z3, rfl, e0⟩ := hP
      obtain ⟨s, hs, rfl⟩ := get_ordI hx
      have hsl := hr s (List.mem_of_getElem? hs)
      walk_at "rd"
      refine ⟨_, ex_l e0 hA, _, at_int (ns := ordI l) (i := s) (by unfold ordI; rw [List.length_map]; exact hsl), _, rfl, _, ⟨?_, rfl⟩, e0⟩
      have ht : r.take (i + 1) = r.take i ++ [s] := by rw [List.take_add_one, hs] <;> rfl
      have : (ordI l).getD s 0 = ((l.getD s 0 : Nat) : Int) := by
        unfold ordI
        rw [List.getD_eq_getElem?_getD, List.getElem?_map, List.getD_eq_getElem?_getD]
        cases l[s]? <;> rfl
      rw [this, bor_nn, ht, tog_app]
      rfl
    · obtain ⟨z3, rfl, e0⟩ := hP
      dsimp only
      walk_at "rd"
      rw [show (ordI r).length = r.length from by unfold ordI; rw [List.length_map], List.take_length]
      exact q H' e0

def sp_law_choices (K : PySem.W.Frag) : Sp := fun vs H Q _ => ∃ (m k : Nat), vs = [.int (m : Nat), .int (k : Nat)] ∧ m ≤ 9 ∧ k ≤ 5 ∧ ∀ p xs H', H p = none → Ex H H' → H' p = some (.lst xs) → RowsF H H' xs ((choicesM m k).map ordI) → Q (.ref p) H'
theorem ok_law_choices (T : Txt K mg)  : Has P w K mg base 1 "_law_choices" ["_law_size", "_law_many"] (sp_law_choices K) := by
  refine DefAt.has T.d_law_choices sc_law_choices (fun vs H Q E h => ?_) (fun f cdv A outer s H vs Q E hr h => ⟨_, (pss_cons (ps_set (i := 2) sc_law_choices.nd rfl (Or.inl rfl) (pe_lst (pa_cons (pe_lst pa_nil) pa_nil)))
      (pss_cons (ps_for (passes_of rfl) rfl (pi_range1 rfl T.n_range (pa_cons (pv 1) pa_nil)) (pg_name (i := 3) sc_law_choices.nd rfl (Or.inl rfl))
      (pss_cons (ps_set (i := 4) sc_law_choices.nd rfl (Or.inl rfl) (pe_lst pa_nil))
      (pss_cons (ps_for (passes_of rfl) rfl (k_pil K (pv 2)) (pg_name (i := 5) sc_law_choices.nd rfl (Or.inr rfl))
      (pss_cons (ps_set (i := 6) sc_law_choices.nd rfl (Or.inl rfl) (pe_ifExp (pt_cmpR (k_neD K hr.units) (pv 5) (pe_lst pa_nil) (nomark _)) (pe_op op_add (pe_ix (k_ixl K) (pv 5) (pe_un un_neg pe_int) (fun _ _ => rfl)) pe_int) pe_int))
      (pss_one (ps_expr (k_bm K PySem.F.plainAttrs_list PySem.F.slot_list_extend PySem.F.type_list_extend mt_extend (pv 4) (pa_cons (pe_lc (own := [("_law_place", 7)]) (g := gName 7) rfl sc_law_choices.nd (pi_range2 rfl T.n_range (pa_cons (pv 6) (pa_cons (pv 0) pa_nil))) (blkOk_by (own := [("_law_place", 7)]) (N := N_law_choices) (sc := defScope s_law_choices) (by decide +kernel)) (fun _ _ _ _ _ => (pg_name (i := 7) sc_law_choices.nd rfl (Or.inl rfl))) (fun _ _ _ _ _ => pts_nil) (fun _ _ _ _ _ => (pe_op op_cat (pv 5) (pe_lst (pa_cons (pv 7) pa_nil))))) pa_nil))))))
      (pss_one (ps_set (i := 2) sc_law_choices.nd rfl (Or.inl rfl) (pv 4))))))
      (pss_one (ps_ret (pv 2))))), ?_⟩)
  · obtain ⟨m, k, rfl, _⟩ := h
    rfl
  · obtain ⟨m, k, rfl, hm, hk, q⟩ := h
    simp only [L2.start, N_law_choices, List.map_cons, List.map_nil, List.length_cons, List.length_nil, List.replicate_succ, List.replicate_zero, Nat.reduceAdd, Nat.reduceSub, List.cons_append, List.nil_append]
    walk_at "rl"
    refine ⟨by decide, ?_⟩
    intro p1 n1; generalize hG1 : upd _ p1 _ = G1; have x1 := upd_ex hG1 n1; have f1 := upd_at hG1; clear hG1; have e1 := x1
    refine ⟨sz_of (by simp), ?_⟩
    intro p2 n2; generalize hG2 : upd _ p2 _ = G2; have x2 := upd_ex hG2 n2; have f2 := upd_at hG2; clear hG2; have e2 := e1.trans x2
    refine ⟨by omega, by omega, ?_⟩
    have rlen : ∀ t, t ≤ 5 → (choicesM m t).length ≤ 59049 := fun t ht => Nat.le_trans (choices_len m t) (Nat.le_trans (Nat.pow_le_pow_left hm t) (Nat.le_trans (Nat.pow_le_pow_right (by decide) ht) (by decide)))
    refine w_rng0 (n := k) (fun t σ H' => ∃ (r : Addr) (xs : List V) (z3 z4 z5 z6 : Option V), σ = [some (.int (m : Nat)), some (.int (k : Nat)), some (.ref r), z3, z4, z5, z6, none] ∧ Ex H H' ∧ H r = none ∧ H' r = some (.lst xs) ∧ RowsF H H' xs ((choicesM m t).map ordI))
      ⟨p2, _, _, _, _, _, rfl, e2, fresh_back e1 n2, f2, .cons ⟨p1, rfl, n1, x2 _ _ f1⟩ .nil⟩ (fun t σ H' ht hP => ?_) (fun σ H' hP => ?_)
    · obtain ⟨r, xs, z3, z4, z5, z6, rfl, e0, nr, hr, hrw⟩ := hP
      walk_at "rl"
      refine ⟨by decide, ?_⟩
      intro p3 n3; generalize hG3 : upd _ p3 _ = G3; have x3 := upd_ex hG3 n3; have f3 := upd_at hG3
      have g3 : ∀ b, b ≠ p3 → G3 b = H' b := fun b hb => by rw [← hG3]; exact upd_ne hb
      clear hG3; have e3 := e0.trans x3
      have hr3 := x3 _ _ hr
      have hB3 : G3 p3 ≠ none := by rw [f3]; exact fun z => nomatch z
      refine ⟨⟨_, .inl (.inl hr3)⟩, ?_⟩
      refine w_list xs (fun i σ H'' => ∃ (ys : List V) (z5 z6 : Option V), σ = [some (.int (m : Nat)), some (.int (k : Nat)), some (.ref r), some (.int (t : Nat)), some (.ref p3), z5, z6, none] ∧ Ex H' H'' ∧ H'' p3 = some (.lst ys) ∧ RowsF G3 H'' ys ((((choicesM m t).take i).flatMap (laterM m)).map ordI))
        ⟨[], _, _, rfl, x3, f3, by rw [List.take_zero]; exact .nil⟩ (fun i σ H'' _ hP => ?_) (fun i x σ H'' hx hP => ?_) (fun σ H'' hP => ?_)
      · obtain ⟨_, _, _, _, k0, _⟩ := hP
        exact .inl (.inl (k0 _ _ hr))
      · obtain ⟨ys, z5, z6, rfl, k0, hp3, hys⟩ := hP
        have hxl := (List.getElem?_eq_some_iff.mp hx).1
        have hlen := hrw.len
        rw [List.length_map] at hlen
        obtain ⟨row, hrow⟩ : ∃ row, (choicesM m t)[i]? = some row := ⟨_, List.getElem?_eq_getElem (by omega)⟩
        obtain ⟨a, hxa, na, ha⟩ := hrw.get (i := i) (r := ordI row) (by rw [List.getElem?_map, hrow] <;> rfl)
        cases hx.symm.trans hxa
        obtain ⟨hrl, hrm⟩ := choices_mem t (List.mem_of_getElem? hrow)
        walk_at "rl"
        refine ⟨by decide, ?_⟩
        have e30 := k0
        intro p4 n4; generalize hG4 : upd _ p4 _ = G4; have x4 := upd_ex hG4 n4; have f4 := upd_at hG4; clear hG4; have e4 := e30.trans x4
        have ha4 : G4 a = some (.lst ((ordI row).map V.int)) := (k0.trans x4) _ _ ha
        have hp4 : G4 p3 = some (.lst ys) := x4 _ _ hp3
        have gen : ∀ (lo : Int), lo = ((if row = [] then 0 else row.getLastD 0 + 1 : Nat) : Int) → ∀ Q2 : VK, (∀ v ws H1, G4 v = none → Ex G4 H1 → H1 v = some (.lst ws) → RowsF G4 H1 ws ((laterM m row).map ordI) → Q2 (.ref v) H1) →
            WLc (Itr lo ((m : Int) - lo).toNat) (gName 7) tYes (tOp rCat (tVar 5) (tLst (tCons (tVar 7) tNil))) [7] [some (.int (m : Nat)), some (.int (k : Nat)), some (.ref r), some (.int (t : Nat)), some (.ref p3), some (.ref a), some (.int lo), none] G4 Q2 := fun lo hlo Q2 q2 => by
          generalize hb : (if row = [] then 0 else row.getLastD 0 + 1 : Nat) = b at hlo
          subst hlo
          rw [show ((m : Int) - (b : Int)).toNat = m - b from by omega]
          refine wl_rowsI (r := fun i => ordI (row ++ [b + i])) (by omega) (fun _ => rfl) (fun c H1 hc x1 => ?_) (fun v ws H1 nv x1 hv hw => q2 v ws H1 nv x1 hv ?_)
          · intro K1 k1 Q3 q3
            walk_at "rd"
            refine ⟨sz_of (by simp), ?_⟩
            intro u nu
            refine ⟨_, (k1.trans (Ex.new nu)) _ _ (x1 _ _ ha4), _, upd_same, ?_, fun u2 nu2 => ?_⟩
            · rw [len_ordI]
              exact sz_of (by simp; omega)
            · refine q3 u2 _ (fresh_back (Ex.new nu) nu2) ((Ex.new nu).trans (Ex.new nu2)) ?_
              rw [upd_same]
              unfold ordI
              rw [List.map_append, List.map_append]
              rfl
          · unfold laterM
            rw [hb, List.map_map]
            exact hw
        have fin : ∀ v ws H1, G4 v = none → Ex G4 H1 → H1 v = some (.lst ws) → RowsF G4 H1 ws ((laterM m row).map ordI) → ys.length + ws.length ≤ sizeLine ∧ Ex H' (upd H1 p3 (.lst (ys ++ ws))) ∧ RowsF G3 (upd H1 p3 (.lst (ys ++ ws))) (ys ++ ws) ((((choicesM m t).take (i + 1)).flatMap (laterM m)).map ordI) := fun v ws H1 nv x1 hv hw => by
          have h59 := rlen t (by omega)
          refine ⟨?_, ex_mut (e4.trans x1) n3, RowsF.upd hB3 ?_⟩
          · have h1 := hys.len
            have h2 := hw.len
            rw [List.length_map] at h1 h2
            have h3 := flat_later m ((choicesM m t).take i)
            have h4 := later_len m row
            rw [List.length_take] at h3
            have h5 : min i (choicesM m t).length * m ≤ 59049 * 9 := Nat.mul_le_mul (by omega) hm
            have h6 : (600000 : Nat) ≤ sizeLine := by decide
            omega
          · have ht2 : (choicesM m t).take (i + 1) = (choicesM m t).take i ++ [row] := by rw [List.take_add_one, hrow] <;> rfl
            rw [ht2, List.flatMap_append, List.map_append]
            refine RowsF.append ?_ (hys.mono (x4.trans x1))
            rw [List.flatMap_cons, List.flatMap_nil, List.append_nil]
            refine hw.base fun b hb => ?_
            by_cases hbp : b = p3
            · rw [hbp, hp4] at hb
              cases hb
            · cases h3b : G3 b with
              | none => rfl
              | some o =>
                exfalso
                rw [g3 b hbp] at h3b
                rw [(k0.trans x4) _ _ h3b] at hb
                cases hb
        refine ne_ints (ms := []) (.inl (.inl ha4)) (.inl (.inl f4)) ?_
        refine ⟨_, rfl, ?_⟩
        by_cases hr0 : row = []
        · rw [decide_eq_true (p := ordI row = []) (by rw [hr0] <;> rfl)]
          refine iteF ⟨ty_lst (.inl (.inl hp4)), 0, m, ⟨rfl, rfl⟩, by omega, ?_⟩
          refine gen 0 (by rw [if_pos hr0] <;> rfl) _ fun v ws H1 nv x1 hv hw => ?_
          obtain ⟨h1, h2, h3⟩ := fin v ws H1 nv x1 hv hw
          exact ⟨v, rfl, ys, x1 _ _ hp4, ws, hv, h1, _, _, _, ⟨rfl, rfl⟩, h2, upd_same, h3⟩
        · rw [decide_eq_false (p := ordI row = []) (by unfold ordI; simpa using hr0)]
          have hsp : row = row.dropLast ++ [row.getLastD 0] := by
            cases row with
            | nil => exact absurd rfl hr0
            | cons b row => exact (List.dropLast_concat_getLast (List.cons_ne_nil b row)).symm
          have hlast : atI ((ordI row).map V.int) (-1) = some (.int (row.getLastD 0 : Nat)) := by
            rw [hsp]
            unfold ordI
            rw [List.map_append, List.map_append]
            have h1 : (row.dropLast ++ [row.getLastD 0]).getLastD 0 = row.getLastD 0 := by rw [← hsp]
            rw [h1]
            exact atI_last _ _
          have hlm : row.getLastD 0 < m := hrm _ (by rw [hsp]; simp)
          refine iteT ⟨_, .inl (.inl ha4), _, hlast, _, rfl, ty_lst (.inl (.inl hp4)), _, _, ⟨rfl, rfl⟩, by omega, ?_⟩
          refine gen _ (by rw [if_neg hr0]; omega) _ fun v ws H1 nv x1 hv hw => ?_
          obtain ⟨h1, h2, h3⟩ := fin v ws H1 nv x1 hv hw
          exact ⟨v, rfl, ys, x1 _ _ hp4, ws, hv, h1, _, _, _, ⟨rfl, rfl⟩, h2, upd_same, h3⟩
      · obtain ⟨ys, z5, z6, rfl, k0, hp3, hys⟩ := hP
        dsimp only
        walk_at "rd"
        refine ⟨p3, ys, _, _, _, _, ⟨rfl, rfl, rfl, rfl, rfl⟩, e0.trans k0, fresh_back e0 n3, hp3, ?_⟩
        have hlen := hrw.len
        rw [List.length_map] at hlen
        rw [hlen, List.take_length] at hys
        exact hys.base fun a ha => fresh_back (e0.trans x3) ha
    · obtain ⟨r, xs, z3, z4, z5, z6, rfl, e0, nr, hr, hrw⟩ := hP
      dsimp only
      walk_at "rd"
      exact q r xs H' nr e0 hr hrw

def sp_is_among (K : PySem.W.Frag) : Sp := fun vs H Q _ => ∃ x lo hi, vs = [x, .int lo, .int hi] ∧ El K H x ∧ Q (.bl (amg x lo hi)) H
theorem ok_is_among (T : Txt K mg) (h_is_whole : Has P w K mg base 1 "is_whole" ["thing"] (sp_is_whole K)) : Has P w K mg base 2 "is_among" ["thing", "least", "most"] (sp_is_among K) := by
  refine DefAt.has T.d_is_among sc_is_among (fun vs H Q E h => ?_) (fun f cdv A outer s H vs Q E hr h => ⟨_, (pss_one (ps_ret (pe_and (pe_has h_is_whole (hr.mono (by decide)) rfl passB (pa_cons (pv 0) pa_nil)) (pe_one (pe_chain op_le op_le (pv 1) (pv 0) (pv 2)))))), ?_⟩)
  · obtain ⟨x, lo, hi, rfl, _⟩ := h
    rfl
  · obtain ⟨x, lo, hi, rfl, ⟨t, hk, hi'⟩, q⟩ := h
    simp only [L2.start, N_is_among, List.map_cons, List.map_nil, List.length_cons, List.length_nil, List.replicate_succ, List.replicate_zero, Nat.reduceAdd, Nat.reduceSub, List.cons_append, List.nil_append]
    walk_at "rd"
    refine ⟨x, t, rfl, hk, _, rfl, ?_⟩
    rw [hi']
    cases x with
    | int i =>
      refine iteT ?_
      walk_at "rd"
      unfold amg at q
      refine ite2 (fun h1 => ?_) (fun h1 => ?_)
      · have q' : Q (.bl (decide (lo ≤ i) && decide (i ≤ hi))) H := q
        rw [decide_eq_true h1] at q'
        exact q'
      · have q' : Q (.bl (decide (lo ≤ i) && decide (i ≤ hi))) H := q
        rw [decide_eq_false h1] at q'
        exact q'
    | _ => exact iteF q

def sp_names_of (K : PySem.W.Frag) : Sp := fun vs H Q E => ∃ x, vs = [x] ∧ ((∃ n ns, IsTab K H x n ns ∧ ∀ H', Ex H H' → Q (.int (n : Nat)) H') ∨ (NoTab K H x ∧ ∀ H', Ex H H' → E (.ref (He.ga K "BadTable")) none H'))
theorem ok_names_of (T : Txt K mg) (h_is_whole : Has P w K mg base 1 "is_whole" ["thing"] (sp_is_whole K)) : Has P w K mg base 2 "names_of" ["table"] (sp_names_of K) := by
  refine DefAt.has T.d_names_of sc_names_of (fun vs H Q E h => ?_) (fun f cdv A outer s H vs Q E hr h => ⟨_, (pss_cons (ps_if (PW.pt (pw_or (pt_not (pt_val (pe_callB (id := "isinstance") (k_isK K) (by rfl) T.n_isinstance (by decide +kernel) (pa_cons (pv 0) (pa_cons (pe_ty "list" (by rfl) T.n_list (by decide +kernel)) pa_nil))))) (pw_or1 (pt_not (pt_val (pe_callB (id := "all") (k_all K rfl) (by rfl) T.n_all (by decide +kernel) (pa_cons (pe_lc (own := [("number", 1)]) (g := gName 1) rfl sc_names_of.nd (k_pil K (pv 0)) (blkOk_by (own := [("number", 1)]) (N := N_names_of) (sc := defScope s_names_of) (by decide +kernel)) (fun _ _ _ _ _ => (pg_name (i := 1) sc_names_of.nd rfl (Or.inl rfl))) (fun _ _ _ _ _ => pts_nil) (fun _ _ _ _ _ => (pe_has h_is_whole (hr.mono (by decide)) rfl passL (pa_cons (pv 1) pa_nil)))) pa_nil)))))))
      (pss_one (k_rz K rfl takesB T.c_BadTable rfl)) pss_nil)
      (pss_cons (ps_for (passes_of rfl) rfl (pi_range1 rfl T.n_range (pa_cons (pe_op op_add (pe_kint T.k_MOST_NAMES rfl) pe_int) pa_nil)) (pg_name (i := 2) sc_names_of.nd rfl (Or.inl rfl))
      (pss_one (ps_if (pt_cmpR op_eq (pe_callB (id := "len") (k_len K) (by rfl) T.n_len (by decide +kernel) (pa_cons (pv 0) pa_nil)) (pe_op op_sh pe_int (pv 2)) (nomark _))
      (pss_one (ps_ret (pv 2))) pss_nil)))
      (pss_one (k_rz K rfl takesB T.c_BadTable rfl)))), ?_⟩)
  · obtain ⟨x, rfl, _⟩ := h
    rfl
  · obtain ⟨x, rfl, h⟩ := h
    simp only [L2.start, N_names_of, List.map_cons, List.map_nil, List.length_cons, List.length_nil, List.replicate_succ, List.replicate_zero, Nat.reduceAdd, Nat.reduceSub, List.cons_append, List.nil_append]
    walk_at "rd"
    have main : (∃ t, Kd K H x t ∧ t ≠ .lst ∧ ∀ H', Ex H H' → E (.ref (He.ga K "BadTable")) none H') ∨
        ∃ a xs, x = .ref a ∧ SqL K H a xs ∧ xs.length ≤ 40000 ∧ (∀ y ∈ xs, El K H y) ∧ (xs.all isI = true → (∀ n, n ≤ 10 → xs.length ≠ 2 ^ n) → ∀ H', Ex H H' → E (.ref (He.ga K "BadTable")) none H') ∧
          (xs.all isI = false → ∀ H', Ex H H' → E (.ref (He.ga K "BadTable")) none H') ∧ ∀ n, n ≤ 10 → xs.all isI = true → xs.length = 2 ^ n → ∀ H', Ex H H' → Q (.int (n : Nat)) H' := by
      rcases h with ⟨n, ns, ⟨a, rfl, hA, hn, hl⟩, q⟩ | ⟨⟨t, k, ht⟩ | ⟨a, xs, rfl, hA, hz, hE, hb⟩, q⟩
      · have hall : (ns.map V.int).all isI = true := by simp [List.all_map, isI]
        have hl2 : (ns.map V.int).length = 2 ^ n := by rw [List.length_map, hl]
        refine .inr ⟨a, _, rfl, hA, ?_, ?_, fun _ h2 => ?_, fun h2 => ?_, fun m hm _ h2 => ?_⟩
        · have := pow_le hn
          omega
        · intro y hy
          obtain ⟨i, _, rfl⟩ := List.mem_map.mp hy
          exact .int i
        · exact absurd hl2 (h2 n hn)
        · rw [hall] at h2
          cases h2
        · have := pow_inj (hl2.symm.trans h2)
          subst this
          exact q
      · exact .inl ⟨t, k, ht, q⟩
      · refine .inr ⟨a, xs, rfl, hA, hz, hE, fun _ _ => q, fun _ => q, fun n hn h1 h2 => ?_⟩
        rcases hb with hb | ⟨_, hb⟩
        · rw [hb] at h1
          cases h1
        · exact absurd h2 (hb n hn)
    rcases main with ⟨t, k, ht, q⟩ | ⟨a, xs, rfl, hA, hz, hE, q1, q2, q3⟩
    · refine ⟨t, k, ?_⟩
      have e : t.isa .lst = false := by cases t <;> first | rfl | exact absurd rfl ht
      rw [e]
      exact q H (Ex.refl H)
    · refine ⟨.lst, .lst hA, ?_⟩
      refine iteF ?_
      refine lc_vals (K := K) (fun _ => true) (fun y => .bl (isI y)) (fun H1 _ _ q => ⟨_, rfl, q H1 (Ex.refl _)⟩) hA hz (fun _ => rfl) (fun _ _ _ _ => yes_ev) (fun y hy H1 e1 _ H2 e2 Q2 q2 => ?_) H (Ex.refl H) _ (fun p H2 np e2 h2 => ?_)
      · obtain ⟨t, k, hi⟩ := (hE y hy).mono (e1.trans e2)
        exact ⟨y, rfl, y, t, rfl, k, by rw [hi]; exact q2 _ (Ex.refl _)⟩
      · have eb : ((xs.filter fun _ => true).map fun y => V.bl (isI y)) = (xs.map isI).map V.bl := by
          rw [List.filter_eq_self.mpr (fun _ _ => rfl), List.map_map]
          rfl
        rw [eb] at h2
        refine ⟨p, rfl, _, .inl (.inl h2), ?_⟩
        have ea : (xs.map isI).all id = xs.all isI := by rw [List.all_map]; rfl
        rw [ea]
        cases hall : xs.all isI with
        | false => exact q2 hall H2 e2
        | true =>
          refine s_forR1 (n := 11) (by walk_at "eva") (by decide) (fun i σ H' => Ex H H' ∧ (∃ z, σ = [some (.ref a), none, z]) ∧ ∀ m, m < i → xs.length ≠ 2 ^ m) (fun H1 e1 => ⟨e2.trans e1, ⟨_, rfl⟩, fun m hm => absurd hm (Nat.not_lt_zero m)⟩) (fun i σ' H' hi hP => ?_) (fun σ' H' hP => ?_)
          · obtain ⟨e3, ⟨z, rfl⟩, hm⟩ := hP
            walk_at "rd"
            refine ⟨_, .inl (ex_l e3 hA), ⟨by omega, by omega, by decide⟩, rfl, ?_⟩
            refine ite2 (fun h => ?_) (fun h => ?_)
            · exact q3 i (by omega) hall (by omega) H' e3
            · refine ⟨e3, fun m hm2 => ?_⟩
              by_cases hmi : m = i
              · subst hmi
                omega
              · exact hm m (by omega)
          · obtain ⟨e3, _, hm⟩ := hP
            exact q1 hall (fun n hn => hm n (by show n < 11; omega)) H' e3

def sp_law_mixed (K : PySem.W.Frag) : Sp := fun vs H Q _ => ∃ a ns k, vs = [.ref a, .int (k : Nat)] ∧ SqL K H a (ns.map V.int) ∧ k < 1000 ∧ RetV (.int (mixedM ns k)) H Q
theorem ok_law_mixed (T : Txt K mg) (h_law_cell : Has P w K mg base 1 "_law_cell" ["_law_script", "_law_k"] (sp_law_cell K)) : Has P w K mg base 2 "_law_mixed" ["_law_script", "_law_k"] (sp_law_mixed K) := by
  refine DefAt.has T.d_law_mixed sc_law_mixed (fun vs H Q E h => ?_) (fun f cdv A outer s H vs Q E hr h => ⟨_, (pss_cons (ps_set (i := 2) sc_law_mixed.nd rfl (Or.inl rfl) (pe_op op_add (pe_op op_add (pe_has h_law_cell (hr.mono (by decide)) rfl passB (pa_cons (pv 0) (pa_cons (pe_op op_mod (pv 1) (pe_callB (id := "max") (call_max2 rfl) (by rfl) T.n_max (by decide +kernel) (pa_cons pe_int (pa_cons (pe_callB (id := "len") (k_len K) (by rfl) T.n_len (by decide +kernel) (pa_cons (pv 0) pa_nil)) pa_nil)))) pa_nil))) (pe_op op_mu (pe_op op_mu pe_int (pv 1)) (pv 1))) pe_int))
      (pss_one (ps_ret (pe_op op_fdiv (pe_op op_mod (pe_op op_mu (pe_op op_mod (pe_op op_mu (pv 2) (pv 2)) pe_int) (pe_op op_add pe_int (pe_op op_mu pe_int (pv 1)))) pe_int) pe_int)))), ?_⟩)
  · obtain ⟨a, ns, k, rfl, _⟩ := h
    rfl
  · obtain ⟨a, ns, k, rfl, hA, hk, q⟩ := h
    simp only [L2.start, N_law_mixed, List.map_cons, List.map_nil, List.length_cons, List.length_nil, List.replicate_succ, List.replicate_zero, Nat.reduceAdd, Nat.reduceSub, List.cons_append, List.nil_append]
    walk_at "rd"
    have em : (if ((ns.map V.int).length : Int) > 1 then ((ns.map V.int).length : Int) else 1) = ((max 1 ns.length : Nat) : Int) := by
      rw [List.length_map]
      split <;> omega
    refine ⟨_, .inl hA, _, _, ⟨rfl, rfl⟩, by rw [em]; omega, a, ns, k % max 1 ns.length, by rw [em]; rfl, hA, fun H1 e1 => ?_⟩
    have h0 := cellM_nn ns (k % max 1 ns.length)
    have h1 := cellM_lt ns (k % max 1 ns.length)
    have hkk : (0 : Int) ≤ 7919 * (k : Int) * (k : Int) ∧ 7919 * (k : Int) * (k : Int) ≤ 7919 * 1000 * 1000 := by
      have hh : k * k ≤ 1000 * 1000 := Nat.mul_le_mul (by omega) (by omega)
      rw [Int.mul_assoc, ← Int.natCast_mul]
      omega
    have hb : (cellM ns (k % max 1 ns.length) + 7919 * (k : Int) * (k : Int) + 104729).natAbs < 2 ^ 300 := by omega
    refine ⟨cmu_l (by decide), cmu_r (by omega), _, rfl, cmu_w hb hb (by decide) (by decide) (by decide), by decide, cmu_l (by decide), cmu_r (by omega), by decide, ⟨by decide, by decide⟩, ?_⟩
    exact q H1 e1

def sp_law_first (K : PySem.W.Frag) : Sp := fun vs H Q _ => ∃ (y : V) (n : Nat) (l : List Nat), vs = [.int (n : Nat), y] ∧ n ≤ 5 ∧ l.length ≤ 9 ∧ IsSets K H y n l ∧ (∀ k, fewM n l = some k → RetL ((ordI (greedM n l k 0)).map V.int) H Q) ∧ (fewM n l = none → ∀ H', Ex H H' → Q .non H')
theorem ok_law_first (T : Txt K mg) (h_law_choices : Has P w K mg base 1 "_law_choices" ["_law_size", "_law_many"] (sp_law_choices K)) (h_law_together : Has P w K mg base 1 "_law_together" ["_law_sets_here", "_law_places"] (sp_law_together K)) : Has P w K mg base 2 "_law_first" ["_law_many", "_law_sets_here"] (sp_law_first K) := by
  refine DefAt.has T.d_law_first sc_law_first (fun vs H Q E h => ?_) (fun f cdv A outer s H vs Q E hr h => ⟨_, (pss_cons (ps_for (passes_of rfl) rfl (pi_range1 rfl T.n_range (pa_cons (pe_op op_add (pv 0) pe_int) pa_nil)) (pg_name (i := 2) sc_law_first.nd rfl (Or.inl rfl))
      (pss_one (ps_for (passes_of rfl) rfl (k_pil K (pe_has h_law_choices (hr.mono (by decide)) rfl passB (pa_cons (pe_callB (id := "len") (k_len K) (by rfl) T.n_len (by decide +kernel) (pa_cons (pv 1) pa_nil)) (pa_cons (pv 2) pa_nil)))) (pg_name (i := 3) sc_law_first.nd rfl (Or.inl rfl))
      (pss_one (ps_if (pt_cmpR op_eq (pe_has h_law_together (hr.mono (by decide)) rfl passB (pa_cons (pv 1) (pa_cons (pv 3) pa_nil))) (pe_op op_sub (pe_op op_sh pe_int (pv 0)) pe_int) (nomark _))
      (pss_one (ps_ret (pv 3))) pss_nil)))))
      (pss_one (ps_ret pe_non))), ?_⟩)
  · obtain ⟨y, n, l, rfl, _⟩ := h
    rfl
  · obtain ⟨y, n, l, rfl, hn, hl9, ⟨a, rfl, hA, _, hlt⟩, q1, q2⟩ := h
    simp only [L2.start, N_law_first, List.map_cons, List.map_nil, List.length_cons, List.length_nil, List.replicate_succ, List.replicate_zero, Nat.reduceAdd, Nat.reduceSub, List.cons_append, List.nil_append]
    walk_at "rl"
    refine ⟨by omega, by omega, ?_⟩
    rw [show ((n : Int) + 1).toNat = n + 1 from by omega]
    refine w_rng0 (n := n + 1) (fun i σ H' => ∃ z2 z3, σ = [some (.int (n : Nat)), some (.ref a), z2, z3] ∧ Ex H H' ∧ ∀ j, j < i → (choicesM l.length j).find? (coversB n l) = none)
      ⟨_, _, rfl, Ex.refl _, fun j h => absurd h (Nat.not_lt_zero j)⟩ (fun i σ H' hi hP => ?_) (fun σ H' hP => ?_)
    · obtain ⟨z2, z3, rfl, e0, hj⟩ := hP
      walk_at "rl"
      refine ⟨_, .inl (ex_l e0 hA), ?_⟩
      rw [show (((ordI l).map V.int).length : Int) = (l.length : Int) from by rw [len_ordI]]
      refine ⟨l.length, i, rfl, hl9, by omega, fun p xs H1 np x1 hp hrw => ?_⟩
      have hlen := hrw.len
      rw [List.length_map] at hlen
      refine ⟨p, rfl, ⟨_, .inl (.inl hp)⟩, ?_⟩
      refine w_list xs (fun c σ H'' => ∃ z3, σ = [some (.int (n : Nat)), some (.ref a), some (.int (i : Nat)), z3] ∧ Ex H1 H'' ∧ ∀ j r, j < c → (choicesM l.length i)[j]? = some r → coversB n l r = false)
        ⟨_, rfl, Ex.refl _, fun j r h => absurd h (Nat.not_lt_zero j)⟩ (fun c σ H'' _ hP => ?_) (fun c x σ H'' hx hP => ?_) (fun σ H'' hP => ?_)
      · obtain ⟨_, _, k0, _⟩ := hP
        exact .inl (.inl (k0 _ _ hp))
      · obtain ⟨z3, rfl, k0, hc⟩ := hP
        have hxl := (List.getElem?_eq_some_iff.mp hx).1
        obtain ⟨row, hrow⟩ : ∃ row, (choicesM l.length i)[c]? = some row := ⟨_, List.getElem?_eq_getElem (by omega)⟩
        obtain ⟨b, hxb, nb, hb⟩ := hrw.get (i := c) (r := ordI row) (by rw [List.getElem?_map, hrow] <;> rfl)
        cases hx.symm.trans hxb
        obtain ⟨hrl, hrm⟩ := choices_mem i (List.mem_of_getElem? hrow)
        walk_at "rd"
        have e2 := e0.trans (x1.trans k0)
        refine ⟨a, b, l, row, rfl, ex_l e2 hA, .inl (.inl (k0 _ _ hb)), hrm, fun H2 x2 => ?_⟩
        refine ⟨cpow1 (by omega), rfl, ?_⟩
        have hpos := Nat.two_pow_pos n
        have hb2 := x2 _ _ (k0 _ _ hb)
        by_cases hfull : togM l 0 row = 2 ^ n - 1
        · rw [if_pos (congrArg V.int (by rw [hfull, Int.natCast_sub hpos] <;> rfl))]
          have hcl := (List.getElem?_eq_some_iff.mp hrow)
          have hfind : (choicesM l.length i).find? (coversB n l) = some row := by
            rw [List.find?_eq_some_iff_getElem]
            refine ⟨decide_eq_true hfull, c, hcl.1, hcl.2, fun j hjc => ?_⟩
            rw [hc j _ hjc (List.getElem?_eq_getElem (by omega))]
            rfl
          cases hf : fewM n l with
          | none =>
            rw [first_none hn hlt hf i (by omega)] at hfind
            cases hfind
          | some k =>
            obtain ⟨h1, h2⟩ := first_some hn hlt hf
            have hik : i = k := by
              rcases Nat.lt_trichotomy i k with h | h | h
              · rw [h2 i h] at hfind
                cases hfind
              · exact h
              · rw [hj k h] at h1
                cases h1
            subst hik
            cases hfind.symm.trans h1
            exact q1 i hf b H2 (fresh_back e0 nb) (e2.trans x2) hb2
        · rw [if_neg (fun z => hfull (by have := V.int.inj z; generalize 2 ^ n = N at *; omega))]
          refine ⟨k0.trans x2, fun j r hjc hr => ?_⟩
          by_cases e : j = c
          · rw [e] at hr
            cases hrow.symm.trans hr
            exact decide_eq_false hfull
          · exact hc j r (by omega) hr
      · obtain ⟨z3, rfl, k0, hc⟩ := hP
        dsimp only
        walk_at "rd"
        refine ⟨_, _, ⟨rfl, rfl⟩, e0.trans (x1.trans k0), fun j hji => ?_⟩
        by_cases e : j = i
        · rw [e, List.find?_eq_none]
          intro r hr hcr
          obtain ⟨c, hcl, rfl⟩ := List.getElem_of_mem hr
          rw [hc c _ (by omega) (List.getElem?_eq_getElem hcl)] at hcr
          cases hcr
        · exact hj j (by omega)
    · obtain ⟨z2, z3, rfl, e0, hj⟩ := hP
      dsimp only
      walk_at "rd"
      refine q2 ?_ H' e0
      cases hf : fewM n l with
      | none => rfl
      | some k =>
        have h1 := (first_some hn hlt hf).1
        have h2 := (few_some hn hlt hf).1
        rw [hj k (by omega)] at h1
        cases h1

def sp_need_count (K : PySem.W.Frag) : Sp := fun vs H Q E => ∃ x, vs = [x] ∧ El K H x ∧ (amg x 0 10 = true → Q .non H) ∧ (amg x 0 10 = false → E (.ref (He.ga K "BadCount")) none H)
theorem ok_need_count (T : Txt K mg) (h_is_among : Has P w K mg base 2 "is_among" ["thing", "least", "most"] (sp_is_among K)) : Has P w K mg base 3 "need_count" ["many"] (sp_need_count K) := by
  refine DefAt.has T.d_need_count sc_need_count (fun vs H Q E h => ?_) (fun f cdv A outer s H vs Q E hr h => ⟨_, (pss_one (ps_if (pt_not (pt_val (pe_has h_is_among (hr.mono (by decide)) rfl passB (pa_cons (pv 0) (pa_cons pe_int (pa_cons (pe_kint T.k_MOST_NAMES rfl) pa_nil))))))
      (pss_one (k_rz K rfl takesB T.c_BadCount rfl)) pss_nil)), ?_⟩)
  · obtain ⟨x, rfl, _⟩ := h
    rfl
  · obtain ⟨x, rfl, hE, q1, q2⟩ := h
    simp only [L2.start, N_need_count, List.map_cons, List.map_nil, List.length_cons, List.length_nil, List.replicate_succ, List.replicate_zero, Nat.reduceAdd, Nat.reduceSub, List.cons_append, List.nil_append]
    walk_at "rd"
    refine ⟨x, 0, 10, rfl, hE, _, rfl, ?_⟩
    cases hb : amg x 0 10 with
    | true => exact iteF (q1 hb)
    | false => exact iteT (q2 hb)

def sp_need_set (K : PySem.W.Frag) : Sp := fun vs H Q E => ∃ x n, vs = [x, .int (n : Nat)] ∧ n ≤ 10 ∧ El K H x ∧ (amg x 0 (2 ^ n - 1) = true → Q .non H) ∧ (amg x 0 (2 ^ n - 1) = false → E (.ref (He.ga K "BadSet")) none H)
theorem ok_need_set (T : Txt K mg) (h_is_among : Has P w K mg base 2 "is_among" ["thing", "least", "most"] (sp_is_among K)) : Has P w K mg base 3 "need_set" ["one", "many"] (sp_need_set K) := by
  refine DefAt.has T.d_need_set sc_need_set (fun vs H Q E h => ?_) (fun f cdv A outer s H vs Q E hr h => ⟨_, (pss_one (ps_if (pt_not (pt_val (pe_has h_is_among (hr.mono (by decide)) rfl passB (pa_cons (pv 0) (pa_cons pe_int (pa_cons (pe_op op_sub (pe_op op_sh pe_int (pv 1)) pe_int) pa_nil))))))
      (pss_one (k_rz K rfl takesB T.c_BadSet rfl)) pss_nil)), ?_⟩)
  · obtain ⟨x, n, rfl, _⟩ := h
    rfl
  · obtain ⟨x, n, rfl, hn, hE, q1, q2⟩ := h
    simp only [L2.start, N_need_set, List.map_cons, List.map_nil, List.length_cons, List.length_nil, List.replicate_succ, List.replicate_zero, Nat.reduceAdd, Nat.reduceSub, List.cons_append, List.nil_append]
    walk_at "rd"
    refine ⟨cpow1 (by omega), x, 0, _, rfl, hE, _, rfl, ?_⟩
    have e : ((2 ^ n : Nat) : Int) - 1 = 2 ^ n - 1 := by rw [← pow2c]
    rw [e]
    cases hb : amg x 0 (2 ^ n - 1) with
    | true => exact iteF (q1 hb)
    | false => exact iteT (q2 hb)

def sp_spread (K : PySem.W.Frag) : Sp := fun vs H Q E => ∃ x b up, vs = [x, .int b, .bl up] ∧ -(2 ^ 64) < b ∧ b < 2 ^ 64 ∧
  ((∃ n ns, IsTab K H x n ns ∧ RetL ((spreadM n b up ns).map V.int) H Q) ∨ (NoTab K H x ∧ ∀ H', Ex H H' → E (.ref (He.ga K "BadTable")) none H'))
theorem ok_spread (T : Txt K mg) (h_names_of : Has P w K mg base 2 "names_of" ["table"] (sp_names_of K)) : Has P w K mg base 3 "spread" ["table", "by", "is_up"] (sp_spread K) := by
  refine DefAt.has T.d_spread sc_spread (fun vs H Q E h => ?_) (fun f cdv A outer s H vs Q E hr h => ⟨_, (pss_cons (ps_set (i := 3) sc_spread.nd rfl (Or.inl rfl) (pe_has h_names_of (hr.mono (by decide)) rfl passB (pa_cons (pv 0) pa_nil)))
      (pss_cons (ps_set (i := 4) sc_spread.nd rfl (Or.inl rfl) (pe_callTy (T := "list") (k_list K) (by rfl) T.n_list (by decide +kernel) (pa_cons (pv 0) pa_nil)))
      (pss_cons (ps_for (passes_of rfl) rfl (pi_range1 rfl T.n_range (pa_cons (pv 3) pa_nil)) (pg_name (i := 5) sc_spread.nd rfl (Or.inl rfl))
      (pss_cons (ps_set (i := 6) sc_spread.nd rfl (Or.inl rfl) (pe_op op_sh pe_int (pv 5)))
      (pss_one (ps_for (passes_of rfl) rfl (pi_range1 rfl T.n_range (pa_cons (pe_callB (id := "len") (k_len K) (by rfl) T.n_len (by decide +kernel) (pa_cons (pv 4) pa_nil)) pa_nil)) (pg_name (i := 7) sc_spread.nd rfl (Or.inl rfl))
      (pss_one (ps_if (pt_cmpR op_eq (pe_op op_and (pv 7) (pv 6)) pe_int (nomark _))
      (pss_one (ps_if (pt_val (pv 2))
      (pss_one (ps_asg (pe_op op_add (pe_ix (k_ixl K) (pv 4) (pe_op op_or (pv 7) (pv 6)) (fun _ _ => rfl)) (pe_op op_mu (pv 1) (pe_ix (k_ixl K) (pv 4) (pv 7) (fun _ _ => rfl)))) (pg_sub (pv 4) (pe_op op_or (pv 7) (pv 6)) set_list))) (pss_one (ps_asg (pe_op op_add (pe_ix (k_ixl K) (pv 4) (pv 7) (fun _ _ => rfl)) (pe_op op_mu (pv 1) (pe_ix (k_ixl K) (pv 4) (pe_op op_or (pv 7) (pv 6)) (fun _ _ => rfl)))) (pg_sub (pv 4) (pv 7) set_list))))) pss_nil))))))
      (pss_one (ps_ret (pv 4)))))), ?_⟩)
  · obtain ⟨x, b, up, rfl, _⟩ := h
    rfl
  · obtain ⟨x, b, up, rfl, b1, b2, h⟩ := h
    simp only [L2.start, N_spread, List.map_cons, List.map_nil, List.length_cons, List.length_nil, List.replicate_succ, List.replicate_zero, Nat.reduceAdd, Nat.reduceSub, List.cons_append, List.nil_append]
    walk_at "rd"
    refine ⟨x, rfl, ?_⟩
    rcases h with ⟨n, ns, hT, q⟩ | ⟨hN, q⟩
    · refine .inl ⟨n, ns, hT, fun H1 e1 => ?_⟩
      obtain ⟨a, rfl, hA, hn, hl⟩ := hT
      walk_at "rd"
      have hp := pow_le hn
      refine ⟨_, .inl (ex_l e1 hA), fun p np => ?_⟩
      have nS : H p = none := fresh_back e1 np
      refine s_forR1 (n := n) (by walk_at "eva") (by omega) (fun i σ H' => ∃ z5 z6 z7, σ = [some (.ref a), some (.int b), some (.bl up), some (.int n), some (.ref p), z5, z6, z7] ∧ Ex H H' ∧ H' p = some (.lst (((List.range i).foldl (spName ns.length b up) ns).map V.int)))
        (fun H2 e2 => ⟨_, _, _, rfl, (e1.trans (Ex.new np)).trans e2, e2 p _ upd_same⟩) (fun i σ' H' hi hP => ?_) (fun σ' H' hP => ?_)
      · obtain ⟨z5, z6, z7, rfl, e2, h2⟩ := hP
        generalize hL : (List.range i).foldl (spName ns.length b up) ns = L at h2
        have lL : L.length = 2 ^ n := by rw [← hL, foldl_length (spName_length _ _ _), hl]
        walk_at "rd"
        refine ⟨cpow1 (by omega), ?_⟩
        have hb : 2 ^ i < 2 ^ n := Nat.pow_lt_pow_right (by decide) (by omega)
        refine s_forR1 (n := (ns.length : Nat)) (fun H3 e3 Q1 q1 => ?_) (by omega) (fun j σ H'' => ∃ z7, σ = [some (.ref a), some (.int b), some (.bl up), some (.int n), some (.ref p), some (.int i), some (.int ((2 ^ i : Nat) : Int)), z7] ∧ Ex H H'' ∧ H'' p = some (.lst (((List.range j).foldl (spStep (2 ^ i) b up) L).map V.int)))
          (fun H3 e3 => ⟨_, rfl, e2.trans e3, e3 p _ h2⟩) (fun j σ'' H'' hj hP => ?_) (fun σ'' H'' hP => ?_)
        · walk_at "rd"
          refine ⟨_, .inl (.inl (.inl (e3 p _ h2))), ?_⟩
          rw [List.length_map, lL, ← hl]
          exact q1 _ (Ex.refl _)
        · obtain ⟨z7, rfl, e3, h3⟩ := hP
          generalize hM : (List.range j).foldl (spStep (2 ^ i) b up) L = M at h3
          have lM : M.length = 2 ^ n := by rw [← hM, foldl_length (spStep_length _ _ _), lL]
          have hj' : j < 2 ^ n := by omega
          have hor : j ||| 2 ^ i < 2 ^ n := Nat.or_lt_two_pow hj' hb
          have hq : SqL K H'' p (M.map V.int) := .inl (.inl h3)
          have fin : ∀ M', spStep (2 ^ i) b up M j = M' → Ex H (upd H'' p (.lst (M'.map V.int))) ∧ (upd H'' p (.lst (M'.map V.int))) p = some (.lst (((List.range (j + 1)).foldl (spStep (2 ^ i) b up) L).map V.int)) := fun M' e => by
            refine ⟨ex_mut e3 nS, ?_⟩
            rw [upd_same, foldl_range_succ, hM, e]
          walk_at "rd"
          refine ⟨rfl, ite2 (fun hc => ?_) (fun hc => ?_)⟩
          · have hc' : j &&& 2 ^ i = 0 := by exact_mod_cast hc
            refine ite2 (fun hup => ?_) (fun hup => ?_)
            · have f := fin _ (by unfold spStep; rw [if_pos hc', if_pos hup])
              walk_at "go"
              rw [set_int]
              exact f
            · have f := fin _ (by unfold spStep; rw [if_pos hc', if_neg hup])
              walk_at "go"
              rw [set_int]
              exact f
          · have hc' : ¬ j &&& 2 ^ i = 0 := fun z => hc (by exact_mod_cast z)
            refine ⟨e3, ?_⟩
            rw [foldl_range_succ, hM]
            unfold spStep
            rw [if_neg hc']
            exact h3
        · obtain ⟨z7, rfl, e3, h3⟩ := hP
          refine ⟨_, _, _, rfl, e3, ?_⟩
          rw [foldl_range_succ, hL]
          exact h3
      · obtain ⟨z5, z6, z7, rfl, e2, h2⟩ := hP
        walk_at "rd"
        exact q p H' nS e2 h2
    · exact .inr ⟨hN, q⟩

def sp_law_sets (K : PySem.W.Frag) : Sp := fun vs H Q _ => ∃ (a : Addr) (ns : List Int) (n m first : Nat), vs = [.ref a, .int (n : Nat), .int (m : Nat), .int (first : Nat)] ∧ SqL K H a (ns.map V.int) ∧ n ≤ 10 ∧ m ≤ 40 ∧ first ≤ 900 ∧
  ∀ l : List Nat, l.length = m → (∀ k ∈ l, k < 2 ^ n) → RetL ((ordI l).map V.int) H Q
theorem ok_law_sets (T : Txt K mg) (h_law_mixed : Has P w K mg base 2 "_law_mixed" ["_law_script", "_law_k"] (sp_law_mixed K)) : Has P w K mg base 3 "_law_sets" ["_law_script", "_law_many", "_law_size", "_law_first_here"] (sp_law_sets K) := by
  refine DefAt.has T.d_law_sets sc_law_sets (fun vs H Q E h => ?_) (fun f cdv A outer s H vs Q E hr h => ⟨_, (pss_cons (ps_set (i := 4) sc_law_sets.nd rfl (Or.inl rfl) (pe_lst pa_nil))
      (pss_cons (ps_for (passes_of rfl) rfl (pi_range1 rfl T.n_range (pa_cons (pv 2) pa_nil)) (pg_name (i := 5) sc_law_sets.nd rfl (Or.inl rfl))
      (pss_cons (ps_set (i := 6) sc_law_sets.nd rfl (Or.inl rfl) (pe_has h_law_mixed (hr.mono (by decide)) rfl passB (pa_cons (pv 0) (pa_cons (pe_op op_add (pv 3) (pv 5)) pa_nil))))
      (pss_cons (ps_set (i := 7) sc_law_sets.nd rfl (Or.inl rfl) (pe_ix (k_ixl K) (pe_lst (pa_cons (pv 6) (pa_cons (pe_op op_and (pv 6) (pe_op op_fdiv (pv 6) pe_int)) (pa_cons (pe_op op_sh pe_int (pe_op op_mod (pv 6) pe_int)) (pa_cons (pe_op op_and (pv 6) (pe_op op_fdiv (pv 6) pe_int)) pa_nil))))) (pe_op op_mod (pe_op op_fdiv (pv 6) pe_int) pe_int) (fun _ _ => rfl)))
      (pss_one (ps_expr (k_bm K PySem.F.plainAttrs_list PySem.F.slot_list_append PySem.F.type_list_append mt_append (pv 4) (pa_cons (pe_op op_mod (pv 7) (pe_op op_sh pe_int (pv 1))) pa_nil)))))))
      (pss_one (ps_ret (pv 4))))), ?_⟩)
  · obtain ⟨a, ns, n, m, first, rfl, _⟩ := h
    rfl
  · obtain ⟨a, ns, n, m, first, rfl, hA, hn, hm, hf, q⟩ := h
    simp only [L2.start, N_law_sets, List.map_cons, List.map_nil, List.length_cons, List.length_nil, List.replicate_succ, List.replicate_zero, Nat.reduceAdd, Nat.reduceSub, List.cons_append, List.nil_append]
    walk_at "rl"
    refine ⟨by decide, ?_⟩
    intro p np
    refine ⟨by omega, by omega, ?_⟩
    refine w_rng0 (n := m) (fun i σ H' => ∃ z5 z6 z7, σ = [some (.ref a), some (.int (n : Nat)), some (.int (m : Nat)), some (.int (first : Nat)), some (.ref p), z5, z6, z7] ∧ Ex H H' ∧ ∃ l : List Nat, l.length = i ∧ (∀ k ∈ l, k < 2 ^ n) ∧ H' p = some (.lst ((ordI l).map V.int)))
      ⟨_, _, _, rfl, Ex.new np, [], rfl, by simp, upd_same⟩ (fun i σ H' hi hP => ?_) (fun σ H' hP => ?_)
    · obtain ⟨z5, z6, z7, rfl, e0, l, hl, hlt, h1⟩ := hP
      walk_at "rd"
      refine ⟨a, ns, first + i, by rw [Int.natCast_add], ex_l e0 hA, by omega, fun G1 x1 => ?_⟩
      obtain ⟨N, hN⟩ : ∃ N : Nat, mixedM ns (first + i) = (N : Int) := ⟨(mixedM ns (first + i)).toNat, by have := mixedM_nn ns (first + i); omega⟩
      rw [hN]
      refine ⟨_, rfl, ⟨by decide, by decide⟩, _, rfl, _, rfl, by decide, ?_, _, rfl, ⟨by decide, by decide⟩, _, rfl, sz_of (by simp), ?_⟩
      · rw [show (N : Int) % 7 = ((N % 7 : Nat) : Int) from rfl]
        exact cpow1 (by omega)
      rw [show (N : Int) / 64 = ((N / 64 : Nat) : Int) from rfl, band_nn]
      intro p2 n2
      generalize hG2 : upd G1 p2 _ = G2
      have x2 := upd_ex hG2 n2
      have f2 := upd_at hG2
      clear hG2
      refine ⟨_, rfl, ⟨by decide, by decide⟩, by decide, _, .inl (.inl f2), ?_⟩
      have pick : ∃ j : Nat, atI [V.int (N : Nat), V.int ((N &&& N / 64 : Nat) : Int), V.int (2 ^ ((N : Int) % 7).toNat : Nat), V.int ((N &&& N / 64 : Nat) : Int)] ((N : Int) / 4096 % 4) = some (.int (j : Nat)) := by
        have h4 : N / 4096 % 4 < 4 := Nat.mod_lt _ (by decide)
        have e4 : (N : Int) / 4096 % 4 = ((N / 4096 % 4 : Nat) : Int) := by omega
        rw [e4]
        generalize N / 4096 % 4 = z at h4
        match z, h4 with
        | 0, _ => exact ⟨_, atI_nat rfl⟩
        | 1, _ => exact ⟨_, atI_nat (j := 1) rfl⟩
        | 2, _ => exact ⟨_, atI_nat (j := 2) rfl⟩
        | 3, _ => exact ⟨_, atI_nat (j := 3) rfl⟩
      obtain ⟨j, hj⟩ := pick
      have hpos := Nat.two_pow_pos n
      refine ⟨_, hj, ty_lst (.inl (.inl ((x1.trans x2) _ _ h1))), cpow1 (by omega), _, rfl, by omega, _, (x1.trans x2) _ _ h1, ?_, _, _, _, ⟨rfl, rfl, rfl⟩, ex_mut ((e0.trans x1).trans x2) np, l ++ [j % 2 ^ n], by rw [List.length_append, hl] <;> rfl, fun k hk => ?_, ?_⟩
      · rw [len_ordI]
        exact sz_lt (by omega)
      · rcases List.mem_append.mp hk with h | h
        · exact hlt k h
        · rw [List.mem_singleton.mp h]
          exact Nat.mod_lt _ hpos
      · rw [upd_same]
        unfold ordI
        rw [List.map_append, List.map_append]
        rfl
    · obtain ⟨z5, z6, z7, rfl, e0, l, hl, hlt, h1⟩ := hP
      walk_at "rd"
      exact q l hl hlt p H' np e0 h1

def sp_members (K : PySem.W.Frag) : Sp := fun vs H Q E => ∃ x, vs = [x] ∧ El K H x ∧ ((∃ s : Nat, x = .int s ∧ s < 1024 ∧ RetL ((bitsM s).map V.int) H Q) ∨ (amg x 0 1023 = false ∧ E (.ref (He.ga K "BadSet")) none H))
theorem ok_members (T : Txt K mg) (h_need_set : Has P w K mg base 3 "need_set" ["one", "many"] (sp_need_set K)) : Has P w K mg base 4 "members" ["one"] (sp_members K) := by
  refine DefAt.has T.d_members sc_members (fun vs H Q E h => ?_) (fun f cdv A outer s H vs Q E hr h => ⟨_, (pss_cons (ps_expr (pe_has h_need_set (hr.mono (by decide)) rfl passB (pa_cons (pv 0) (pa_cons (pe_kint T.k_MOST_NAMES rfl) pa_nil))))
      (pss_one (ps_ret (pe_lc (own := [("name", 1)]) (g := gName 1) rfl sc_members.nd (pi_range1 rfl T.n_range (pa_cons (pe_kint T.k_MOST_NAMES rfl) pa_nil)) (blkOk_by (own := [("name", 1)]) (N := N_members) (sc := defScope s_members) (by decide +kernel)) (fun _ _ _ _ _ => (pg_name (i := 1) sc_members.nd rfl (Or.inl rfl))) (fun _ _ _ _ _ => (pts_one (pt_cmpR op_eq (pe_op op_and (pe_op op_sr (pv 0) (pv 1)) pe_int) pe_int (nomark _)))) (fun _ _ _ _ _ => (pv 1)))))), ?_⟩)
  · obtain ⟨x, rfl, _⟩ := h
    rfl
  · obtain ⟨x, rfl, hE, h⟩ := h
    simp only [L2.start, N_members, List.map_cons, List.map_nil, List.length_cons, List.length_nil, List.replicate_succ, List.replicate_zero, Nat.reduceAdd, Nat.reduceSub, List.cons_append, List.nil_append]
    walk_at "rl"
    refine ⟨x, 10, rfl, by decide, hE, fun hb => ?_, fun hb => ?_⟩
    · rcases h with ⟨s, rfl, hs, q⟩ | ⟨hb2, _⟩
      · refine ⟨by decide, by decide, ?_⟩
        refine wl_rng (n := 10) (fun i => s.testBit i) (fun i => .int (i : Nat)) (by decide) (fun _ => rfl) (fun i H1 hi e1 H2 e2 Q2 q2 => ?_) (fun i H1 hi e1 _ H2 e2 Q2 q2 => ?_) (fun p H2 np e2 h2 => ?_)
        · walk_at "rd"
          exact ⟨by omega, rfl, q2 _ (Ex.refl _)⟩
        · walk_at "rd"
          exact q2 _ (Ex.refl _)
        · have e : ((List.range 10).filter fun i => s.testBit i).map (fun i : Nat => V.int (i : Nat)) = (bitsM s).map V.int := by
            unfold bitsM bitsN
            rw [List.map_map]
            rfl
          rw [e] at h2
          exact q p H2 np e2 h2
      · rw [show (2 : Int) ^ 10 - 1 = 1023 by decide] at hb
        rw [hb] at hb2
        cases hb2
    · rcases h with ⟨s, rfl, hs, q⟩ | ⟨_, q⟩
      · rw [amg_nat (by omega) (by omega)] at hb
        cases hb
      · exact q

def sp_below (K : PySem.W.Frag) : Sp := fun vs H Q E => ∃ x, vs = [x] ∧
  ((∃ n ns, IsTab K H x n ns ∧ RetL ((spreadM n 1 true ns).map V.int) H Q) ∨ (NoTab K H x ∧ ∀ H', Ex H H' → E (.ref (He.ga K "BadTable")) none H'))
theorem ok_below (T : Txt K mg) (h_spread : Has P w K mg base 3 "spread" ["table", "by", "is_up"] (sp_spread K)) : Has P w K mg base 4 "below" ["table"] (sp_below K) := by
  refine DefAt.has T.d_below sc_below (fun vs H Q E h => ?_) (fun f cdv A outer s H vs Q E hr h => ⟨_, (pss_one (ps_ret (pe_has h_spread (hr.mono (by decide)) rfl passB (pa_cons (pv 0) (pa_cons pe_int (pa_cons pe_bl pa_nil)))))), ?_⟩)
  · obtain ⟨x, rfl, _⟩ := h
    rfl
  · obtain ⟨x, rfl, h⟩ := h
    simp only [L2.start, N_below, List.map_cons, List.map_nil, List.length_cons, List.length_nil, List.replicate_succ, List.replicate_zero, Nat.reduceAdd, Nat.reduceSub, List.cons_append, List.nil_append]
    walk_at "rd"
    exact ⟨x, 1, true, rfl, by decide, by decide, h⟩

def sp_above (K : PySem.W.Frag) : Sp := fun vs H Q E => ∃ x, vs = [x] ∧
  ((∃ n ns, IsTab K H x n ns ∧ RetL ((spreadM n 1 false ns).map V.int) H Q) ∨ (NoTab K H x ∧ ∀ H', Ex H H' → E (.ref (He.ga K "BadTable")) none H'))
theorem ok_above (T : Txt K mg) (h_spread : Has P w K mg base 3 "spread" ["table", "by", "is_up"] (sp_spread K)) : Has P w K mg base 4 "above" ["table"] (sp_above K) := by
  refine DefAt.has T.d_above sc_above (fun vs H Q E h => ?_) (fun f cdv A outer s H vs Q E hr h => ⟨_, (pss_one (ps_ret (pe_has h_spread (hr.mono (by decide)) rfl passB (pa_cons (pv 0) (pa_cons pe_int (pa_cons pe_bl pa_nil)))))), ?_⟩)
  · obtain ⟨x, rfl, _⟩ := h
    rfl
  · obtain ⟨x, rfl, h⟩ := h
    simp only [L2.start, N_above, List.map_cons, List.map_nil, List.length_cons, List.length_nil, List.replicate_succ, List.replicate_zero, Nat.reduceAdd, Nat.reduceSub, List.cons_append, List.nil_append]
    walk_at "rd"
    exact ⟨x, 1, false, rfl, by decide, by decide, h⟩

def sp_need_sets (K : PySem.W.Frag) : Sp := fun vs H Q E => ∃ x y, vs = [x, y] ∧ El K H x ∧ ((∃ (n : Nat) (l : List Nat), x = .int (n : Nat) ∧ n ≤ 10 ∧ IsSets K H y n l ∧ ∀ H', Ex H H' → Q .non H') ∨
  (amg x 0 10 = false ∧ ∀ H', Ex H H' → E (.ref (He.ga K "BadCount")) none H') ∨ (∃ n : Nat, x = .int (n : Nat) ∧ n ≤ 10 ∧ NoSets K H y n ∧ ∀ H', Ex H H' → E (.ref (He.ga K "BadSet")) none H'))
theorem ok_need_sets (T : Txt K mg) (h_need_count : Has P w K mg base 3 "need_count" ["many"] (sp_need_count K)) (h_need_set : Has P w K mg base 3 "need_set" ["one", "many"] (sp_need_set K)) : Has P w K mg base 4 "need_sets" ["many", "sets"] (sp_need_sets K) := by
  refine DefAt.has T.d_need_sets sc_need_sets (fun vs H Q E h => ?_) (fun f cdv A outer s H vs Q E hr h => ⟨_, (pss_cons (ps_expr (pe_has h_need_count (hr.mono (by decide)) rfl passB (pa_cons (pv 0) pa_nil)))
      (pss_cons (ps_if (PW.pt (pw_or (pt_not (pt_val (pe_callB (id := "isinstance") (k_isK K) (by rfl) T.n_isinstance (by decide +kernel) (pa_cons (pv 1) (pa_cons (pe_ty "list" (by rfl) T.n_list (by decide +kernel)) pa_nil))))) (pw_or1 (pt_cmpR op_gt (pe_callB (id := "len") (k_len K) (by rfl) T.n_len (by decide +kernel) (pa_cons (pv 1) pa_nil)) (pe_kint T.k_MOST_SETS rfl) (nomark _)))))
      (pss_one (k_rz K rfl takesB T.c_BadSet rfl)) pss_nil)
      (pss_one (ps_for (passes_of rfl) rfl (k_pil K (pv 1)) (pg_name (i := 2) sc_need_sets.nd rfl (Or.inl rfl))
      (pss_one (ps_expr (pe_has h_need_set (hr.mono (by decide)) rfl passB (pa_cons (pv 2) (pa_cons (pv 0) pa_nil))))))))), ?_⟩)
  · obtain ⟨x, y, rfl, _⟩ := h
    rfl
  · obtain ⟨x, y, rfl, hE, h⟩ := h
    simp only [L2.start, N_need_sets, List.map_cons, List.map_nil, List.length_cons, List.length_nil, List.replicate_succ, List.replicate_zero, Nat.reduceAdd, Nat.reduceSub, List.cons_append, List.nil_append]
    walk_at "rl"
    refine ⟨x, rfl, hE, fun hb => ?_, fun hb => ?_⟩
    · have all : ∀ {a : Addr} {xs : List V} {n : Nat}, x = .int (n : Nat) → n ≤ 10 → SqL K H a xs → xs.length ≤ 40 → (∀ y ∈ xs, El K H y) → ((∃ y ∈ xs, amg y 0 (2 ^ n - 1) = false) → ∀ H', Ex H H' → E (.ref (He.ga K "BadSet")) none H') →
          ((∀ y ∈ xs, amg y 0 (2 ^ n - 1) = true) → ∀ H', Ex H H' → Q .non H') →
          WFor (Itl K a) (gName 2) (tDrop (tCall (sp_need_set K) [] E (tCons (tVar 2) (tCons (tVar 0) tNil)))) { nx := fun x H' => Q V.non H', rt := Q } [some x, some (.ref a), none] H := fun {a xs n} hx hn hA hl hel q1 q2 => by
        subst hx
        refine w_list xs (fun i σ H' => ∃ z2, σ = [some (.int (n : Nat)), some (.ref a), z2] ∧ Ex H H' ∧ ∀ j y, j < i → xs[j]? = some y → amg y 0 (2 ^ n - 1) = true)
          ⟨_, rfl, Ex.refl _, fun j y h => absurd h (Nat.not_lt_zero j)⟩ (fun i σ H' _ hP => ?_) (fun i z σ H' hz hP => ?_) (fun σ H' hP => ?_)
        · obtain ⟨_, _, e0, _⟩ := hP
          exact ex_l e0 hA
        · obtain ⟨z2, rfl, e0, hj⟩ := hP
          walk_at "rd"
          refine ⟨z, n, rfl, hn, (hel z (List.mem_of_getElem? hz)).mono e0, fun hb => ⟨e0, fun j y hji hy => ?_⟩, fun hb => q1 ⟨z, List.mem_of_getElem? hz, hb⟩ H' e0⟩
          by_cases h : j = i
          · subst h
            cases hz.symm.trans hy
            exact hb
          · exact hj j y (by omega) hy
        · obtain ⟨z2, rfl, e0, hj⟩ := hP
          refine q2 (fun y hy => ?_) H' e0
          obtain ⟨j, hjy⟩ := List.getElem?_of_mem hy
          exact hj j y (List.getElem?_eq_some_iff.mp hjy).1 hjy
      rcases h with ⟨n, l, hx, hn, ⟨a, rfl, hA, hl, hlt⟩, q⟩ | ⟨hb2, _⟩ | ⟨n, hx, hn, hN, q⟩
      · refine ⟨.lst, .lst hA, iteF ⟨_, rfl, _, .inl hA, ite2 (fun h => ?_) (fun _ => ⟨_, rfl, ⟨_, hA⟩, ?_⟩)⟩⟩
        · rw [len_ordI] at h
          omega
        · have good : ∀ y ∈ (ordI l).map V.int, El K H y ∧ amg y 0 (2 ^ n - 1) = true := fun y hy => by
            obtain ⟨i, hi, rfl⟩ := List.mem_map.mp hy
            obtain ⟨k, hk, rfl⟩ := List.mem_map.mp hi
            refine ⟨.int _, amg_nat (by omega) ?_⟩
            have := hlt k hk
            rw [pow2c]
            omega
          refine all hx hn hA (by rw [len_ordI]; exact hl) (fun y hy => (good y hy).1) (fun ⟨y, hy, hb⟩ => ?_) fun _ => q
          rw [(good y hy).2] at hb
          cases hb
      · rw [hb2] at hb
        cases hb
      · rcases hN with ⟨t, k, ht⟩ | ⟨a, xs, rfl, hA, hz, h3⟩
        · refine ⟨t, k, ?_⟩
          have e : t.isa .lst = false := by cases t <;> first | rfl | exact absurd rfl ht
          rw [e]
          exact iteT (q H (Ex.refl H))
        · refine ⟨.lst, .lst hA, iteF ⟨_, rfl, _, .inl hA, ite2 (fun h => q H (Ex.refl H)) (fun h40 => ⟨_, rfl, ⟨_, hA⟩, ?_⟩)⟩⟩
          rcases h3 with h | ⟨hel, y, hy, hbad⟩
          · omega
          · refine all hx hn hA (by omega) hel (fun _ => q) fun hall => ?_
            rw [hall y hy] at hbad
            cases hbad
    · rcases h with ⟨n, l, rfl, hn, _⟩ | ⟨_, q⟩ | ⟨n, rfl, hn, _⟩
      · rw [amg_nat (by omega) (by omega)] at hb
        cases hb
      · exact q H (Ex.refl H)
      · rw [amg_nat (by omega) (by omega)] at hb
        cases hb

def sp_size_of (K : PySem.W.Frag) : Sp := fun vs H Q E => ∃ x, vs = [x] ∧ El K H x ∧ ((∃ s : Nat, x = .int s ∧ s < 1024 ∧ RetV (.int (bitsN s).length) H Q) ∨ (amg x 0 1023 = false ∧ E (.ref (He.ga K "BadSet")) none H))
theorem ok_size_of (T : Txt K mg) (h_members : Has P w K mg base 4 "members" ["one"] (sp_members K)) : Has P w K mg base 5 "size_of" ["one"] (sp_size_of K) := by
  refine DefAt.has T.d_size_of sc_size_of (fun vs H Q E h => ?_) (fun f cdv A outer s H vs Q E hr h => ⟨_, (pss_one (ps_ret (pe_callB (id := "len") (k_len K) (by rfl) T.n_len (by decide +kernel) (pa_cons (pe_has h_members (hr.mono (by decide)) rfl passB (pa_cons (pv 0) pa_nil)) pa_nil)))), ?_⟩)
  · obtain ⟨x, rfl, _⟩ := h
    rfl
  · obtain ⟨x, rfl, hE, h⟩ := h
    simp only [L2.start, N_size_of, List.map_cons, List.map_nil, List.length_cons, List.length_nil, List.replicate_succ, List.replicate_zero, Nat.reduceAdd, Nat.reduceSub, List.cons_append, List.nil_append]
    walk_at "rd"
    refine ⟨x, rfl, hE, ?_⟩
    rcases h with ⟨s, rfl, hs, q⟩ | ⟨hb, q⟩
    · refine .inl ⟨s, rfl, hs, fun p H1 np e1 h1 => ?_⟩
      refine ⟨p, rfl, _, .inl (.inl (.inl h1)), ?_⟩
      rw [List.length_map]
      unfold bitsM
      rw [List.length_map]
      exact q H1 e1
    · exact .inr ⟨hb, q⟩

def sp_rows_from (K : PySem.W.Frag) : Sp := fun vs H Q _ => ∃ (y : V) (n k : Nat) (l : List Nat), vs = [.int (n : Nat), y, .int (k : Nat)] ∧ n ≤ 10 ∧ k ≤ 20 ∧ IsSets K H y n l ∧ RetL ((restM n l k).map V.int) H Q
theorem ok_rows_from (T : Txt K mg) (h_above : Has P w K mg base 4 "above" ["table"] (sp_above K)) (h_below : Has P w K mg base 4 "below" ["table"] (sp_below K)) (h_powered : Has P w K mg base 1 "powered" ["number", "times"] (sp_powered K)) (h_size_of : Has P w K mg base 5 "size_of" ["one"] (sp_size_of K)) : Has P w K mg base 6 "rows_from" ["many", "sets", "long"] (sp_rows_from K) := by
  refine DefAt.has T.d_rows_from sc_rows_from (fun vs H Q E h => ?_) (fun f cdv A outer s H vs Q E hr h => ⟨_, (pss_cons (ps_set (i := 3) sc_rows_from.nd rfl (Or.inl rfl) (pe_op op_rep (pe_lst (pa_cons pe_int pa_nil)) (pe_op op_sh pe_int (pv 0))))
      (pss_cons (ps_for (passes_of rfl) rfl (k_pil K (pv 1)) (pg_name (i := 4) sc_rows_from.nd rfl (Or.inl rfl))
      (pss_one (ps_asg (pe_op op_add (pe_ix (k_ixl K) (pv 3) (pv 4) (fun _ _ => rfl)) pe_int) (pg_sub (pv 3) (pv 4) set_list))))
      (pss_cons (ps_set (i := 5) sc_rows_from.nd rfl (Or.inl rfl) (pe_has h_below (hr.mono (by decide)) rfl passB (pa_cons (pv 3) pa_nil)))
      (pss_cons (ps_set (i := 6) sc_rows_from.nd rfl (Or.inl rfl) (pe_lst pa_nil))
      (pss_cons (ps_for (passes_of rfl) rfl (pi_range1 rfl T.n_range (pa_cons (pe_op op_sh pe_int (pv 0)) pa_nil)) (pg_name (i := 4) sc_rows_from.nd rfl (Or.inl rfl))
      (pss_cons (ps_set (i := 7) sc_rows_from.nd rfl (Or.inl rfl) (pe_op op_sub pe_int (pe_op op_mu pe_int (pe_op op_mod (pe_op op_sub (pv 0) (pe_has h_size_of (hr.mono (by decide)) rfl passB (pa_cons (pv 4) pa_nil))) pe_int))))
      (pss_one (ps_expr (k_bm K PySem.F.plainAttrs_list PySem.F.slot_list_append PySem.F.type_list_append mt_append (pv 6) (pa_cons (pe_op op_mu (pv 7) (pe_has h_powered (hr.mono (by decide)) rfl passB (pa_cons (pe_ix (k_ixl K) (pv 5) (pv 4) (fun _ _ => rfl)) (pa_cons (pv 2) pa_nil)))) pa_nil))))))
      (pss_one (ps_ret (pe_has h_above (hr.mono (by decide)) rfl passB (pa_cons (pv 6) pa_nil))))))))), ?_⟩)
  · obtain ⟨y, n, k, l, rfl, _⟩ := h
    rfl
  · obtain ⟨y, n, k, l, rfl, hn, hk, ⟨a, rfl, hA, hl, hlt⟩, q⟩ := h
    simp only [L2.start, N_rows_from, List.map_cons, List.map_nil, List.length_cons, List.length_nil, List.replicate_succ, List.replicate_zero, Nat.reduceAdd, Nat.reduceSub, List.cons_append, List.nil_append]
    refine seq_cut2 fun R1 h1 => ?_
    walk_at "rl"
    have hp := pow_le hn
    refine ⟨by decide, ?_⟩
    intro o no
    have e1 := Ex.new (o := HO.lst [V.int 0]) no
    refine ⟨cpow1 (by omega), _, upd_same, ?_⟩
    generalize hN : 2 ^ n = N at *
    refine ⟨by omega, by omega, sz_of (by simp; omega), ?_⟩
    intro p np
    have e2 := e1.trans (Ex.new (o := HO.lst (List.replicate N [V.int 0]).flatten) np)
    have nHp : H p = none := fresh_back e1 np
    have hp0 : (upd (upd H o (.lst [V.int 0])) p (.lst (List.replicate N [V.int 0]).flatten)) p = some (.lst ((countsM n (l.take 0)).map V.int)) := by
      rw [upd_same, rep0, List.take_zero]
      unfold countsM
      rw [hN]
      rfl
    generalize upd (upd H o (.lst [V.int 0])) p (.lst (List.replicate N [V.int 0]).flatten) = G2 at *
    refine ⟨⟨_, ex_l e2 hA⟩, ?_⟩
    refine w_list ((ordI l).map V.int) (fun i σ H' => ∃ z4, σ = [some (.int (n : Nat)), some (.ref a), some (.int (k : Nat)), some (.ref p), z4, none, none, none] ∧ Ex H H' ∧ H' p = some (.lst ((countsM n (l.take i)).map V.int)))
      ⟨_, rfl, e2, hp0⟩ (fun i σ H' _ hP => ?_) (fun i x σ H' hx hP => ?_) (fun σ H' hP => ?_)
    · obtain ⟨_, _, e0, _⟩ := hP
      exact ex_l e0 hA
    · obtain ⟨z4, rfl, e0, hf⟩ := hP
      obtain ⟨s, hs, rfl⟩ := get_ordI hx
      have hs2 := hlt s (List.mem_of_getElem? hs)
      have lc : (countsM n (l.take i)).length = N := (countsM_length n _).trans hN
      walk_at "rd"
      refine ⟨_, .inl (.inl hf), _, at_int (by omega), ?_⟩
      have ht : l.take (i + 1) = l.take i ++ [s] := by rw [List.take_add_one, hs] <;> rfl
      exact ⟨_, rfl, _, hf, _, ix_int (by omega), ex_mut e0 nHp, by rw [upd_same, set_int, ht, countsM_snoc] <;> rfl⟩
    · obtain ⟨z4, rfl, e0, hf⟩ := hP
      subst h1
      dsimp only
      walk_at "rl"
      have hc : H' p = some (.lst ((countsM n l).map V.int)) := by
        rw [hf, List.take_of_length_le (Nat.le_of_eq (len_ordI l).symm)]
      have lc := countsM_length n l
      have hB6 : Bd 6 (countsM n l) := bd_of fun s _ => by
        rw [countsM_at (fun k hk => by rw [hN]; exact hlt k hk)]
        have := List.count_le_length (a := s) (l := l)
        omega
      have hB := bd_spread hn lc (b := 1) (by decide) true hB6
      have lW : (spreadM n 1 true (countsM n l)).length = N := (spreadM_length _ _ _ _).trans (lc.trans hN)
      refine ⟨_, rfl, .inl ⟨n, _, ⟨p, rfl, .inl (.inl hc), hn, lc⟩, fun w G3 nw x3 hw => ⟨by decide, ?_⟩⟩⟩
      intro f nf
      generalize hG4 : upd G3 f _ = G4
      have x4 := upd_ex hG4 nf
      have f4 := upd_at hG4
      clear hG4
      rw [hN]
      refine ⟨cpow1 (by omega), by omega, by omega, ?_⟩
      have e4 := e0.trans (x3.trans x4)
      have hw4 := x4 _ _ hw
      refine w_rng0 (n := N) (fun s σ H'' => ∃ z4 z7, σ = [some (.int (n : Nat)), some (.ref a), some (.int (k : Nat)), some (.ref p), z4, some (.ref w), some (.ref f), z7] ∧ Ex G3 H'' ∧ H'' f = some (.lst (((List.range s).map fun s => sgnM n s * at0 (spreadM n 1 true (countsM n l)) s ^ k).map V.int)))
        ⟨_, _, rfl, x4, f4⟩ (fun s σ H'' hs hP => ?_) (fun σ H'' hP => ?_)
      · obtain ⟨z4, z7, rfl, k0, hf⟩ := hP
        walk_at "rd"
        have hfew : (bitsN s).length ≤ n := by have := bits_few (n := n) (i := s) (by omega); omega
        refine ⟨_, rfl, El.int _, .inl ⟨s, rfl, by omega, fun G5 x5 => ?_⟩⟩
        have esg : sgnM n s = 1 - 2 * (((n : Int) - ((bitsN s).length : Int)) % 2) := by unfold sgnM; omega
        refine ⟨_, rfl, by decide, cmu_l (by decide), ty_lst (.inl (.inl (x5 _ _ hf))), _, .inl (.inl ((k0.trans x5) _ _ hw)), _, at_int (by omega), at0 (spreadM n 1 true (countsM n l)) s, k, rfl, ?_, by omega, fun G6 x6 => ⟨_, rfl, cmu_l (by omega), _, (x5.trans x6) _ _ hf, ?_, _, _, ⟨rfl, rfl⟩, ex_mut ((k0.trans x5).trans x6) nf, ?_⟩⟩
        · have := hB.at s
          omega
        · rw [List.length_map, List.length_map, List.length_range]
          exact sz_lt (by omega)
        · rw [upd_same, List.range_succ, List.map_append, List.map_append, ← esg]
          rfl
      · obtain ⟨z4, z7, rfl, k0, hf⟩ := hP
        walk_at "rd"
        refine ⟨_, rfl, .inl ⟨n, bySetM n l k, ⟨f, rfl, .inl (.inl (by rw [hf]; unfold bySetM; rw [hN])), hn, bySetM_length n l k⟩, fun r G6 nr x6 hr => ?_⟩⟩
        exact q r G6 (fresh_back (e0.trans (x3.trans k0)) nr) ((e0.trans (x3.trans k0)).trans x6) hr

def sp_covers (K : PySem.W.Frag) : Sp := fun vs H Q E => ∃ x y z, vs = [x, y, z] ∧ El K H x ∧ El K H z ∧ ((∃ (n k : Nat) (l : List Nat), x = .int (n : Nat) ∧ z = .int (k : Nat) ∧ n ≤ 10 ∧ k ≤ 20 ∧ IsSets K H y n l ∧ RetV (.int (at0 (restM n l k) 0)) H Q) ∨
  (amg x 0 10 = false ∧ ∀ H', Ex H H' → E (.ref (He.ga K "BadCount")) none H') ∨ (∃ n : Nat, x = .int (n : Nat) ∧ n ≤ 10 ∧ NoSets K H y n ∧ ∀ H', Ex H H' → E (.ref (He.ga K "BadSet")) none H') ∨
  ((∃ (n : Nat) (l : List Nat), x = .int (n : Nat) ∧ n ≤ 10 ∧ IsSets K H y n l) ∧ amg z 0 20 = false ∧ ∀ H', Ex H H' → E (.ref (He.ga K "BadNumber")) none H'))
theorem ok_covers (T : Txt K mg) (h_is_among : Has P w K mg base 2 "is_among" ["thing", "least", "most"] (sp_is_among K)) (h_need_sets : Has P w K mg base 4 "need_sets" ["many", "sets"] (sp_need_sets K)) (h_rows_from : Has P w K mg base 6 "rows_from" ["many", "sets", "long"] (sp_rows_from K)) : Has P w K mg base 7 "covers" ["many", "sets", "long"] (sp_covers K) := by
  refine DefAt.has T.d_covers sc_covers (fun vs H Q E h => ?_) (fun f cdv A outer s H vs Q E hr h => ⟨_, (pss_cons (ps_expr (pe_has h_need_sets (hr.mono (by decide)) rfl passB (pa_cons (pv 0) (pa_cons (pv 1) pa_nil))))
      (pss_cons (ps_if (pt_not (pt_val (pe_has h_is_among (hr.mono (by decide)) rfl passB (pa_cons (pv 2) (pa_cons pe_int (pa_cons (pe_kint T.k_MOST_LONG rfl) pa_nil))))))
      (pss_one (k_rz K rfl takesB T.c_BadNumber rfl)) pss_nil)
      (pss_one (ps_ret (pe_ix (k_ixl K) (pe_has h_rows_from (hr.mono (by decide)) rfl passB (pa_cons (pv 0) (pa_cons (pv 1) (pa_cons (pv 2) pa_nil)))) pe_int (fun _ _ => rfl)))))), ?_⟩)
  · obtain ⟨x, y, z, rfl, _⟩ := h
    rfl
  · obtain ⟨x, y, z, rfl, hE1, hE2, h⟩ := h
    simp only [L2.start, N_covers, List.map_cons, List.map_nil, List.length_cons, List.length_nil, List.replicate_succ, List.replicate_zero, Nat.reduceAdd, Nat.reduceSub, List.cons_append, List.nil_append]
    walk_at "rl"
    rcases h with ⟨n, k, l, rfl, rfl, hn, hk, hS, q⟩ | ⟨hb, q⟩ | ⟨n, rfl, hn, hN, q⟩ | ⟨⟨n, l, rfl, hn, hS⟩, hb, q⟩
    · refine ⟨_, y, rfl, hE1, .inl ⟨n, l, rfl, hn, hS, fun H1 e1 => ?_⟩⟩
      refine ⟨_, _, _, rfl, El.int _, _, rfl, ?_⟩
      rw [amg_nat (by omega) (by omega)]
      refine iteF ⟨y, n, k, l, rfl, hn, hk, hS.mono e1, fun p H2 np e2 h2 => ?_⟩
      exact ⟨p, rfl, _, .inl (.inl h2), _, at_int (i := 0) (by rw [restM_length]; exact Nat.two_pow_pos n), q H2 (e1.trans e2)⟩
    · exact ⟨x, y, rfl, hE1, .inr (.inl ⟨hb, q⟩)⟩
    · exact ⟨_, y, rfl, hE1, .inr (.inr ⟨n, rfl, hn, hN, q⟩)⟩
    · refine ⟨_, y, rfl, hE1, .inl ⟨n, l, rfl, hn, hS, fun H1 e1 => ?_⟩⟩
      refine ⟨z, _, _, rfl, hE2.mono e1, _, rfl, ?_⟩
      rw [hb]
      exact iteT (q H1 e1)

def sp_fewest (K : PySem.W.Frag) : Sp := fun vs H Q E => ∃ x y, vs = [x, y] ∧ El K H x ∧ ((∃ (n : Nat) (l : List Nat), x = .int (n : Nat) ∧ n ≤ 10 ∧ IsSets K H y n l ∧ (∀ k, fewM n l = some k → ∀ H', Ex H H' → Q (.int (k : Nat)) H') ∧ (fewM n l = none → ∀ H', Ex H H' → E (.ref (He.ga K "NoCover")) none H')) ∨
  (amg x 0 10 = false ∧ ∀ H', Ex H H' → E (.ref (He.ga K "BadCount")) none H') ∨ (∃ n : Nat, x = .int (n : Nat) ∧ n ≤ 10 ∧ NoSets K H y n ∧ ∀ H', Ex H H' → E (.ref (He.ga K "BadSet")) none H'))
theorem ok_fewest (T : Txt K mg) (h_need_sets : Has P w K mg base 4 "need_sets" ["many", "sets"] (sp_need_sets K)) (h_rows_from : Has P w K mg base 6 "rows_from" ["many", "sets", "long"] (sp_rows_from K)) : Has P w K mg base 7 "fewest" ["many", "sets"] (sp_fewest K) := by
  refine DefAt.has T.d_fewest sc_fewest (fun vs H Q E h => ?_) (fun f cdv A outer s H vs Q E hr h => ⟨_, (pss_cons (ps_expr (pe_has h_need_sets (hr.mono (by decide)) rfl passB (pa_cons (pv 0) (pa_cons (pv 1) pa_nil))))
      (pss_cons (ps_for (passes_of rfl) rfl (pi_range1 rfl T.n_range (pa_cons (pe_op op_add (pv 0) pe_int) pa_nil)) (pg_name (i := 2) sc_fewest.nd rfl (Or.inl rfl))
      (pss_one (ps_if (pt_cmpR op_gt (pe_ix (k_ixl K) (pe_has h_rows_from (hr.mono (by decide)) rfl passB (pa_cons (pv 0) (pa_cons (pv 1) (pa_cons (pv 2) pa_nil)))) pe_int (fun _ _ => rfl)) pe_int (nomark _))
      (pss_one (ps_ret (pv 2))) pss_nil)))
      (pss_one (k_rz K rfl takesB T.c_NoCover rfl)))), ?_⟩)
  · obtain ⟨x, y, rfl, _⟩ := h
    rfl
  · obtain ⟨x, y, rfl, hE1, h⟩ := h
    simp only [L2.start, N_fewest, List.map_cons, List.map_nil, List.length_cons, List.length_nil, List.replicate_succ, List.replicate_zero, Nat.reduceAdd, Nat.reduceSub, List.cons_append, List.nil_append]
    refine seq_cut1 fun R1 h1 => ?_
    walk_at "rl"
    rcases h with ⟨n, l, rfl, hn, hS, q1, q2⟩ | ⟨hb, q⟩ | ⟨n, rfl, hn, hN, q⟩
    · refine ⟨_, y, rfl, hE1, .inl ⟨n, l, rfl, hn, hS, fun H1 e1 => ?_⟩⟩
      subst h1
      walk_at "rl"
      refine ⟨by omega, by omega, ?_⟩
      rw [show ((n : Int) + 1).toNat = n + 1 from by omega]
      refine w_rng0 (n := n + 1) (fun i σ H' => ∃ z2, σ = [some (.int (n : Nat)), some y, z2] ∧ Ex H H' ∧ ∀ j, j < i → ¬ 0 < at0 (restM n l j) 0)
        ⟨_, rfl, e1, fun j h => absurd h (Nat.not_lt_zero j)⟩ (fun i σ H' hi hP => ?_) (fun σ H' hP => ?_)
      · obtain ⟨z2, rfl, e0, hj⟩ := hP
        walk_at "rd"
        refine ⟨y, n, i, l, rfl, hn, by omega, hS.mono e0, fun p H2 np x2 h2 => ?_⟩
        refine ⟨p, rfl, _, .inl (.inl h2), _, at_int (i := 0) (by rw [restM_length]; exact Nat.two_pow_pos n), ?_⟩
        have e2 := e0.trans x2
        have key : at0 (restM n l i) 0 = (restM n l i).getD 0 0 := rfl
        rw [← key]
        refine ⟨_, rfl, ?_⟩
        by_cases hp : 0 < at0 (restM n l i) 0
        · rw [if_pos hp]
          refine q1 i ?_ H2 e2
          unfold fewM
          rw [List.find?_range_eq_some]
          refine ⟨decide_eq_true hp, List.mem_range.mpr hi, fun j hji => ?_⟩
          rw [decide_eq_false (hj j hji)]
          rfl
        · rw [if_neg hp]
          refine ⟨e2, fun j hji => ?_⟩
          by_cases e : j = i
          · rw [e]; exact hp
          · exact hj j (by omega)
      · obtain ⟨z2, rfl, e0, hj⟩ := hP
        refine q2 ?_ H' e0
        unfold fewM
        rw [List.find?_eq_none]
        intro k hk hp
        exact hj k (List.mem_range.mp hk) (of_decide_eq_true hp)
    · exact ⟨x, y, rfl, hE1, .inr (.inl ⟨hb, q⟩)⟩
    · exact ⟨_, y, rfl, hE1, .inr (.inr ⟨n, rfl, hn, hN, q⟩)⟩

def sp_least_cover (K : PySem.W.Frag) : Sp := fun vs H Q E => ∃ x y, vs = [x, y] ∧ El K H x ∧ ((∃ (n : Nat) (l : List Nat), x = .int (n : Nat) ∧ n ≤ 5 ∧ IsSets K H y n l ∧ (∀ k, fewM n l = some k → RetL ((ordI (greedM n l k 0)).map V.int) H Q) ∧ (fewM n l = none → ∀ H', Ex H H' → E (.ref (He.ga K "NoCover")) none H')) ∨
  (amg x 0 10 = false ∧ ∀ H', Ex H H' → E (.ref (He.ga K "BadCount")) none H') ∨ (∃ n : Nat, x = .int (n : Nat) ∧ n ≤ 10 ∧ NoSets K H y n ∧ ∀ H', Ex H H' → E (.ref (He.ga K "BadSet")) none H'))
theorem ok_least_cover (T : Txt K mg) (h_fewest : Has P w K mg base 7 "fewest" ["many", "sets"] (sp_fewest K)) (h_rows_from : Has P w K mg base 6 "rows_from" ["many", "sets", "long"] (sp_rows_from K)) : Has P w K mg base 8 "least_cover" ["many", "sets"] (sp_least_cover K) := by
  refine DefAt.has T.d_least_cover sc_least_cover (fun vs H Q E h => ?_) (fun f cdv A outer s H vs Q E hr h => ⟨_, (pss_cons (ps_set (i := 2) sc_least_cover.nd rfl (Or.inl rfl) (pe_has h_fewest (hr.mono (by decide)) rfl passB (pa_cons (pv 0) (pa_cons (pv 1) pa_nil))))
      (pss_cons (ps_set (i := 3) sc_least_cover.nd rfl (Or.inr rfl) pe_int)
      (pss_cons (ps_set (i := 4) sc_least_cover.nd rfl (Or.inl rfl) (pe_lst pa_nil))
      (pss_cons (ps_for (passes_of rfl) rfl (pi_range3 rfl T.n_range (pa_cons (pe_op op_sub (pv 2) pe_int) (pa_cons (pe_un un_neg pe_int) (pa_cons (pe_un un_neg pe_int) pa_nil)))) (pg_name (i := 5) sc_least_cover.nd rfl (Or.inl rfl))
      (pss_cons (ps_set (i := 6) sc_least_cover.nd rfl (Or.inr rfl) (pe_has h_rows_from (hr.mono (by decide)) rfl passB (pa_cons (pv 0) (pa_cons (pv 1) (pa_cons (pv 5) pa_nil)))))
      (pss_cons (ps_set (i := 7) sc_least_cover.nd rfl (Or.inl rfl) (pe_ix (k_ixl K) (pe_lc (own := [("place", 7), ("one", 8)]) (g := gTup K 2 (gCons (gName 7) (gCons (gName 8) gNil))) rfl sc_least_cover.nd (k_enum K (by rfl) T.n_enumerate (pa_cons (pv 1) pa_nil)) (blkOk_by (own := [("place", 7), ("one", 8)]) (N := N_least_cover) (sc := defScope s_least_cover) (by decide +kernel)) (fun _ _ _ _ _ => (k_pgt K rfl (pgs_cons (pg_name (i := 7) sc_least_cover.nd rfl (Or.inl rfl)) (pgs_cons (pg_name (i := 8) sc_least_cover.nd rfl (Or.inl rfl)) pgs_nil)))) (fun _ _ _ _ _ => (pts_one (pt_cmpR op_gt (pe_ix (k_ixl K) (pv 6) (pe_op op_or (pv 3) (pv 8)) (fun _ _ => rfl)) pe_int (nomark _)))) (fun _ _ _ _ _ => (pv 7))) pe_int (fun _ _ => rfl)))
      (pss_cons (ps_expr (k_bm K PySem.F.plainAttrs_list PySem.F.slot_list_append PySem.F.type_list_append mt_append (pv 4) (pa_cons (pv 7) pa_nil)))
      (pss_one (ps_set (i := 3) sc_least_cover.nd rfl (Or.inr rfl) (pe_op op_or (pv 3) (pe_ix (k_ixl K) (pv 1) (pv 7) (fun _ _ => rfl)))))))))
      (pss_one (ps_ret (pv 4))))))), ?_⟩)
  · obtain ⟨x, y, rfl, _⟩ := h
    rfl
  · obtain ⟨x, y, rfl, hE1, h⟩ := h
    simp only [L2.start, N_least_cover, List.map_cons, List.map_nil, List.length_cons, List.length_nil, List.replicate_succ, List.replicate_zero, Nat.reduceAdd, Nat.reduceSub, List.cons_append, List.nil_append]
    refine seq_cut1 fun R1 h1 => ?_
    walk_at "rl"
    rcases h with ⟨n, l, rfl, hn, hS, q1, q2⟩ | ⟨hb, q⟩ | ⟨n, rfl, hn, hN, q⟩
    · refine ⟨_, y, rfl, hE1, .inl ⟨n, l, rfl, by omega, hS, fun k hk H1 e1 => ?_, q2⟩⟩
      obtain ⟨hkn, hc, hf⟩ := few_some hn hS.choose_spec.2.2.2 hk
      obtain ⟨ay, rfl, hA, hl40, hlt⟩ := hS
      subst h1
      walk_at "rl"
      refine ⟨by decide, ?_⟩
      intro p2 n2; generalize hG2 : upd _ p2 _ = G2; have x2 := upd_ex hG2 n2; have f2 := upd_at hG2; clear hG2; have e2 := e1.trans x2
      have nHp := fresh_back e1 n2
      have hrg := RgC.neg (i := (k : Int) - 1) (j := -1) (by omega) (by omega) (by decide) (by decide)
      rw [show ((k : Int) - 1 - -1).toNat = k from by omega] at hrg
      refine ⟨_, _, _, ⟨rfl, rfl, rfl⟩, k, hrg, ?_⟩
      refine w_by k (fun i σ H' => ∃ (h : Nat) (pre : List Nat) (z5 z6 z7 z8 : Option V), σ = [some (.int (n : Nat)), some (.ref ay), some (.int (k : Nat)), some (.int (h : Nat)), some (.ref p2), z5, z6, z7, z8] ∧ Ex H H' ∧ H' p2 = some (.lst ((ordI pre).map V.int)) ∧ h < 2 ^ n ∧ pre.length = i ∧ i ≤ k ∧ pre ++ greedM n l (k - i) h = greedM n l k 0 ∧ CovR n l (k - i) h)
        ⟨0, [], _, _, _, _, rfl, e2, f2, Nat.two_pow_pos n, rfl, Nat.zero_le k, rfl, hc⟩ (fun i σ H' hi _ => hi) (fun σ H' _ => Nat.le_refl k) (fun i σ H' x H'' hi hP y => ?_) (fun σ H' hP => ?_)
      · obtain ⟨rfl, rfl⟩ := y
        obtain ⟨h, pre, z5, z6, z7, z8, rfl, e0, h2, hh, hpl, hik, hg, hcv⟩ := hP
        walk_at "rl"
        have eleft : (k : Int) - 1 + (i : Int) * -1 = ((k - 1 - i : Nat) : Int) := by omega
        have ek : k - i = (k - 1 - i) + 1 := by omega
        rw [ek] at hg hcv
        generalize hL : k - 1 - i = L at *
        rw [eleft]
        refine ⟨_, n, L, l, rfl, by omega, by omega, ⟨ay, rfl, ex_l e0 hA, hl40, hlt⟩, fun p3 G3 n3 x3 f3 => ?_⟩
        have e3 := e0.trans x3
        refine ⟨_, ex_l e3 hA, ?_⟩
        refine wl_enum ((ordI l).map V.int) (fun q => decide (0 < at0 (restM n l L) (h ||| l.getD q 0))) (fun q => .int (q : Nat)) (ex_l e3 hA) (by rw [len_ordI]; omega) (fun _ _ => rfl) (fun q x K1 k1 hx => ?_) (fun q x K1 k1 hx _ => ?_) (fun v G4 n4 x4 h4 => ?_)
        · obtain ⟨s, hs, rfl⟩ := get_ordI hx
          have hsd : l.getD q 0 = s := by rw [List.getD_eq_getElem?_getD, hs] <;> rfl
          have hs2 : s < 2 ^ n := hlt s (List.mem_of_getElem? hs)
          intro K2 k2 Q2 q2
          rw [hsd] at q2
          walk_at "rd"
          refine ⟨_, .inl (.inl ((k1.trans k2) _ _ f3)), _, at_int (by rw [restM_length]; exact Nat.or_lt_two_pow hh hs2), _, rfl, q2 _ (Ex.refl _)⟩
        · intro K2 k2 Q2 q2
          walk_at "rd"
          exact q2 _ (Ex.refl _)
        · have hg4 : given ((ordI l).map V.int).length (fun q => decide (0 < at0 (restM n l L) (h ||| l.getD q 0))) (fun q => .int (q : Nat)) = (ordI (pickM n l L h)).map V.int := by
            rw [len_ordI]
            unfold given pickM ordI
            rw [List.map_map]
            rfl
          rw [hg4] at h4
          obtain ⟨pp, rest, epk, hpp, hcv2, _⟩ := pick_head hn hlt hh hcv
          rw [epk] at h4
          have hgr : greedM n l (L + 1) h = pp :: greedM n l L (h ||| l.getD pp 0) := by
            show (pickM n l L h).headD 0 :: greedM n l L (h ||| l.getD ((pickM n l L h).headD 0) 0) = _
            rw [epk] <;> rfl
          have hp2 := (x3.trans x4) _ _ h2
          have hne : G4 v ≠ none := by rw [h4]; exact fun z => nomatch z
          have h0 : atI ((ordI (pp :: rest)).map V.int) 0 = some (.int (pp : Nat)) := at_int (ns := ordI (pp :: rest)) (i := 0) (by simp [ordI])
          refine ⟨v, rfl, _, .inl (.inl h4), _, h0, ty_lst (.inl (.inl hp2)), _, hp2, ?_, _, _, rfl, ex_l (ex_mut (e3.trans x4) nHp) hA, _, at_int (ns := ordI l) (i := pp) (by unfold ordI; rw [List.length_map]; exact hpp), _, rfl, h ||| l.getD pp 0, pre ++ [pp], _, _, _, _, ⟨?_, rfl, rfl, rfl, rfl⟩, ex_mut (e3.trans x4) nHp, ?_, Nat.or_lt_two_pow hh (getD_lt hlt pp), by rw [List.length_append, hpl] <;> rfl, by omega, ?_, ?_⟩
          · rw [len_ordI]
            exact sz_lt (by omega)
          · have : (ordI l).getD pp 0 = ((l.getD pp 0 : Nat) : Int) := by
              unfold ordI
              rw [List.getD_eq_getElem?_getD, List.getElem?_map, List.getD_eq_getElem?_getD]
              cases l[pp]? <;> rfl
            rw [this, bor_nn]
          · rw [upd_same]
            unfold ordI
            rw [List.map_append, List.map_append]
            rfl
          · rw [show k - (i + 1) = L from by omega, List.append_assoc, List.singleton_append, ← hgr]
            exact hg
          · rw [show k - (i + 1) = L from by omega]
            exact hcv2
      · obtain ⟨h, pre, z5, z6, z7, z8, rfl, e0, h2, hh, hpl, hik, hg, hcv⟩ := hP
        dsimp only
        walk_at "rd"
        rw [Nat.sub_self] at hg
        rw [show greedM n l 0 h = [] from rfl, List.append_nil] at hg
        rw [hg] at h2
        exact q1 k hk p2 H' nHp e0 h2
    · exact ⟨x, y, rfl, hE1, .inr (.inl ⟨hb, q⟩)⟩
    · exact ⟨_, y, rfl, hE1, .inr (.inr ⟨n, rfl, hn, hN, q⟩)⟩

def sp_law_caught (K : PySem.W.Frag) : Sp := fun vs H Q _ => ∃ (i : Nat) (x y : V) (C : Str), vs = [.int (i : Nat), x, y] ∧ El K H x ∧ C ∈ nineC ∧ ((C = "BadCount" ∧ amg x 0 10 = false) ∨ (C = "BadSet" ∧ ∃ n : Nat, x = .int (n : Nat) ∧ n ≤ 10 ∧ NoSets K H y n) ∨
  (C = "NoCover" ∧ ∃ (n : Nat) (l : List Nat), x = .int (n : Nat) ∧ n ≤ 5 ∧ IsSets K H y n l ∧ fewM n l = none)) ∧ ∀ a H', H a = none → Ex H H' → H' a = some (ExK (.ref (He.ga K C)) a) → Q (.ref a) H'
theorem ok_law_caught (T : Txt K mg) (h_fewest : Has P w K mg base 7 "fewest" ["many", "sets"] (sp_fewest K)) (h_least_cover : Has P w K mg base 8 "least_cover" ["many", "sets"] (sp_least_cover K)) : Has P w K mg base 9 "_law_caught" ["_law_which", "_law_many", "_law_sets_here"] (sp_law_caught K) := by
  refine DefAt.has T.d_law_caught sc_law_caught (fun vs H Q E h => ?_) (fun f cdv A outer s H vs Q E hr h => ⟨_, (pss_cons (ps_set (i := 3) sc_law_caught.nd rfl (Or.inl rfl) pe_non)
      (pss_cons (k_tryk K (i := 4) (j := 3) rfl rfl rfl sc_law_caught.nd rfl rfl rfl rfl T.c_SetError rfl takesB (fun W pn xe tk po =>
      (pss_one (ps_if (pt_cmpR op_eq (pv 0) pe_int (nomark _))
      (pss_one (ps_expr (pe_hasS h_fewest (hr.mono (by decide)) rfl tk (pa_cons (pv 1) (pa_cons (pv 2) pa_nil))))) (pss_one (ps_expr (pe_hasS h_least_cover (hr.mono (by decide)) rfl tk (pa_cons (pv 1) (pa_cons (pv 2) pa_nil)))))))))
      (pss_one (ps_ret (pv 3))))), ?_⟩)
  · obtain ⟨i, x, y, C, rfl, _⟩ := h
    rfl
  · obtain ⟨i, x, y, C, rfl, hE1, hC, h, q⟩ := h
    simp only [L2.start, N_law_caught, List.map_cons, List.map_nil, List.length_cons, List.length_nil, List.replicate_succ, List.replicate_zero, Nat.reduceAdd, Nat.reduceSub, List.cons_append, List.nil_append]
    walk_at "rl"
    have b : ∀ H', Ex H H' → WE (wK K (.ref (He.ga K "SetError")) 4 3 (fun cls d x H => E cls d H) { nx := tRet (tVar 3) { nx := fun x H' => Q V.non H', rt := Q }, rt := Q }) [some (.int (i : Nat)), some x, some y, some .non, none] (.ref (He.ga K C)) none H' := fun H' e => we_go T.x hC fun a na => by
      walk_at "rd"
      exact q a _ (fresh_back e na) (e.trans (Ex.new na)) upd_same
    refine ⟨(rfl : scal _ _ = true), ?_⟩
    refine ite2 (fun h0 => ?_) (fun h0 => ?_)
    · rcases h with ⟨rfl, hb⟩ | ⟨rfl, n, rfl, hn, hN⟩ | ⟨rfl, n, l, rfl, hn, hS, hf⟩
      · exact ⟨x, y, rfl, hE1, .inr (.inl ⟨hb, b⟩)⟩
      · exact ⟨_, y, rfl, hE1, .inr (.inr ⟨n, rfl, hn, hN, b⟩)⟩
      · exact ⟨_, y, rfl, hE1, .inl ⟨n, l, rfl, by omega, hS, (fun k hk => by rw [hf] at hk; cases hk), fun _ => b⟩⟩
    · rcases h with ⟨rfl, hb⟩ | ⟨rfl, n, rfl, hn, hN⟩ | ⟨rfl, n, l, rfl, hn, hS, hf⟩
      · exact ⟨x, y, rfl, hE1, .inr (.inl ⟨hb, b⟩)⟩
      · exact ⟨_, y, rfl, hE1, .inr (.inr ⟨n, rfl, hn, hN, b⟩)⟩
      · exact ⟨_, y, rfl, hE1, .inl ⟨n, l, rfl, by omega, hS, (fun k hk => by rw [hf] at hk; cases hk), fun _ => b⟩⟩

def sp_law_good (K : PySem.W.Frag) : Sp := fun vs H Q _ => ∃ (a d : Addr) (n k : Nat) (l : List Nat), vs = [.int (n : Nat), .ref a, .ref d] ∧ n ≤ 5 ∧ SqL K H a ((ordI l).map V.int) ∧ l.length ≤ 40 ∧ (∀ k ∈ l, k < 2 ^ n) ∧ fewM n l = some k ∧ H d = some (.lst ((ordI (greedM n l k 0)).map V.int)) ∧ ∀ H', Ex H H' → Q (.bl true) H'
theorem ok_law_good (T : Txt K mg) (h_fewest : Has P w K mg base 7 "fewest" ["many", "sets"] (sp_fewest K)) (h_least_cover : Has P w K mg base 8 "least_cover" ["many", "sets"] (sp_least_cover K)) : Has P w K mg base 9 "_law_good" ["_law_many", "_law_sets_here", "_law_due"] (sp_law_good K) := by
  refine DefAt.has T.d_law_good sc_law_good (fun vs H Q E h => ?_) (fun f cdv A outer s H vs Q E hr h => ⟨_, (pss_cons (ps_set (i := 3) sc_law_good.nd rfl (Or.inl rfl) (pe_callTy (T := "list") (k_list K) (by rfl) T.n_list (by decide +kernel) (pa_cons (pv 1) pa_nil)))
      (pss_cons (ps_for (passes_of rfl) rfl (pi_range1 rfl T.n_range (pa_cons pe_int pa_nil)) (pg_name (i := 4) sc_law_good.nd rfl (Or.inl rfl))
      (pss_cons (ps_set (i := 5) sc_law_good.nd rfl (Or.inl rfl) (pe_has h_least_cover (hr.mono (by decide)) rfl passB (pa_cons (pv 0) (pa_cons (pv 1) pa_nil))))
      (pss_cons (ps_if (PW.pt (pw_or (pt_not (pt_val (pe_callB (id := "isinstance") (k_isK K) (by rfl) T.n_isinstance (by decide +kernel) (pa_cons (pv 5) (pa_cons (pe_ty "list" (by rfl) T.n_list (by decide +kernel)) pa_nil))))) (pw_or (pt_cmpR (k_neD K hr.units) (pv 5) (pv 2) (nomark _)) (pw_or (pt_cmpR (k_neD K hr.units) (pv 1) (pv 3) (nomark _)) (pw_or1 (pt_cmpR op_ne (pe_has h_fewest (hr.mono (by decide)) rfl passB (pa_cons (pv 0) (pa_cons (pv 1) pa_nil))) (pe_callB (id := "len") (k_len K) (by rfl) T.n_len (by decide +kernel) (pa_cons (pv 2) pa_nil)) (nomark _)))))))
      (pss_one (ps_ret pe_bl)) pss_nil)
      (pss_cons (ps_if (PW.pt (pw_or (pt_cmpR (k_neD K hr.units) (pe_lc (own := [("_law_place", 6)]) (g := gName 6) rfl sc_law_good.nd (k_pil K (pv 5)) (blkOk_by (own := [("_law_place", 6)]) (N := N_law_good) (sc := defScope s_law_good) (by decide +kernel)) (fun _ _ _ _ _ => (pg_name (i := 6) sc_law_good.nd rfl (Or.inl rfl))) (fun _ _ _ _ _ => (pts_one (pt_val (pe_callB (id := "isinstance") (k_isK K) (by rfl) T.n_isinstance (by decide +kernel) (pa_cons (pv 6) (pa_cons (pe_ty "bool" (by rfl) T.n_bool (by decide +kernel)) pa_nil)))))) (fun _ _ _ _ _ => (pv 6))) (pe_lst pa_nil) (nomark _)) (pw_or1 (pt_val (pe_callB (id := "isinstance") (k_isK K) (by rfl) T.n_isinstance (by decide +kernel) (pa_cons (pe_has h_fewest (hr.mono (by decide)) rfl passB (pa_cons (pv 0) (pa_cons (pv 1) pa_nil))) (pa_cons (pe_ty "bool" (by rfl) T.n_bool (by decide +kernel)) pa_nil)))))))
      (pss_one (ps_ret pe_bl)) pss_nil)
      (pss_one (ps_expr (k_bm K PySem.F.plainAttrs_list PySem.F.slot_list_append PySem.F.type_list_append mt_append (pv 5) (pa_cons pe_int pa_nil))))))))
      (pss_one (ps_ret pe_bl)))), ?_⟩)
  · obtain ⟨a, d, n, k, l, rfl, _⟩ := h
    rfl
  · obtain ⟨a, d, n, k, l, rfl, hn, hA, hl40, hlt, hf, hd, q⟩ := h
    simp only [L2.start, N_law_good, List.map_cons, List.map_nil, List.length_cons, List.length_nil, List.replicate_succ, List.replicate_zero, Nat.reduceAdd, Nat.reduceSub, List.cons_append, List.nil_append]
    refine seq_cut1 fun R1 h1 => ?_
    walk_at "rl"
    obtain ⟨hkn, hc, _⟩ := few_some hn hlt hf
    obtain ⟨hgl, hgm, _, _⟩ := greed_ok hn hlt k (Nat.two_pow_pos n) hc
    have hS : ∀ {G}, Ex H G → IsSets K G (.ref a) n l := fun e => ⟨a, rfl, ex_l e hA, hl40, hlt⟩
    refine ⟨_, .inl hA, ?_⟩
    intro p1 n1; generalize hG1 : upd _ p1 _ = G1; have x1 := upd_ex hG1 n1; have f1 := upd_at hG1; clear hG1; have e1 := x1
    subst h1
    walk_at "rl"
    refine ⟨by decide, by decide, ?_⟩
    refine w_rng0 (n := 2) (fun i σ H' => ∃ z4 z5, σ = [some (.int (n : Nat)), some (.ref a), some (.ref d), some (.ref p1), z4, z5, none] ∧ Ex G1 H')
      ⟨_, _, rfl, Ex.refl _⟩ (fun i σ H' hi hP => ?_) (fun σ H' hP => ?_)
    · obtain ⟨z4, z5, rfl, k0⟩ := hP
      refine seq_cut2 fun R2 h2 => ?_
      walk_at "rl"
      have e10 := e1.trans k0
      refine ⟨_, _, rfl, El.int _, .inl ⟨n, l, rfl, hn, hS e10, fun k2 hk2 => ?_, fun z => by rw [hf] at z; cases z⟩⟩
      cases hf.symm.trans hk2
      intro p2 G2 n2 x2 f2
      have e11 := e10.trans x2
      refine ⟨.lst, .lst (.inl (.inl f2)), iteF ?_⟩
      refine ne_ints (.inl (.inl f2)) (.inl (.inl (e11 _ _ hd))) ⟨_, rfl, ?_⟩
      rw [decide_eq_true rfl]
      refine iteF ?_
      refine ne_ints (ex_l e11 hA) (.inl (.inl ((k0.trans x2) _ _ f1))) ⟨_, rfl, ?_⟩
      rw [decide_eq_true rfl]
      refine iteF ?_
      refine ⟨_, _, rfl, El.int _, .inl ⟨n, l, rfl, by omega, hS e11, fun k3 hk3 G3 x3 => ?_, fun z => by rw [hf] at z; cases z⟩⟩
      cases hf.symm.trans hk3
      refine ⟨_, .inl (.inl (.inl ((e11.trans x3) _ _ hd))), rfl, ?_⟩
      rw [len_ordI, hgl, decide_eq_true rfl]
      refine iteF ?_
      subst h2
      walk_at "rl"
      have e12 := e11.trans x3
      have f3 := x3 _ _ f2
      refine ⟨⟨_, .inl (.inl f3)⟩, ?_⟩
      refine wl_ints (K := K) (ordI (greedM n l k 0)) (fun _ => false) (fun z => .int z) (.inl (.inl f3)) (by unfold ordI; rw [List.length_map]; omega) (fun _ => rfl) (fun z _ K1 k1 K2 k2 Q2 q2 => ?_) (fun z _ K1 k1 hz => by cases hz) (fun v G4 n4 x4 h4 => ?_)
      · walk_at "rd"
        exact ⟨.int, .int _, q2 _ (Ex.refl _)⟩
      · rw [show ((ordI (greedM n l k 0)).filter fun _ => false) = [] from List.filter_eq_nil_iff.mpr fun _ _ h => by cases h] at h4
        refine ⟨by decide, ?_⟩
        intro p5 n5
        have x5 := Ex.new (o := HO.lst ([] : List V)) n5
        refine ne_ints (ns := []) (ms := []) (.inl (.inl (x5 _ _ h4))) (.inl (.inl upd_same)) ⟨_, rfl, ?_⟩
        generalize upd G4 p5 _ = G5 at *
        rw [decide_eq_true rfl]
        refine iteF ⟨_, _, rfl, El.int _, .inl ⟨n, l, rfl, by omega, hS ((e12.trans x4).trans x5), fun k4 hk4 G6 x6 => ?_, fun z => by rw [hf] at z; cases z⟩⟩
        have f6 := ((x4.trans x5).trans x6) _ _ f3
        refine ⟨.int, .int _, iteF ⟨ty_lst (.inl (.inl f6)), _, f6, ?_, _, _, ⟨rfl, rfl⟩, ex_mut (((((k0.trans x2).trans x3).trans x4).trans x5).trans x6) (fresh_back k0 n2)⟩⟩
        rw [len_ordI]
        exact sz_lt (by omega)
    · obtain ⟨z4, z5, rfl, k0⟩ := hP
      dsimp only
      walk_at "rd"
      exact q H' (e1.trans k0)

def sp_law_great_good (K : PySem.W.Frag) : Sp := fun vs H Q _ => ∃ (a : Addr) (n : Nat) (l : List Nat), vs = [.int (n : Nat), .ref a] ∧ n ≤ 5 ∧ SqL K H a ((ordI l).map V.int) ∧ l.length ≤ 40 ∧ (∀ k ∈ l, k < 2 ^ n) ∧ ∀ H', Q (.bl true) H'
theorem ok_law_great_good (T : Txt K mg) (h_law_caught : Has P w K mg base 9 "_law_caught" ["_law_which", "_law_many", "_law_sets_here"] (sp_law_caught K)) (h_law_kind : Has P w K mg base 1 "_law_kind" ["_law_caught_here"] (sp_law_kind K)) (h_law_together : Has P w K mg base 1 "_law_together" ["_law_sets_here", "_law_places"] (sp_law_together K)) (h_covers : Has P w K mg base 7 "covers" ["many", "sets", "long"] (sp_covers K)) (h_fewest : Has P w K mg base 7 "fewest" ["many", "sets"] (sp_fewest K)) (h_least_cover : Has P w K mg base 8 "least_cover" ["many", "sets"] (sp_least_cover K)) : Has P w K mg base 10 "_law_great_good" ["_law_many", "_law_sets_here"] (sp_law_great_good K) := by
  refine DefAt.has T.d_law_great_good sc_law_great_good (fun vs H Q E h => ?_) (fun f cdv A outer s H vs Q E hr h => ⟨_, (pss_cons (ps_set (i := 2) sc_law_great_good.nd rfl (Or.inl rfl) (pe_op op_sub (pe_op op_sh pe_int (pv 0)) pe_int))
      (pss_cons (ps_if (pt_cmpR op_ne (pe_has h_law_together (hr.mono (by decide)) rfl passB (pa_cons (pv 1) (pa_cons (pe_listRg rfl (by rfl) T.n_list (prg_1 (by rfl) T.n_range (pe_callB (id := "len") (k_len K) (by rfl) T.n_len (by decide +kernel) (pa_cons (pv 1) pa_nil)))) pa_nil))) (pv 2) (nomark _))
      (pss_one (ps_ret (pe_cmpR (k_eqD K hr.units) (pe_has h_law_kind (hr.mono (by decide)) rfl passB (pa_cons (pe_has h_law_caught (hr.mono (by decide)) rfl passB (pa_cons pe_int (pa_cons (pv 0) (pa_cons (pv 1) pa_nil)))) pa_nil)) (pe_lst (pa_cons pe_str (pa_cons pe_str pa_nil))) (nomark _)))) pss_nil)
      (pss_cons (ps_set (i := 3) sc_law_great_good.nd rfl (Or.inl rfl) (pe_has h_least_cover (hr.mono (by decide)) rfl passB (pa_cons (pv 0) (pa_cons (pv 1) pa_nil))))
      (pss_cons (ps_if (PW.pt (pw_or (pt_cmpR (k_neD K hr.units) (pv 3) (pe_callB (id := "sorted") (k_sortOf w rfl) (by rfl) T.n_sorted (by decide +kernel) (pa_cons (pe_callTy (T := "set") (k_setOf K w rfl) (by rfl) T.n_set (by decide +kernel) (pa_cons (pv 3) pa_nil)) pa_nil)) (nomark _)) (pw_or (pt_cmpR op_ne (pe_has h_law_together (hr.mono (by decide)) rfl passB (pa_cons (pv 1) (pa_cons (pv 3) pa_nil))) (pv 2) (nomark _)) (pw_or1 (pt_cmpR op_ne (pe_callB (id := "len") (k_len K) (by rfl) T.n_len (by decide +kernel) (pa_cons (pv 3) pa_nil)) (pe_has h_fewest (hr.mono (by decide)) rfl passB (pa_cons (pv 0) (pa_cons (pv 1) pa_nil))) (nomark _))))))
      (pss_one (ps_ret pe_bl)) pss_nil)
      (pss_cons (ps_if (PW.pt (pw_and (pt_cmpR op_gt (pe_callB (id := "len") (k_len K) (by rfl) T.n_len (by decide +kernel) (pa_cons (pv 3) pa_nil)) pe_int (nomark _)) (pw_and1 (pt_cmpR op_ne (pe_has h_covers (hr.mono (by decide)) rfl passB (pa_cons (pv 0) (pa_cons (pv 1) (pa_cons (pe_op op_sub (pe_callB (id := "len") (k_len K) (by rfl) T.n_len (by decide +kernel) (pa_cons (pv 3) pa_nil)) pe_int) pa_nil)))) pe_int (nomark _)))))
      (pss_one (ps_ret pe_bl)) pss_nil)
      (pss_one (ps_ret (pe_cmpR op_gt (pe_has h_covers (hr.mono (by decide)) rfl passB (pa_cons (pv 0) (pa_cons (pv 1) (pa_cons (pe_callB (id := "len") (k_len K) (by rfl) T.n_len (by decide +kernel) (pa_cons (pv 3) pa_nil)) pa_nil)))) pe_int (nomark _))))))))), ?_⟩)
  · obtain ⟨a, n, l, rfl, _⟩ := h
    rfl
  · obtain ⟨a, n, l, rfl, hn, hA, hl40, hlt, q⟩ := h
    simp only [L2.start, N_law_great_good, List.map_cons, List.map_nil, List.length_cons, List.length_nil, List.replicate_succ, List.replicate_zero, Nat.reduceAdd, Nat.reduceSub, List.cons_append, List.nil_append]
    refine seq_cut2 fun R1 h1 => ?_
    walk_at "rl"
    have hS : ∀ {G}, Ex H G → IsSets K G (.ref a) n l := fun e => ⟨a, rfl, ex_l e hA, hl40, hlt⟩
    refine ⟨cpow1 (by omega), _, .inl hA, ?_, ?_⟩
    · rw [len_ordI]
      exact RgOk.of_le (by omega) (by omega) (by omega) (by omega)
    intro p1 n1; generalize hG1 : upd _ p1 _ = G1; have x1 := upd_ex hG1 n1; have f1 := upd_at hG1; clear hG1; have e1 := x1
    have hpos := Nat.two_pow_pos n
    have hrg : ∀ m : Nat, rgV 0 (m : Int) = (ordI (List.range m)).map V.int := fun m => by
      unfold rgV ordI
      rw [List.map_map, show ((m : Int) - 0).toNat = m from by omega]
      refine List.map_congr_left fun i _ => ?_
      show V.int (0 + (i : Nat)) = V.int (i : Nat)
      rw [Int.zero_add]
    rw [len_ordI, hrg] at f1
    refine ⟨a, p1, l, List.range l.length, rfl, ex_l e1 hA, .inl (.inl f1), fun p hp => List.mem_range.mp hp, fun G2 x2 => ⟨rfl, ?_⟩⟩
    have e2 := e1.trans x2
    by_cases hfull : togM l 0 (List.range l.length) = 2 ^ n - 1
    · rw [decide_eq_true (congrArg V.int (by rw [hfull, Int.natCast_sub hpos] <;> rfl))]
      refine iteF ?_
      obtain ⟨k, hf⟩ := few_full hn hlt hfull
      obtain ⟨hkn, hc, hmin⟩ := few_some hn hlt hf
      obtain ⟨hgl, hgm, hgt, _⟩ := greed_ok hn hlt k (Nat.two_pow_pos n) hc
      subst h1
      refine seq_cut2 fun R2 h2 => ?_
      walk_at "rl"
      refine ⟨_, _, rfl, El.int _, .inl ⟨n, l, rfl, hn, hS e2, fun k3 hk3 => ?_, fun z => by rw [hf] at z; cases z⟩⟩
      cases hf.symm.trans hk3
      intro p3 G3 n3 x3 f3
      have e3 := e2.trans x3
      refine ⟨p3, _, rfl, .inl (.inl f3), by unfold ordI; rw [List.length_map]; omega, ?_⟩
      intro st c nst
      refine ⟨st, _, _, rfl, upd_same, fun ks pp h4 h5 h6 np => ?_⟩
      rw [sorted_rise (adj_pair (greed_rise hn hlt hc hmin)) h4 h5 h6]
      have x4 := Ex.new (o := SetO w st (fun j => decide (j ∈ ordI (greedM n l k 0))) c) nst
      have x5 := Ex.new (o := HO.lst ((ordI (greedM n l k 0)).map V.int)) np
      have e5 := (e3.trans x4).trans x5
      have f5 := (x4.trans x5) _ _ f3
      refine ne_ints (.inl (.inl f5)) (.inl (.inl upd_same)) ⟨_, rfl, ?_⟩
      generalize upd (upd G3 st _) pp _ = G5 at *
      rw [decide_eq_true rfl]
      refine iteF ⟨a, p3, l, greedM n l k 0, rfl, ex_l e5 hA, .inl (.inl f5), hgm, fun G6 x6 => ⟨rfl, ?_⟩⟩
      rw [decide_eq_true (congrArg V.int (by rw [hgt, Int.natCast_sub hpos] <;> rfl))]
      refine iteF ⟨p3, rfl, _, .inl (.inl (.inl (x6 _ _ f5))), ?_⟩
      have e6 := e5.trans x6
      refine ⟨_, _, rfl, El.int _, .inl ⟨n, l, rfl, by omega, hS e6, fun k4 hk4 G7 x7 => ?_, fun z => by rw [hf] at z; cases z⟩⟩
      cases hf.symm.trans hk4
      have e7 := e6.trans x7
      have f7 := (x6.trans x7) _ _ f5
      rw [len_ordI, hgl]
      refine ⟨rfl, ?_⟩
      rw [decide_eq_true rfl]
      refine iteF ?_
      subst h2
      walk_at "rl"
      refine ⟨_, .inl (.inl (.inl f7)), ?_⟩
      have hr : ∀ j, 0 < at0 (restM n l j) 0 ↔ CovR n l j 0 := fun j => rest_pos hn hlt j hpos
      have fin : ∀ G8, Ex G7 G8 → ∃ x, (SqL K G8 p3 x ∨ SqT K G8 p3 x) ∧ sp_covers K [V.int (n : Nat), V.ref a, V.int (x.length : Nat)] G8 (fun x H1 => ∃ i, x = V.int i ∧ Q (V.bl (decide (0 < i))) H1) E := fun G8 x8 => by
        refine ⟨_, .inl (.inl (.inl (x8 _ _ f7))), ?_⟩
        rw [len_ordI, hgl]
        refine ⟨_, _, _, rfl, El.int _, El.int _, .inl ⟨n, k, l, rfl, rfl, by omega, by omega, hS (e7.trans x8), fun G9 x9 => ⟨_, rfl, ?_⟩⟩⟩
        rw [decide_eq_true ((hr k).mpr hc)]
        exact q G9
      refine ite2 (fun h0 => ?_) (fun _ => fin G7 (Ex.refl _))
      rw [len_ordI, hgl] at h0
      refine ⟨_, .inl (.inl (.inl f7)), ?_⟩
      rw [len_ordI, hgl]
      refine ⟨_, _, _, rfl, El.int _, El.int _, .inl ⟨n, k - 1, l, rfl, by congr 1; omega, by omega, by omega, hS e7, fun G8 x8 => ⟨rfl, ?_⟩⟩⟩
      have hz : at0 (restM n l (k - 1)) 0 = 0 := by
        have h1 := rest_nn hn hlt (k - 1) hpos
        have h2 : ¬ 0 < at0 (restM n l (k - 1)) 0 := fun z => hmin (k - 1) (by omega) ((hr _).mp z)
        omega
      rw [hz, decide_eq_true rfl]
      exact iteF (fin G8 x8)
    · rw [decide_eq_false (fun z => hfull (by have := V.int.inj z; generalize 2 ^ n = N at *; omega))]
      refine iteT ?_
      refine ⟨0, _, _, "NoCover", rfl, El.int _, by decide, .inr (.inr ⟨rfl, n, l, rfl, hn, hS e2, few_part hn hlt hfull⟩), fun c1 G3 nc1 x3 hc1 => ⟨_, rfl, .inr ⟨c1, "NoCover", rfl, by decide, hc1, fun w1 G4 nw1 x4 hw1 => ?_⟩⟩⟩
      exact kind_eq (by decide +kernel) (by decide +kernel) hw1 fun G5 x5 => q _

def sp_law (K : PySem.W.Frag) : Sp := fun vs H Q _ => ∃ (a : Addr) (ns : List Int), vs = [.ref a] ∧ SqL K H a (ns.map V.int) ∧ ns.length ≤ 63 ∧ ∀ H', Q (.bl true) H'
theorem ok_law (T : Txt K mg) (h_law_caught : Has P w K mg base 9 "_law_caught" ["_law_which", "_law_many", "_law_sets_here"] (sp_law_caught K)) (h_law_first : Has P w K mg base 2 "_law_first" ["_law_many", "_law_sets_here"] (sp_law_first K)) (h_law_good : Has P w K mg base 9 "_law_good" ["_law_many", "_law_sets_here", "_law_due"] (sp_law_good K)) (h_law_great_good : Has P w K mg base 10 "_law_great_good" ["_law_many", "_law_sets_here"] (sp_law_great_good K)) (h_law_kind : Has P w K mg base 1 "_law_kind" ["_law_caught_here"] (sp_law_kind K)) (h_law_mixed : Has P w K mg base 2 "_law_mixed" ["_law_script", "_law_k"] (sp_law_mixed K)) (h_law_sets : Has P w K mg base 3 "_law_sets" ["_law_script", "_law_many", "_law_size", "_law_first_here"] (sp_law_sets K)) {f : Addr} {fd : FuncData} (F : FunD K "law" "law" (defArgs s_law) (defBody s_law) (defScope s_law) [] [] f fd) : FnOk P w K mg base (L2.CX P w) 11 f fd ["_law_script"] (sp_law K) := by
  refine FunD.ok F sc_law (fun vs H Q E h => ?_) (fun cdv A outer s H vs Q E hr h => ⟨_, (pss_cons (ps_set (i := 1) sc_law.nd rfl (Or.inl rfl) (pe_op op_mod (pe_has h_law_mixed (hr.mono (by decide)) rfl passB (pa_cons (pv 0) (pa_cons pe_int pa_nil))) pe_int))
      (pss_cons (ps_set (i := 2) sc_law.nd rfl (Or.inl rfl) (pe_has h_law_sets (hr.mono (by decide)) rfl passB (pa_cons (pv 0) (pa_cons (pv 1) (pa_cons (pe_op op_mod (pe_has h_law_mixed (hr.mono (by decide)) rfl passB (pa_cons (pv 0) (pa_cons pe_int pa_nil))) pe_int) (pa_cons pe_int pa_nil))))))
      (pss_cons (ps_set (i := 3) sc_law.nd rfl (Or.inl rfl) (pe_has h_law_first (hr.mono (by decide)) rfl passB (pa_cons (pv 1) (pa_cons (pv 2) pa_nil))))
      (pss_cons (ps_if (pt_cmp (pc_isN (pv 3)) rfl)
      (pss_one (ps_for (passes_of rfl) rfl (pi_range1 rfl T.n_range (pa_cons pe_int pa_nil)) (pg_name (i := 4) sc_law.nd rfl (Or.inl rfl))
      (pss_one (ps_if (pt_cmpR (k_neD K hr.units) (pe_has h_law_kind (hr.mono (by decide)) rfl passB (pa_cons (pe_has h_law_caught (hr.mono (by decide)) rfl passB (pa_cons (pv 4) (pa_cons (pv 1) (pa_cons (pv 2) pa_nil)))) pa_nil)) (pe_lst (pa_cons pe_str (pa_cons pe_str pa_nil))) (nomark _))
      (pss_one (ps_ret pe_bl)) pss_nil)))) (pss_one (ps_if (pt_not (pt_val (pe_has h_law_good (hr.mono (by decide)) rfl passB (pa_cons (pv 1) (pa_cons (pv 2) (pa_cons (pv 3) pa_nil))))))
      (pss_one (ps_ret pe_bl)) pss_nil)))
      (pss_cons (ps_set (i := 5) sc_law.nd rfl (Or.inl rfl) (pe_ix (k_ixl K) (pe_lst (pa_cons (pe_op op_cat (pv 2) (pe_lst (pa_cons (pe_op op_sh pe_int (pv 1)) pa_nil))) (pa_cons (pe_op op_cat (pv 2) (pe_lst (pa_cons pe_non pa_nil))) (pa_cons pe_non (pa_cons (pe_callTy (T := "tuple") (k_tuple K) (by rfl) T.n_tuple (by decide +kernel) (pa_cons (pv 2) pa_nil)) (pa_cons (pe_op op_rep (pe_lst (pa_cons pe_int pa_nil)) pe_int) (pa_cons (pe_op op_cat (pv 2) (pe_lst (pa_cons pe_bl pa_nil))) pa_nil))))))) (pe_op op_mod (pe_has h_law_mixed (hr.mono (by decide)) rfl passB (pa_cons (pv 0) (pa_cons pe_int pa_nil))) pe_int) (fun _ _ => rfl)))
      (pss_cons (ps_for (passes_of rfl) rfl (pi_range1 rfl T.n_range (pa_cons pe_int pa_nil)) (pg_name (i := 4) sc_law.nd rfl (Or.inl rfl))
      (pss_cons (ps_if (pt_cmpR (k_neD K hr.units) (pe_has h_law_kind (hr.mono (by decide)) rfl passB (pa_cons (pe_has h_law_caught (hr.mono (by decide)) rfl passB (pa_cons (pv 4) (pa_cons (pe_ix (k_ixl K) (pe_lst (pa_cons (pe_un un_neg pe_int) (pa_cons pe_int (pa_cons pe_non (pa_cons pe_bl pa_nil))))) (pe_op op_mod (pe_has h_law_mixed (hr.mono (by decide)) rfl passB (pa_cons (pv 0) (pa_cons pe_int pa_nil))) pe_int) (fun _ _ => rfl)) (pa_cons (pv 5) pa_nil)))) pa_nil)) (pe_lst (pa_cons pe_str (pa_cons pe_str pa_nil))) (nomark _))
      (pss_one (ps_ret pe_bl)) pss_nil)
      (pss_one (ps_if (pt_cmpR (k_neD K hr.units) (pe_has h_law_kind (hr.mono (by decide)) rfl passB (pa_cons (pe_has h_law_caught (hr.mono (by decide)) rfl passB (pa_cons (pv 4) (pa_cons (pv 1) (pa_cons (pv 5) pa_nil)))) pa_nil)) (pe_lst (pa_cons pe_str (pa_cons pe_str pa_nil))) (nomark _))
      (pss_one (ps_ret pe_bl)) pss_nil))))
      (pss_one (ps_ret (pe_has h_law_great_good (hr.mono (by decide)) rfl passB (pa_cons (pv 1) (pa_cons (pe_has h_law_sets (hr.mono (by decide)) rfl passB (pa_cons (pv 0) (pa_cons (pv 1) (pa_cons (pe_callB (id := "min") (call_min2 rfl) (by rfl) T.n_min (by decide +kernel) (pa_cons (pe_callB (id := "len") (k_len K) (by rfl) T.n_len (by decide +kernel) (pa_cons (pv 0) pa_nil)) (pa_cons pe_int pa_nil))) (pa_cons pe_int pa_nil))))) pa_nil))))))))))), ?_⟩)
  · obtain ⟨a, ns, rfl, _⟩ := h
    rfl
  · obtain ⟨a, ns, rfl, hA, hz, q⟩ := h
    simp only [L2.start, N_law, List.map_cons, List.map_nil, List.length_cons, List.length_nil, List.replicate_succ, List.replicate_zero, Nat.reduceAdd, Nat.reduceSub, List.cons_append, List.nil_append]
    refine seq_cut4 fun R1 h1 => ?_
    walk_at "rl"
    obtain ⟨n, hn6, hn⟩ : ∃ n : Nat, mixedM ns 0 % 6 = (n : Int) ∧ n ≤ 5 := ⟨(mixedM ns 0 % 6).toNat, by have := mixedM_nn ns 0; omega, by omega⟩
    obtain ⟨m, hm10, hm⟩ : ∃ n : Nat, mixedM ns 1 % 10 = (n : Int) ∧ n ≤ 9 := ⟨(mixedM ns 1 % 10).toNat, by have := mixedM_nn ns 1; omega, by omega⟩
    have hpos := Nat.two_pow_pos n
    refine ⟨a, ns, 0, rfl, hA, by decide, fun G1 e1 => ⟨_, rfl, by decide, ?_⟩⟩
    rw [hn6]
    refine ⟨a, ns, 1, rfl, ex_l e1 hA, by decide, fun G2 x2 => ⟨_, rfl, by decide, ?_⟩⟩
    rw [hm10]
    have e2 := e1.trans x2
    refine ⟨a, ns, n, m, 10, rfl, ex_l e2 hA, by omega, by omega, by decide, fun l hlm hlt p3 G3 n3 x3 f3 => ?_⟩
    have e3 := e2.trans x3
    have hG := ex_l e3 hA
    have hl3 : SqL K G3 p3 ((ordI l).map V.int) := .inl (.inl f3)
    have hS : ∀ {G}, Ex G3 G → IsSets K G (.ref p3) n l := fun e => ⟨p3, rfl, ex_l e hl3, by omega, hlt⟩
    have rest : ∀ (z3 z4 : Option V) H', Ex G3 H' → R1 { nx := fun x H' => Q V.non H', rt := Q } [some (.ref a), some (.int (n : Nat)), some (.ref p3), z3, z4, none] H' := by
      intro z3 z4 G4 e4
      subst h1
      refine seq_cut1 fun R2 h2 => ?_
      walk_at "rl"
      have hl4 : ∀ {G}, Ex G3 G → G p3 = some (.lst ((ordI l).map V.int)) := fun e => e _ _ f3
      have hi2 : ∀ (i k : Int), k < i → amg (.int i) 0 k = false := fun i k h => by
        show (decide (0 ≤ i) && decide (i ≤ k)) = false
        rw [decide_eq_false (p := i ≤ k) (by omega), Bool.and_false]
      have hm1 : ∀ k : Int, amg (.int (-1)) 0 k = false := fun k => by unfold amg; simp
      refine ⟨cpow1 (by omega), sz_of (by simp), ?_⟩
      intro p5 n5; generalize hG5 : upd _ p5 _ = G5; have x5 := upd_ex hG5 n5; have f5 := upd_at hG5; clear hG5; have e5 := e4.trans x5
      refine ⟨_, hl4 e5, _, f5, sz_of (by rw [len_ordI]; simp; omega), ?_⟩
      intro p6 n6; generalize hG6 : upd _ p6 _ = G6; have x6 := upd_ex hG6 n6; have f6 := upd_at hG6; clear hG6; have e6 := e5.trans x6
      refine ⟨sz_of (by simp), ?_⟩
      intro p7 n7; generalize hG7 : upd _ p7 _ = G7; have x7 := upd_ex hG7 n7; have f7 := upd_at hG7; clear hG7; have e7 := e6.trans x7
      refine ⟨_, hl4 e7, _, f7, sz_of (by rw [len_ordI]; simp; omega), ?_⟩
      intro p8 n8; generalize hG8 : upd _ p8 _ = G8; have x8 := upd_ex hG8 n8; have f8 := upd_at hG8; clear hG8; have e8 := e7.trans x8
      refine ⟨_, .inl ⟨.inl (.inl (hl4 e8)), ?_⟩⟩
      intro p9 n9; generalize hG9 : upd _ p9 _ = G9; have x9 := upd_ex hG9 n9; have f9 := upd_at hG9; clear hG9; have e9 := e8.trans x9
      refine ⟨sz_of (by simp), ?_⟩
      intro p10 n10; generalize hG10 : upd _ p10 _ = G10; have x10 := upd_ex hG10 n10; have f10 := upd_at hG10; clear hG10; have e10 := e9.trans x10
      refine ⟨_, f10, by decide, by decide, sz_of (by simp), ?_⟩
      intro p11 n11; generalize hG11 : upd _ p11 _ = G11; have x11 := upd_ex hG11 n11; have f11 := upd_at hG11; clear hG11; have e11 := e10.trans x11
      refine ⟨sz_of (by simp), ?_⟩
      intro p12 n12; generalize hG12 : upd _ p12 _ = G12; have x12 := upd_ex hG12 n12; have f12 := upd_at hG12; clear hG12; have e12 := e11.trans x12
      refine ⟨_, hl4 e12, _, f12, sz_of (by rw [len_ordI]; simp; omega), ?_⟩
      intro p13 n13; generalize hG13 : upd _ p13 _ = G13; have x13 := upd_ex hG13 n13; have f13 := upd_at hG13; clear hG13; have e13 := e12.trans x13
      refine ⟨sz_of (by simp), ?_⟩
      intro p14 n14; generalize hG14 : upd _ p14 _ = G14; have x14 := upd_ex hG14 n14; have f14 := upd_at hG14; clear hG14; have e14 := e13.trans x14
      refine ⟨a, ns, 2, rfl, ex_l e14 hG, by decide, fun G15 x15 => ⟨_, rfl, by decide, _, .inl (.inl (x15 _ _ f14)), ?_⟩⟩
      have e15 := e14.trans x15
      have hw : ∃ w, atI [V.ref p6, V.ref p8, V.non, V.ref p9, V.ref p11, V.ref p13] (mixedM ns 2 % 6) = some w ∧ NoSets K G15 w n := by
        have h4 : (mixedM ns 2 % 6).toNat < 6 ∧ mixedM ns 2 % 6 = (((mixedM ns 2 % 6).toNat : Nat) : Int) := by
          have := mixedM_nn ns 2
          omega
        obtain ⟨h4, e4⟩ := h4
        rw [e4]
        generalize (mixedM ns 2 % 6).toNat = z at h4
        have elL : ∀ {y}, y ∈ (ordI l).map V.int → El K G15 y := fun h => by
          obtain ⟨i, _, rfl⟩ := List.mem_map.mp h
          exact .int i
        match z, h4 with
        | 0, _ => exact ⟨_, atI_nat rfl, .inr ⟨p6, _, rfl, .inl (.inl ((x7.trans (x8.trans (x9.trans (x10.trans (x11.trans (x12.trans (x13.trans (x14.trans x15)))))))) _ _ f6)), by rw [List.length_append, len_ordI]; simp; omega, .inr ⟨fun y hy => (List.mem_append.mp hy).elim elL fun h => by rw [List.mem_singleton.mp h]; exact .int _, .int ((2 ^ n : Nat) : Int), by simp, hi2 _ _ (by rw [pow2c]; omega)⟩⟩⟩
        | 1, _ => exact ⟨_, atI_nat (j := 1) rfl, .inr ⟨p8, _, rfl, .inl (.inl ((x9.trans (x10.trans (x11.trans (x12.trans (x13.trans (x14.trans x15)))))) _ _ f8)), by rw [List.length_append, len_ordI]; simp; omega, .inr ⟨fun y hy => (List.mem_append.mp hy).elim elL fun h => by rw [List.mem_singleton.mp h]; exact ⟨.non, .non, rfl⟩, .non, by simp, rfl⟩⟩⟩
        | 2, _ => exact ⟨_, atI_nat (j := 2) rfl, .inl ⟨.non, .non, by decide⟩⟩
        | 3, _ => exact ⟨_, atI_nat (j := 3) rfl, .inl ⟨.tup, .tup (.inl (.inl ((x10.trans (x11.trans (x12.trans (x13.trans (x14.trans x15))))) _ _ f9))), by decide⟩⟩
        | 4, _ => exact ⟨_, atI_nat (j := 4) rfl, .inr ⟨p11, _, rfl, .inl (.inl ((x12.trans (x13.trans (x14.trans x15))) _ _ f11)), by rw [len_rep]; decide, .inl (by rw [len_rep]; decide)⟩⟩
        | 5, _ => exact ⟨_, atI_nat (j := 5) rfl, .inr ⟨p13, _, rfl, .inl (.inl ((x14.trans x15) _ _ f13)), by rw [List.length_append, len_ordI]; simp; omega, .inr ⟨fun y hy => (List.mem_append.mp hy).elim elL fun h => by rw [List.mem_singleton.mp h]; exact ⟨.bl, .bl _, rfl⟩, .bl true, by simp, rfl⟩⟩⟩
      obtain ⟨bd, hb1, hb2⟩ := hw
      refine ⟨_, hb1, ?_⟩
      subst h2
      refine seq_cut1 fun R3 h3 => ?_
      walk_at "rl"
      refine ⟨by decide, by decide, ?_⟩
      refine w_rng0 (n := 2) (fun i σ H' => ∃ z4, σ = [some (.ref a), some (.int (n : Nat)), some (.ref p3), z3, z4, some bd] ∧ Ex G15 H')
        ⟨_, rfl, Ex.refl _⟩ (fun i σ H' hi hP => ?_) (fun σ H' hP => ?_)
      · obtain ⟨z4, rfl, k0⟩ := hP
        refine seq_cut1 fun R4 h4 => ?_
        walk_at "rl"
        have e16 := e15.trans k0
        refine ⟨sz_of (by simp), ?_⟩
        intro p17 n17; generalize hG17 : upd _ p17 _ = G17; have x17 := upd_ex hG17 n17; have f17 := upd_at hG17; clear hG17; have e17 := e16.trans x17
        refine ⟨a, ns, 3, rfl, ex_l e17 hG, by decide, fun G18 x18 => ⟨_, rfl, by decide, _, .inl (.inl (x18 _ _ f17)), ?_⟩⟩
        have e18 := e17.trans x18
        have hw : ∃ w, atI [V.int (-1), V.int 11, V.non, V.bl true] (mixedM ns 3 % 4) = some w ∧ El K G18 w ∧ amg w 0 10 = false := by
          have h4 : (mixedM ns 3 % 4).toNat < 4 ∧ mixedM ns 3 % 4 = (((mixedM ns 3 % 4).toNat : Nat) : Int) := by
            have := mixedM_nn ns 3
            omega
          obtain ⟨h4, e4⟩ := h4
          rw [e4]
          generalize (mixedM ns 3 % 4).toNat = z at h4
          match z, h4 with
          | 0, _ => exact ⟨_, atI_nat rfl, .int _, hm1 _⟩
          | 1, _ => exact ⟨_, atI_nat (j := 1) rfl, .int _, hi2 _ _ (by decide)⟩
          | 2, _ => exact ⟨_, atI_nat (j := 2) rfl, ⟨.non, .non, rfl⟩, rfl⟩
          | 3, _ => exact ⟨_, atI_nat (j := 3) rfl, ⟨.bl, .bl _, rfl⟩, rfl⟩
        obtain ⟨w, hw1, hw2, hw3⟩ := hw
        refine ⟨_, hw1, ?_⟩
        refine ⟨i, w, bd, "BadCount", rfl, hw2, by decide, .inl ⟨rfl, hw3⟩, fun c1 G19 nc1 x19 hc1 => ⟨_, rfl, .inr ⟨c1, "BadCount", rfl, by decide, hc1, fun w1 G20 nw1 x20 hw1 => ?_⟩⟩⟩
        refine kind_ok (by decide +kernel) (by decide +kernel) hw1 fun G21 x21 => ⟨_, rfl, iteF ?_⟩
        have k21 := (((k0.trans x17).trans x18).trans x19).trans (x20.trans x21)
        subst h4
        walk_at "rl"
        refine ⟨i, _, bd, "BadSet", rfl, El.int _, by decide, .inr (.inl ⟨rfl, n, rfl, by omega, hb2.mono k21⟩), fun c1 G22 nc1 x22 hc1 => ⟨_, rfl, .inr ⟨c1, "BadSet", rfl, by decide, hc1, fun w1 G23 nw1 x23 hw1 => ?_⟩⟩⟩
        exact kind_ok (by decide +kernel) (by decide +kernel) hw1 fun G24 x24 => ⟨_, rfl, iteF ((k21.trans x22).trans (x23.trans x24))⟩
      · obtain ⟨z4, rfl, k0⟩ := hP
        subst h3
        dsimp only
        walk_at "rl"
        have e16 := e15.trans k0
        refine ⟨_, .inl (ex_l e16 hG), _, _, ⟨rfl, rfl⟩, ?_⟩
        obtain ⟨m2, hm2, hm2l⟩ : ∃ m2 : Nat, (if (40 : Int) < ((ns.map V.int).length : Int) then (40 : Int) else ((ns.map V.int).length : Int)) = (m2 : Int) ∧ m2 ≤ 40 := by
          split
          · exact ⟨40, rfl, by decide⟩
          · exact ⟨(ns.map V.int).length, rfl, by omega⟩
        rw [hm2]
        refine ⟨a, ns, n, m2, 100, rfl, ex_l e16 hG, by omega, hm2l, by decide, fun l2 hl2 hlt2 p7 G17 n17 x17 f17 => ?_⟩
        exact ⟨p7, n, l2, rfl, hn, .inl (.inl f17), by omega, hlt2, q⟩
    refine ⟨.ref p3, n, l, rfl, hn, by omega, hS (Ex.refl _), fun k hk p4 G4 n4 x4 f4 => ?_, fun hk G4 x4 => ?_⟩
    · show if V.ref p4 = V.non then _ else _
      rw [if_neg (fun z => nomatch z)]
      exact ⟨p3, p4, n, k, l, rfl, hn, ex_l x4 hl3, by omega, hlt, hk, f4, fun G5 x5 => ⟨_, rfl, iteF (rest _ _ G5 (x4.trans x5))⟩⟩
    · show if V.non = V.non then _ else _
      rw [if_pos rfl]
      refine ⟨by decide, by decide, ?_⟩
      refine w_rng0 (n := 2) (fun i σ H' => ∃ z4, σ = [some (.ref a), some (.int (n : Nat)), some (.ref p3), some .non, z4, none] ∧ Ex G3 H')
        ⟨_, rfl, x4⟩ (fun i σ H' hi hP => ?_) (fun σ H' hP => ?_)
      · obtain ⟨z4, rfl, k0⟩ := hP
        walk_at "rl"
        refine ⟨i, _, _, "NoCover", rfl, El.int _, by decide, .inr (.inr ⟨rfl, n, l, rfl, hn, hS k0, hk⟩), fun c1 G5 nc1 x5 hc1 => ⟨_, rfl, .inr ⟨c1, "NoCover", rfl, by decide, hc1, fun w1 G6 nw1 x6 hw1 => ?_⟩⟩⟩
        exact kind_ok (by decide +kernel) (by decide +kernel) hw1 fun G7 x7 => ⟨_, rfl, iteF (((k0.trans x5).trans x6).trans x7)⟩
      · obtain ⟨z4, rfl, k0⟩ := hP
        exact rest _ _ H' k0

end
def dd_is_whole : He.DefD := ⟨("is_whole", none), "is_whole", "is_whole", defArgs s_is_whole, defBody s_is_whole, defScope s_is_whole, [], []⟩
def dd_powered : He.DefD := ⟨("powered", none), "powered", "powered", defArgs s_powered, defBody s_powered, defScope s_powered, [], []⟩
def dd_law_cell : He.DefD := ⟨("_law_cell", none), "_law_cell", "_law_cell", defArgs s_law_cell, defBody s_law_cell, defScope s_law_cell, [], []⟩
def dd_law_kind : He.DefD := ⟨("_law_kind", none), "_law_kind", "_law_kind", defArgs s_law_kind, defBody s_law_kind, defScope s_law_kind, [], []⟩
def dd_law_together : He.DefD := ⟨("_law_together", none), "_law_together", "_law_together", defArgs s_law_together, defBody s_law_together, defScope s_law_together, [], []⟩
def dd_law_choices : He.DefD := ⟨("_law_choices", none), "_law_choices", "_law_choices", defArgs s_law_choices, defBody s_law_choices, defScope s_law_choices, [], []⟩
def dd_is_among : He.DefD := ⟨("is_among", none), "is_among", "is_among", defArgs s_is_among, defBody s_is_among, defScope s_is_among, [], []⟩
def dd_names_of : He.DefD := ⟨("names_of", none), "names_of", "names_of", defArgs s_names_of, defBody s_names_of, defScope s_names_of, [], []⟩
def dd_law_mixed : He.DefD := ⟨("_law_mixed", none), "_law_mixed", "_law_mixed", defArgs s_law_mixed, defBody s_law_mixed, defScope s_law_mixed, [], []⟩
def dd_law_first : He.DefD := ⟨("_law_first", none), "_law_first", "_law_first", defArgs s_law_first, defBody s_law_first, defScope s_law_first, [], []⟩
def dd_need_count : He.DefD := ⟨("need_count", none), "need_count", "need_count", defArgs s_need_count, defBody s_need_count, defScope s_need_count, [], []⟩
def dd_need_set : He.DefD := ⟨("need_set", none), "need_set", "need_set", defArgs s_need_set, defBody s_need_set, defScope s_need_set, [], []⟩
def dd_spread : He.DefD := ⟨("spread", none), "spread", "spread", defArgs s_spread, defBody s_spread, defScope s_spread, [], []⟩
def dd_law_sets : He.DefD := ⟨("_law_sets", none), "_law_sets", "_law_sets", defArgs s_law_sets, defBody s_law_sets, defScope s_law_sets, [], []⟩
def dd_members : He.DefD := ⟨("members", none), "members", "members", defArgs s_members, defBody s_members, defScope s_members, [], []⟩
def dd_below : He.DefD := ⟨("below", none), "below", "below", defArgs s_below, defBody s_below, defScope s_below, [], []⟩
def dd_above : He.DefD := ⟨("above", none), "above", "above", defArgs s_above, defBody s_above, defScope s_above, [], []⟩
def dd_need_sets : He.DefD := ⟨("need_sets", none), "need_sets", "need_sets", defArgs s_need_sets, defBody s_need_sets, defScope s_need_sets, [], []⟩
def dd_size_of : He.DefD := ⟨("size_of", none), "size_of", "size_of", defArgs s_size_of, defBody s_size_of, defScope s_size_of, [], []⟩
def dd_rows_from : He.DefD := ⟨("rows_from", none), "rows_from", "rows_from", defArgs s_rows_from, defBody s_rows_from, defScope s_rows_from, [], []⟩
def dd_covers : He.DefD := ⟨("covers", none), "covers", "covers", defArgs s_covers, defBody s_covers, defScope s_covers, [], []⟩
def dd_fewest : He.DefD := ⟨("fewest", none), "fewest", "fewest", defArgs s_fewest, defBody s_fewest, defScope s_fewest, [], []⟩
def dd_least_cover : He.DefD := ⟨("least_cover", none), "least_cover", "least_cover", defArgs s_least_cover, defBody s_least_cover, defScope s_least_cover, [], []⟩
def dd_law_caught : He.DefD := ⟨("_law_caught", none), "_law_caught", "_law_caught", defArgs s_law_caught, defBody s_law_caught, defScope s_law_caught, [], []⟩
def dd_law_good : He.DefD := ⟨("_law_good", none), "_law_good", "_law_good", defArgs s_law_good, defBody s_law_good, defScope s_law_good, [], []⟩
def dd_law_great_good : He.DefD := ⟨("_law_great_good", none), "_law_great_good", "_law_great_good", defArgs s_law_great_good, defBody s_law_great_good, defScope s_law_great_good, [], []⟩
def dd_law : He.DefD := ⟨("law", none), "law", "law", defArgs s_law, defBody s_law, defScope s_law, [], []⟩
def fnL : List He.DefD := [dd_is_whole, dd_powered, dd_law_cell, dd_law_kind, dd_law_together, dd_law_choices, dd_is_among, dd_names_of, dd_law_mixed, dd_law_first, dd_need_count, dd_need_set, dd_spread, dd_law_sets, dd_members, dd_below, dd_above, dd_need_sets, dd_size_of, dd_rows_from, dd_covers, dd_fewest, dd_least_cover, dd_law_caught, dd_law_good, dd_law_great_good, dd_law]
def faL : List He.Fa := [.glo "is_whole", .glo "powered", .glo "_law_cell", .glo "_law_kind", .glo "_law_together", .glo "_law_choices", .glo "is_among", .glo "names_of", .glo "_law_mixed", .glo "_law_first", .glo "need_count", .glo "need_set", .glo "spread", .glo "_law_sets", .glo "members", .glo "below", .glo "above", .glo "need_sets", .glo "size_of", .glo "rows_from", .glo "covers", .glo "fewest", .glo "least_cover", .glo "_law_caught", .glo "_law_good", .glo "_law_great_good", .glo "law", .free "ValueError", .free "all", .free "bool", .free "enumerate", .free "int", .free "isinstance", .free "len", .free "list", .free "max", .free "min", .free "range", .free "set", .free "sorted", .free "tuple", .int "MOST_NAMES" 10, .int "MOST_SETS" 40, .int "MOST_LONG" 20, .glo "SetError", .exc "SetError", .glo "BadCount", .exc "BadCount", .glo "BadSet", .exc "BadSet", .glo "BadName", .exc "BadName", .glo "BadNumber", .exc "BadNumber", .glo "BadOrder", .exc "BadOrder", .glo "BadTable", .exc "BadTable", .glo "Unlike", .exc "Unlike", .glo "NoCover", .exc "NoCover", .glo "NothingDone", .exc "NothingDone"]
abbrev RR : PySem.W.OpenRow := PySem.W.OpenLaw.row PySem.Challenge.rw_setsums_k12_whole_least_covers
abbrev hkL : PySem.W.Hook := hookE 5 faL fnL (exB nineC nineC)
def obL (s : PySem.W.SharedT) : He.AlD × Bool := obsEG 5 faL fnL (exB nineC nineC) (HandSHeadRun.getT s)
theorem obL_eq (s : PySem.W.SharedT) : obL s = hkL.obs s.abs := obsEG_eq (HandSHeadRun.getT_eq s)
def looseL : List Str := (["SetError", "BadCount", "BadSet", "BadName", "BadNumber", "BadOrder", "BadTable", "Unlike", "NoCover", "NothingDone", "is_whole", "is_among", "need_count", "need_set", "size_of", "members", "names_of", "spread", "below", "above", "need_sets", "powered", "rows_from", "covers", "fewest", "least_cover", "_law_cell", "_law_mixed", "_law_kind", "_law_caught"] : List Str) ++ (["_law_together", "_law_choices", "_law_first", "_law_sets", "_law_good", "_law_great_good", "MOST_NAMES", "MOST_SETS", "MOST_LONG"] : List Str)
theorem runL (w : World) : HandSHeadRun.RunEq RR (PySem.W.view RR.prog [45]) hkL obL 6000 looseL w := by
  intro os
  kernel_rfl
theorem txt_mk {K : PySem.W.Frag} {h : Heap} {mg : Str → Option Value} (X : K.In h) (G : h.Ns mainGlobals mg) (c : He.SaysD faL fnL K) (hx : exB nineC nineC K = true) : Txt K mg where
  n_ValueError := He.free_ok X G (c.fact 27 (f := .free "ValueError") rfl)
  n_all := He.free_ok X G (c.fact 28 (f := .free "all") rfl)
  n_bool := He.free_ok X G (c.fact 29 (f := .free "bool") rfl)
  n_enumerate := He.free_ok X G (c.fact 30 (f := .free "enumerate") rfl)
  n_int := He.free_ok X G (c.fact 31 (f := .free "int") rfl)
  n_isinstance := He.free_ok X G (c.fact 32 (f := .free "isinstance") rfl)
  n_len := He.free_ok X G (c.fact 33 (f := .free "len") rfl)
  n_list := He.free_ok X G (c.fact 34 (f := .free "list") rfl)
  n_max := He.free_ok X G (c.fact 35 (f := .free "max") rfl)
  n_min := He.free_ok X G (c.fact 36 (f := .free "min") rfl)
  n_range := He.free_ok X G (c.fact 37 (f := .free "range") rfl)
  n_set := He.free_ok X G (c.fact 38 (f := .free "set") rfl)
  n_sorted := He.free_ok X G (c.fact 39 (f := .free "sorted") rfl)
  n_tuple := He.free_ok X G (c.fact 40 (f := .free "tuple") rfl)
  k_MOST_NAMES := He.int_ok X G (c.fact 41 (f := .int "MOST_NAMES" 10) rfl)
  k_MOST_SETS := He.int_ok X G (c.fact 42 (f := .int "MOST_SETS" 40) rfl)
  k_MOST_LONG := He.int_ok X G (c.fact 43 (f := .int "MOST_LONG" 20) rfl)
  c_SetError := by
    obtain ⟨h1, h2, h3, h4⟩ := He.exc_ok (c.fact 45 (f := .exc "SetError") rfl)
    exact ⟨He.glo_ok X G (c.fact 44 (f := .glo "SetError") rfl), h1, h2, h3, h4⟩
  c_BadCount := by
    obtain ⟨h1, h2, h3, h4⟩ := He.exc_ok (c.fact 47 (f := .exc "BadCount") rfl)
    exact ⟨He.glo_ok X G (c.fact 46 (f := .glo "BadCount") rfl), h1, h2, h3, h4⟩
  c_BadSet := by
    obtain ⟨h1, h2, h3, h4⟩ := He.exc_ok (c.fact 49 (f := .exc "BadSet") rfl)
    exact ⟨He.glo_ok X G (c.fact 48 (f := .glo "BadSet") rfl), h1, h2, h3, h4⟩
  c_BadName := by
    obtain ⟨h1, h2, h3, h4⟩ := He.exc_ok (c.fact 51 (f := .exc "BadName") rfl)
    exact ⟨He.glo_ok X G (c.fact 50 (f := .glo "BadName") rfl), h1, h2, h3, h4⟩
  c_BadNumber := by
    obtain ⟨h1, h2, h3, h4⟩ := He.exc_ok (c.fact 53 (f := .exc "BadNumber") rfl)
    exact ⟨He.glo_ok X G (c.fact 52 (f := .glo "BadNumber") rfl), h1, h2, h3, h4⟩
  c_BadOrder := by
    obtain ⟨h1, h2, h3, h4⟩ := He.exc_ok (c.fact 55 (f := .exc "BadOrder") rfl)
    exact ⟨He.glo_ok X G (c.fact 54 (f := .glo "BadOrder") rfl), h1, h2, h3, h4⟩
  c_BadTable := by
    obtain ⟨h1, h2, h3, h4⟩ := He.exc_ok (c.fact 57 (f := .exc "BadTable") rfl)
    exact ⟨He.glo_ok X G (c.fact 56 (f := .glo "BadTable") rfl), h1, h2, h3, h4⟩
  c_Unlike := by
    obtain ⟨h1, h2, h3, h4⟩ := He.exc_ok (c.fact 59 (f := .exc "Unlike") rfl)
    exact ⟨He.glo_ok X G (c.fact 58 (f := .glo "Unlike") rfl), h1, h2, h3, h4⟩
  c_NoCover := by
    obtain ⟨h1, h2, h3, h4⟩ := He.exc_ok (c.fact 61 (f := .exc "NoCover") rfl)
    exact ⟨He.glo_ok X G (c.fact 60 (f := .glo "NoCover") rfl), h1, h2, h3, h4⟩
  c_NothingDone := by
    obtain ⟨h1, h2, h3, h4⟩ := He.exc_ok (c.fact 63 (f := .exc "NothingDone") rfl)
    exact ⟨He.glo_ok X G (c.fact 62 (f := .glo "NothingDone") rfl), h1, h2, h3, h4⟩
  d_is_whole := by
    obtain ⟨fd, F⟩ := c.def_ 0 (d := dd_is_whole) rfl
    exact ⟨_, fd, F, He.glo_ok X G (c.fact 0 (f := .glo "is_whole") rfl), FunD.bindsN (ps := ["thing"]) F fun _ _ _ _ _ _ us hl => match us, hl with | [_], _ => rfl, FunD.bindsA (ps := ["thing"]) F fun _ _ _ _ _ _ us hl => match us, hl with | [_], _ => rfl⟩
  d_powered := by
    obtain ⟨fd, F⟩ := c.def_ 1 (d := dd_powered) rfl
    exact ⟨_, fd, F, He.glo_ok X G (c.fact 1 (f := .glo "powered") rfl), FunD.bindsN (ps := ["number", "times"]) F fun _ _ _ _ _ _ us hl => match us, hl with | [_, _], _ => rfl, FunD.bindsA (ps := ["number", "times"]) F fun _ _ _ _ _ _ us hl => match us, hl with | [_, _], _ => rfl⟩
  d_law_cell := by
    obtain ⟨fd, F⟩ := c.def_ 2 (d := dd_law_cell) rfl
    exact ⟨_, fd, F, He.glo_ok X G (c.fact 2 (f := .glo "_law_cell") rfl), FunD.bindsN (ps := ["_law_script", "_law_k"]) F fun _ _ _ _ _ _ us hl => match us, hl with | [_, _], _ => rfl, FunD.bindsA (ps := ["_law_script", "_law_k"]) F fun _ _ _ _ _ _ us hl => match us, hl with | [_, _], _ => rfl⟩
  d_law_kind := by
    obtain ⟨fd, F⟩ := c.def_ 3 (d := dd_law_kind) rfl
    exact ⟨_, fd, F, He.glo_ok X G (c.fact 3 (f := .glo "_law_kind") rfl), FunD.bindsN (ps := ["_law_caught_here"]) F fun _ _ _ _ _ _ us hl => match us, hl with | [_], _ => rfl, FunD.bindsA (ps := ["_law_caught_here"]) F fun _ _ _ _ _ _ us hl => match us, hl with | [_], _ => rfl⟩
  d_law_together := by
    obtain ⟨fd, F⟩ := c.def_ 4 (d := dd_law_together) rfl
    exact ⟨_, fd, F, He.glo_ok X G (c.fact 4 (f := .glo "_law_together") rfl), FunD.bindsN (ps := ["_law_sets_here", "_law_places"]) F fun _ _ _ _ _ _ us hl => match us, hl with | [_, _], _ => rfl, FunD.bindsA (ps := ["_law_sets_here", "_law_places"]) F fun _ _ _ _ _ _ us hl => match us, hl with | [_, _], _ => rfl⟩
  d_law_choices := by
    obtain ⟨fd, F⟩ := c.def_ 5 (d := dd_law_choices) rfl
    exact ⟨_, fd, F, He.glo_ok X G (c.fact 5 (f := .glo "_law_choices") rfl), FunD.bindsN (ps := ["_law_size", "_law_many"]) F fun _ _ _ _ _ _ us hl => match us, hl with | [_, _], _ => rfl, FunD.bindsA (ps := ["_law_size", "_law_many"]) F fun _ _ _ _ _ _ us hl => match us, hl with | [_, _], _ => rfl⟩
  d_is_among := by
    obtain ⟨fd, F⟩ := c.def_ 6 (d := dd_is_among) rfl
    exact ⟨_, fd, F, He.glo_ok X G (c.fact 6 (f := .glo "is_among") rfl), FunD.bindsN (ps := ["thing", "least", "most"]) F fun _ _ _ _ _ _ us hl => match us, hl with | [_, _, _], _ => rfl, FunD.bindsA (ps := ["thing", "least", "most"]) F fun _ _ _ _ _ _ us hl => match us, hl with | [_, _, _], _ => rfl⟩
  d_names_of := by
    obtain ⟨fd, F⟩ := c.def_ 7 (d := dd_names_of) rfl
    exact ⟨_, fd, F, He.glo_ok X G (c.fact 7 (f := .glo "names_of") rfl), FunD.bindsN (ps := ["table"]) F fun _ _ _ _ _ _ us hl => match us, hl with | [_], _ => rfl, FunD.bindsA (ps := ["table"]) F fun _ _ _ _ _ _ us hl => match us, hl with | [_], _ => rfl⟩
  d_law_mixed := by
    obtain ⟨fd, F⟩ := c.def_ 8 (d := dd_law_mixed) rfl
    exact ⟨_, fd, F, He.glo_ok X G (c.fact 8 (f := .glo "_law_mixed") rfl), FunD.bindsN (ps := ["_law_script", "_law_k"]) F fun _ _ _ _ _ _ us hl => match us, hl with | [_, _], _ => rfl, FunD.bindsA (ps := ["_law_script", "_law_k"]) F fun _ _ _ _ _ _ us hl => match us, hl with | [_, _], _ => rfl⟩
  d_law_first := by
    obtain ⟨fd, F⟩ := c.def_ 9 (d := dd_law_first) rfl
    exact ⟨_, fd, F, He.glo_ok X G (c.fact 9 (f := .glo "_law_first") rfl), FunD.bindsN (ps := ["_law_many", "_law_sets_here"]) F fun _ _ _ _ _ _ us hl => match us, hl with | [_, _], _ => rfl, FunD.bindsA (ps := ["_law_many", "_law_sets_here"]) F fun _ _ _ _ _ _ us hl => match us, hl with | [_, _], _ => rfl⟩
  d_need_count := by
    obtain ⟨fd, F⟩ := c.def_ 10 (d := dd_need_count) rfl
    exact ⟨_, fd, F, He.glo_ok X G (c.fact 10 (f := .glo "need_count") rfl), FunD.bindsN (ps := ["many"]) F fun _ _ _ _ _ _ us hl => match us, hl with | [_], _ => rfl, FunD.bindsA (ps := ["many"]) F fun _ _ _ _ _ _ us hl => match us, hl with | [_], _ => rfl⟩
  d_need_set := by
    obtain ⟨fd, F⟩ := c.def_ 11 (d := dd_need_set) rfl
    exact ⟨_, fd, F, He.glo_ok X G (c.fact 11 (f := .glo "need_set") rfl), FunD.bindsN (ps := ["one", "many"]) F fun _ _ _ _ _ _ us hl => match us, hl with | [_, _], _ => rfl, FunD.bindsA (ps := ["one", "many"]) F fun _ _ _ _ _ _ us hl => match us, hl with | [_, _], _ => rfl⟩
  d_spread := by
    obtain ⟨fd, F⟩ := c.def_ 12 (d := dd_spread) rfl
    exact ⟨_, fd, F, He.glo_ok X G (c.fact 12 (f := .glo "spread") rfl), FunD.bindsN (ps := ["table", "by", "is_up"]) F fun _ _ _ _ _ _ us hl => match us, hl with | [_, _, _], _ => rfl, FunD.bindsA (ps := ["table", "by", "is_up"]) F fun _ _ _ _ _ _ us hl => match us, hl with | [_, _, _], _ => rfl⟩
  d_law_sets := by
    obtain ⟨fd, F⟩ := c.def_ 13 (d := dd_law_sets) rfl
    exact ⟨_, fd, F, He.glo_ok X G (c.fact 13 (f := .glo "_law_sets") rfl), FunD.bindsN (ps := ["_law_script", "_law_many", "_law_size", "_law_first_here"]) F fun _ _ _ _ _ _ us hl => match us, hl with | [_, _, _, _], _ => rfl, FunD.bindsA (ps := ["_law_script", "_law_many", "_law_size", "_law_first_here"]) F fun _ _ _ _ _ _ us hl => match us, hl with | [_, _, _, _], _ => rfl⟩
  d_members := by
    obtain ⟨fd, F⟩ := c.def_ 14 (d := dd_members) rfl
    exact ⟨_, fd, F, He.glo_ok X G (c.fact 14 (f := .glo "members") rfl), FunD.bindsN (ps := ["one"]) F fun _ _ _ _ _ _ us hl => match us, hl with | [_], _ => rfl, FunD.bindsA (ps := ["one"]) F fun _ _ _ _ _ _ us hl => match us, hl with | [_], _ => rfl⟩
  d_below := by
    obtain ⟨fd, F⟩ := c.def_ 15 (d := dd_below) rfl
    exact ⟨_, fd, F, He.glo_ok X G (c.fact 15 (f := .glo "below") rfl), FunD.bindsN (ps := ["table"]) F fun _ _ _ _ _ _ us hl => match us, hl with | [_], _ => rfl, FunD.bindsA (ps := ["table"]) F fun _ _ _ _ _ _ us hl => match us, hl with | [_], _ => rfl⟩
  d_above := by
    obtain ⟨fd, F⟩ := c.def_ 16 (d := dd_above) rfl
    exact ⟨_, fd, F, He.glo_ok X G (c.fact 16 (f := .glo "above") rfl), FunD.bindsN (ps := ["table"]) F fun _ _ _ _ _ _ us hl => match us, hl with | [_], _ => rfl, FunD.bindsA (ps := ["table"]) F fun _ _ _ _ _ _ us hl => match us, hl with | [_], _ => rfl⟩
  d_need_sets := by
    obtain ⟨fd, F⟩ := c.def_ 17 (d := dd_need_sets) rfl
    exact ⟨_, fd, F, He.glo_ok X G (c.fact 17 (f := .glo "need_sets") rfl), FunD.bindsN (ps := ["many", "sets"]) F fun _ _ _ _ _ _ us hl => match us, hl with | [_, _], _ => rfl, FunD.bindsA (ps := ["many", "sets"]) F fun _ _ _ _ _ _ us hl => match us, hl with | [_, _], _ => rfl⟩
  d_size_of := by
    obtain ⟨fd, F⟩ := c.def_ 18 (d := dd_size_of) rfl
    exact ⟨_, fd, F, He.glo_ok X G (c.fact 18 (f := .glo "size_of") rfl), FunD.bindsN (ps := ["one"]) F fun _ _ _ _ _ _ us hl => match us, hl with | [_], _ => rfl, FunD.bindsA (ps := ["one"]) F fun _ _ _ _ _ _ us hl => match us, hl with | [_], _ => rfl⟩
  d_rows_from := by
    obtain ⟨fd, F⟩ := c.def_ 19 (d := dd_rows_from) rfl
    exact ⟨_, fd, F, He.glo_ok X G (c.fact 19 (f := .glo "rows_from") rfl), FunD.bindsN (ps := ["many", "sets", "long"]) F fun _ _ _ _ _ _ us hl => match us, hl with | [_, _, _], _ => rfl, FunD.bindsA (ps := ["many", "sets", "long"]) F fun _ _ _ _ _ _ us hl => match us, hl with | [_, _, _], _ => rfl⟩
  d_covers := by
    obtain ⟨fd, F⟩ := c.def_ 20 (d := dd_covers) rfl
    exact ⟨_, fd, F, He.glo_ok X G (c.fact 20 (f := .glo "covers") rfl), FunD.bindsN (ps := ["many", "sets", "long"]) F fun _ _ _ _ _ _ us hl => match us, hl with | [_, _, _], _ => rfl, FunD.bindsA (ps := ["many", "sets", "long"]) F fun _ _ _ _ _ _ us hl => match us, hl with | [_, _, _], _ => rfl⟩
  d_fewest := by
    obtain ⟨fd, F⟩ := c.def_ 21 (d := dd_fewest) rfl
    exact ⟨_, fd, F, He.glo_ok X G (c.fact 21 (f := .glo "fewest") rfl), FunD.bindsN (ps := ["many", "sets"]) F fun _ _ _ _ _ _ us hl => match us, hl with | [_, _], _ => rfl, FunD.bindsA (ps := ["many", "sets"]) F fun _ _ _ _ _ _ us hl => match us, hl with | [_, _], _ => rfl⟩
  d_least_cover := by
    obtain ⟨fd, F⟩ := c.def_ 22 (d := dd_least_cover) rfl
    exact ⟨_, fd, F, He.glo_ok X G (c.fact 22 (f := .glo "least_cover") rfl), FunD.bindsN (ps := ["many", "sets"]) F fun _ _ _ _ _ _ us hl => match us, hl with | [_, _], _ => rfl, FunD.bindsA (ps := ["many", "sets"]) F fun _ _ _ _ _ _ us hl => match us, hl with | [_, _], _ => rfl⟩
  d_law_caught := by
    obtain ⟨fd, F⟩ := c.def_ 23 (d := dd_law_caught) rfl
    exact ⟨_, fd, F, He.glo_ok X G (c.fact 23 (f := .glo "_law_caught") rfl), FunD.bindsN (ps := ["_law_which", "_law_many", "_law_sets_here"]) F fun _ _ _ _ _ _ us hl => match us, hl with | [_, _, _], _ => rfl, FunD.bindsA (ps := ["_law_which", "_law_many", "_law_sets_here"]) F fun _ _ _ _ _ _ us hl => match us, hl with | [_, _, _], _ => rfl⟩
  d_law_good := by
    obtain ⟨fd, F⟩ := c.def_ 24 (d := dd_law_good) rfl
    exact ⟨_, fd, F, He.glo_ok X G (c.fact 24 (f := .glo "_law_good") rfl), FunD.bindsN (ps := ["_law_many", "_law_sets_here", "_law_due"]) F fun _ _ _ _ _ _ us hl => match us, hl with | [_, _, _], _ => rfl, FunD.bindsA (ps := ["_law_many", "_law_sets_here", "_law_due"]) F fun _ _ _ _ _ _ us hl => match us, hl with | [_, _, _], _ => rfl⟩
  d_law_great_good := by
    obtain ⟨fd, F⟩ := c.def_ 25 (d := dd_law_great_good) rfl
    exact ⟨_, fd, F, He.glo_ok X G (c.fact 25 (f := .glo "_law_great_good") rfl), FunD.bindsN (ps := ["_law_many", "_law_sets_here"]) F fun _ _ _ _ _ _ us hl => match us, hl with | [_, _], _ => rfl, FunD.bindsA (ps := ["_law_many", "_law_sets_here"]) F fun _ _ _ _ _ _ us hl => match us, hl with | [_, _], _ => rfl⟩
  d_law := by
    obtain ⟨fd, F⟩ := c.def_ 26 (d := dd_law) rfl
    exact ⟨_, fd, F, He.glo_ok X G (c.fact 26 (f := .glo "law") rfl), FunD.bindsN (ps := ["_law_script"]) F fun _ _ _ _ _ _ us hl => match us, hl with | [_], _ => rfl, FunD.bindsA (ps := ["_law_script"]) F fun _ _ _ _ _ _ us hl => match us, hl with | [_], _ => rfl⟩
  x := exB_ok hx
section
variable {P : Program} {w : World} {K : PySem.W.Frag} {mg : Str → Option Value} {base : Heap}

theorem all_ok (T : Txt K mg) {f : Addr} {fd : FuncData} (F : FunD K "law" "law" (defArgs s_law) (defBody s_law) (defScope s_law) [] [] f fd) : FnOk P w K mg base (L2.CX P w) 11 f fd ["_law_script"] (sp_law K) := by
  have h_is_whole : Has P w K mg base 1 "is_whole" ["thing"] (sp_is_whole K) := ok_is_whole T 
  have h_powered : Has P w K mg base 1 "powered" ["number", "times"] (sp_powered K) := ok_powered T 
  have h_law_cell : Has P w K mg base 1 "_law_cell" ["_law_script", "_law_k"] (sp_law_cell K) := ok_law_cell T 
  have h_law_kind : Has P w K mg base 1 "_law_kind" ["_law_caught_here"] (sp_law_kind K) := ok_law_kind T 
  have h_law_together : Has P w K mg base 1 "_law_together" ["_law_sets_here", "_law_places"] (sp_law_together K) := ok_law_together T 
  have h_law_choices : Has P w K mg base 1 "_law_choices" ["_law_size", "_law_many"] (sp_law_choices K) := ok_law_choices T 
  have h_is_among : Has P w K mg base 2 "is_among" ["thing", "least", "most"] (sp_is_among K) := ok_is_among T h_is_whole
  have h_names_of : Has P w K mg base 2 "names_of" ["table"] (sp_names_of K) := ok_names_of T h_is_whole
  have h_law_mixed : Has P w K mg base 2 "_law_mixed" ["_law_script", "_law_k"] (sp_law_mixed K) := ok_law_mixed T h_law_cell
  have h_law_first : Has P w K mg base 2 "_law_first" ["_law_many", "_law_sets_here"] (sp_law_first K) := ok_law_first T h_law_choices h_law_together
  have h_need_count : Has P w K mg base 3 "need_count" ["many"] (sp_need_count K) := ok_need_count T h_is_among
  have h_need_set : Has P w K mg base 3 "need_set" ["one", "many"] (sp_need_set K) := ok_need_set T h_is_among
  have h_spread : Has P w K mg base 3 "spread" ["table", "by", "is_up"] (sp_spread K) := ok_spread T h_names_of
  have h_law_sets : Has P w K mg base 3 "_law_sets" ["_law_script", "_law_many", "_law_size", "_law_first_here"] (sp_law_sets K) := ok_law_sets T h_law_mixed
  have h_members : Has P w K mg base 4 "members" ["one"] (sp_members K) := ok_members T h_need_set
  have h_below : Has P w K mg base 4 "below" ["table"] (sp_below K) := ok_below T h_spread
  have h_above : Has P w K mg base 4 "above" ["table"] (sp_above K) := ok_above T h_spread
  have h_need_sets : Has P w K mg base 4 "need_sets" ["many", "sets"] (sp_need_sets K) := ok_need_sets T h_need_count h_need_set
  have h_size_of : Has P w K mg base 5 "size_of" ["one"] (sp_size_of K) := ok_size_of T h_members
  have h_rows_from : Has P w K mg base 6 "rows_from" ["many", "sets", "long"] (sp_rows_from K) := ok_rows_from T h_above h_below h_powered h_size_of
  have h_covers : Has P w K mg base 7 "covers" ["many", "sets", "long"] (sp_covers K) := ok_covers T h_is_among h_need_sets h_rows_from
  have h_fewest : Has P w K mg base 7 "fewest" ["many", "sets"] (sp_fewest K) := ok_fewest T h_need_sets h_rows_from
  have h_least_cover : Has P w K mg base 8 "least_cover" ["many", "sets"] (sp_least_cover K) := ok_least_cover T h_fewest h_rows_from
  have h_law_caught : Has P w K mg base 9 "_law_caught" ["_law_which", "_law_many", "_law_sets_here"] (sp_law_caught K) := ok_law_caught T h_fewest h_least_cover
  have h_law_good : Has P w K mg base 9 "_law_good" ["_law_many", "_law_sets_here", "_law_due"] (sp_law_good K) := ok_law_good T h_fewest h_least_cover
  have h_law_great_good : Has P w K mg base 10 "_law_great_good" ["_law_many", "_law_sets_here"] (sp_law_great_good K) := ok_law_great_good T h_law_caught h_law_kind h_law_together h_covers h_fewest h_least_cover
  exact ok_law T h_law_caught h_law_first h_law_good h_law_great_good h_law_kind h_law_mixed h_law_sets F
end
theorem factsL {P : Program} {w : World} {K : PySem.W.Frag} {h : Heap} {mg : Str → Option Value} {f : Addr} (X : K.In h) (G : h.Ns mainGlobals mg) (hfa : mg ("law" : Str) = some (.ref f)) (c : He.SaysD faL fnL K) (hx : exB nineC nineC K = true) :
    ∃ fd : FuncData, (∀ (s : Shared) (v : Value), BindsTo s fd ⟨[v], []⟩ [("_law_script", v)]) ∧ ∀ base : Heap, K.In base → base.Ns mainGlobals mg → FnOk P w K mg base (L2.CX P w) 11 f fd ["_law_script"] (sp_law K) := by
  have T := txt_mk X G c hx
  obtain ⟨fd, F⟩ := c.def_ 26 (d := dd_law) rfl
  cases hfa.symm.trans (He.glo_ok X G (c.fact 26 (f := .glo "law") rfl))
  have b := FunD.bindsA (ps := ["_law_script"]) F fun _ _ _ _ _ _ us hl => match us, hl with | [_], _ => rfl
  exact ⟨fd, fun s v => b s [v] rfl, fun base _ _ => all_ok T F⟩
end SS
open PySem PySem.W PySem.Calls PyProof.Rows
set_option maxHeartbeats 0 in
theorem PySem.Challenge.cw_setsums_k12_whole_least_covers_holds : PySem.Challenge.rw_setsums_k12_whole_least_covers.Holds := by
  w_on; o_law
  refine HandSHeadRun.head_any (r := OpenLaw.row PySem.Challenge.rw_setsums_k12_whole_least_covers) (q := view (OpenLaw.row PySem.Challenge.rw_setsums_k12_whole_least_covers).prog [45]) (H := SS.hkL) (ob := SS.obL) (M := 6000) (loose := SS.looseL) (d := HandSHeadRun.topDef (OpenLaw.row PySem.Challenge.rw_setsums_k12_whole_least_covers).prog 45) (kwd := []) SS.obL_eq
    (by kernel_rfl) (fun s => by kernel_rfl) SS.runL (by kernel_rfl) (by kernel_rfl) (by kernel_rfl) (by rfl) (by first | assumption | decide +kernel) (by decide +kernel) ⟨rfl, rfl, rfl, rfl, rfl, by decide +kernel⟩ ?hw ?hc
  case hw => w_witness2
  case hc =>
    refine SS.walk_ofE2 (l := PySem.Challenge.rw_setsums_k12_whole_least_covers) (n := 63) (k := 11) (x := "_law_script") (CX := fun w => L2.CX (PySem.Challenge.rw_setsums_k12_whole_least_covers).prog w) rfl (by decide) (by kernel_rfl) ⟨rfl, by decide, by decide⟩ ?F (fun w _ s e s' z => SS.cx_end z)
    intro w mg fa h Y G hmg0
    obtain ⟨K, KX, c, hx⟩ := Y
    have hmg : mg ("law" : PySem.Str) = some (.ref fa) := by
      have e : (HandSHeadRun.topDef (OpenLaw.row PySem.Challenge.rw_setsums_k12_whole_least_covers).prog 45).name = ("law" : PySem.Str) := by kernel_rfl
      rw [← e]
      exact hmg0
    obtain ⟨fd, hb, hF⟩ := SS.factsL (P := (PySem.Challenge.rw_setsums_k12_whole_least_covers).prog) (w := w) KX G hmg c hx
    exact ⟨K, fd, SS.sp_law K, KX, hb, fun H a ns hl _ hS => ⟨a, ns, rfl, hS, hl, fun _ => rfl⟩, hF⟩

