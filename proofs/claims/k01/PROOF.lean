import PyProof.Rows.All
import Wide.All
import OpenK.AllK
import Wide.FinOn
import PyProof.ZipIter
import KE.KItemsList
import HandS.ForMost
import HandS.Wide
import HandS.TupAny
import HandS.IsInst
import HandS.Walk
import HandS.ListItems
import HandS.Conv
import HandS.EndTab
import HandS.TupLe
import KE.DataMinKey
import KE.KNestM
import HandS.SetFor
import HandS.Strs
import HandS.SortRule
import HandS.ExcInit
import HandS.ExcField
import HandS.ClsMeth
import HandS.ExcIs
import HandS.WordsExc
import KE.KExcIs
import HandS.Codes
import HandS.Nested
import PySem.Challenge.RW_stepgear_k01_refused_in_order
set_option Elab.async false
set_option linter.all false
set_option maxRecDepth 100000
set_option maxHeartbeats 4000000
namespace Rd
open PySem PySem.Spec PyProof.Rows L2
/-! ## defs by name -/
/-- the name x stands for a def that keeps the promise sp, at level k -/
structure Has (P : Program) (w : World) (K : PySem.W.Frag) (mg : Str → Option Value) (base : Heap) (CX : CXT) (k : Nat) (x : Str) (sp : Sp) : Prop where
  ex : ∃ (f : Addr) (fd : FuncData) (ps : List Str), FnOk P w K mg base CX k f fd ps sp ∧ mg x = some (.ref f) ∧ PySem.W.keepIn K (.ref f) = true ∧ Binds K fd ps []
theorem Has.imp {P : Program} {w : World} {K : PySem.W.Frag} {mg : Str → Option Value} {base : Heap} {CX : CXT} {k : Nat} {x : Str} {sp sp' : Sp} (h : Has P w K mg base CX k x sp) (i : ∀ vs H Q E, sp' vs H Q E → sp vs H Q E) : Has P w K mg base CX k x sp' := by
  obtain ⟨f, fd, ps, F, r⟩ := h.ex
  exact ⟨f, fd, ps, F.imp i, r⟩
theorem Has.mono {P : Program} {w : World} {K : PySem.W.Frag} {mg : Str → Option Value} {base : Heap} {CX : CXT} {j k : Nat} {x : Str} {sp : Sp} (h : Has P w K mg base CX j x sp) (i : j ≤ k) : Has P w K mg base CX k x sp := by
  obtain ⟨f, fd, ps, F, r⟩ := h.ex
  exact ⟨f, fd, ps, F.mono i, r⟩
/-- the def st of the text stands at the name x -/
structure FunAt (K : PySem.W.Frag) (mg : Str → Option Value) (x : Str) (st : Stmt) : Prop where
  ex : ∃ (f : Addr) (fd : FuncData), Fun K x x st f fd ∧ mg x = some (.ref f)
section
variable {P : Program} {w : World} {K : PySem.W.Frag} {mg : Str → Option Value} {base : Heap}
def BindOk (x : Str) (st : Stmt) (ps : List Str) : Prop := ∀ (kV doc pm : Value) (an : Option Addr) (cdv ct : Value) (us : List Value), us.length = ps.length → bindArgs (PySem.W.fnOf x x (defArgs st) (defBody st) (defScope st) .none kV doc pm an cdv ct) ⟨us, []⟩ = pure (ps.zip us)
def BindOkQ (x q : Str) (st : Stmt) (ps : List Str) : Prop := ∀ (kV doc pm : Value) (an : Option Addr) (cdv ct : Value) (us : List Value), us.length = ps.length → bindArgs (PySem.W.fnOf x q (defArgs st) (defBody st) (defScope st) .none kV doc pm an cdv ct) ⟨us, []⟩ = pure (ps.zip us)
/-- a def that lets no exception out -/
theorem FunAt.ok {x : Str} {st : Stmt} {N ps : List Str} {k : Nat} {sp : Sp} (F : FunAt K mg x st) (S : FnScope N ps (defScope st)) (bo : BindOk x st ps) (len : ∀ vs H Q E, sp vs H Q E → vs.length = ps.length)
    (hbody : ∀ (f : Addr) (cdv : Value) (A : Around) (outer : List Env) (s : Shared) (H : Hp) (vs : List V) (Q : VK) (E : XK), Room k (A.deeper (envOfC x (defScope st) s.heap.objs.size f cdv)) → sp vs H Q E →
      ∃ t, PSs (cxOf CX0 P w K mg base N x (defScope st) f cdv A outer s H E).nox (defBody st) t ∧ t { nx := fun _ H' => Q .non H', rt := Q } (start N vs) H) : Has P w K mg base CX0 (k + 1) x sp := by
  obtain ⟨f, fd, F, hm⟩ := F.ex
  exact ⟨f, fd, ps, F.ok S len fun cdv A outer s H vs Q E hr h => hbody f cdv A outer s H vs Q E hr h, hm, F.kp, F.binds bo⟩
theorem FunAt.mk' {x : Str} {st : Stmt} {h : Heap} (X : K.In h) (G : h.Ns mainGlobals mg) {f : Addr} {oc : Value} {od an : Option Addr} {osl : Array (Option Value)} {kV doc pm cdv ct : Value}
    (a : PySem.W.nsIn K mainGlobals x = some (some (.ref f)))
    (l : K.lookup f = some ⟨oc, od, .func (PySem.W.fnOf x x (defArgs st) (defBody st) (defScope st) .none kV doc pm an cdv ct), osl⟩)
    (c : PySem.W.codeIn K cdv x = true) (k : PySem.W.keepIn K (.ref f) = true) : FunAt K mg x st := ⟨f, _, fun_mk l c k, PySem.W.mg_of X G a⟩
end
section
variable {X : Cx} {CX : CXT} {k j : Nat} {sp : Sp} {E : XK} {x : Str} {p pos : Pos} {e : Expr} {es : List Expr} {t : TA}
theorem pe_has (h : Has X.prog X.w X.K X.mg X.base CX k x sp) (hr : Room j X.A) (hk : k ≤ j) (hg : Gl X x) (hx : Passes CX X E)
    (ha : PA X (e :: es) t) (hdb : (x == ("__debug__" : Str)) = false := by decide) (he : starEach (e :: es) X.env = (false, eval e X.env) :: starEach es X.env := by rfl) (hpl : (backTo pos (starEach es X.env)).any (·.1) = false := by rfl) :
    PE X (.Call (.Name x p) (e :: es) [] pos) (tCall sp [] E t) := by
  obtain ⟨f, fd, ps, F, hm, kp, b⟩ := h.ex
  exact pe_call F (hr.mono hk) hg hm kp b .nil hx ha hdb he hpl
end
/-- the built-ins' names are still theirs -/
structure Bl (mg : Str → Option Value) : Prop where
  len : mg "len" = none
  range : mg "range" = none
  abs : mg "abs" = none
  max : mg "max" = none
  min : mg "min" = none
  list : mg "list" = none
  tuple : mg "tuple" = none
  int : mg "int" = none
  isinstance : mg "isinstance" = none
  sum : mg "sum" = none
  set : mg "set" = none
  sorted : mg "sorted" = none
  zip : mg "zip" = none
  enumerate : mg "enumerate" = none
  str : mg "str" = none
  bool : mg "bool" = none
/-! ## unions of rules -/
section
variable {X : Cx}
def rAddA (K : PySem.W.Frag) : R2 := fun x y H Q => rI0 (fun i j => .int (i + j)) x y H Q ∨ ((∃ i j, x = .str i ∧ y = .str j ∧ i.length + j.length ≤ sizeLine ∧ Q (.str (i ++ j)) H) ∨ (rCat x y H Q ∨ rCatA K x y H Q))
theorem op_addA : OpR X (binaryOp .Add) (rAddA X.K) := OpR.or op_add (OpR.or op_add_str (OpR.or op_cat op_catA))
def rEqA (K : PySem.W.Frag) : R2 := fun x y H Q => rEq x y H Q ∨ rEqD K x y H Q
def rNeA (K : PySem.W.Frag) : R2 := fun x y H Q => rNe x y H Q ∨ rNeD K x y H Q
theorem op_eqA (hu : X.A.units + 64 < cLine) : OpR X (compareOp .Eq) (rEqA X.K) := OpR.or op_eq (op_eqD hu)
theorem op_neA (hu : X.A.units + 64 < cLine) : OpR X (compareOp .NotEq) (rNeA X.K) := OpR.or op_ne (op_neD hu)
def rLen (K : PySem.W.Frag) : List V → Hp → VK → Prop := fun xs H Q => (∃ p ys, xs = [.ref p] ∧ (SqL K H p ys ∨ SqT K H p ys) ∧ (ys.length ≤ 16777216 → Q (.int ys.length) H)) ∨ (∃ z, xs = [.str z] ∧ z.length ≤ sizeLine ∧ Q (.int z.length) H)
theorem call_lenA : CallR X (.builtin "len") (rLen X.K) := by
  refine CallR.or (fun pins s σ H xs us Q I r h => ?_) call_len_str
  obtain ⟨p, ys, e, hq, q⟩ := h
  have hz : ys.length ≤ 16777216 := by
    rcases hq with h | h
    · obtain ⟨_, _, _, z⟩ := I.list h
      rwa [PySem.sizeLine_eq] at z
    · obtain ⟨_, _, _, z⟩ := I.tuple h
      rwa [PySem.sizeLine_eq] at z
  exact call_len_seq pins s σ H xs us Q I r ⟨p, ys, e, hq, q hz⟩
def rMaxA (K : PySem.W.Frag) : List V → Hp → VK → Prop := fun xs H Q => (∃ i j, xs = [.int i, .int j] ∧ Q (.int (if j > i then j else i)) H) ∨ rMax K xs H Q
def rMinA (K : PySem.W.Frag) : List V → Hp → VK → Prop := fun xs H Q => (∃ i j, xs = [.int i, .int j] ∧ Q (.int (if j < i then j else i)) H) ∨ rMin K xs H Q
theorem call_maxA (hc : X.calm = true) : CallR X (.builtin "max") (rMaxA X.K) := CallR.or (call_max2 hc) (cr_max hc)
theorem call_minA (hc : X.calm = true) : CallR X (.builtin "min") (rMinA X.K) := CallR.or (call_min2 hc) (cr_min hc)
def rAbs : List V → Hp → VK → Prop := fun xs H Q => ∃ i, xs = [.int i] ∧ Q (.int (if i < 0 then -i else i)) H
theorem call_absA : CallR X (.builtin "abs") rAbs := call_abs
def rInt1 : List V → Hp → VK → Prop := fun xs H Q => (∃ i, xs = [.int i] ∧ Q (.int i) H) ∨ ∃ k, xs = [.bl k] ∧ Q (.int (if k then 1 else 0)) H
theorem call_intA : CallR X (.type "int") rInt1 := call_int1
def rListOf (K : PySem.W.Frag) : List V → Hp → VK → Prop := fun xs H Q => ∃ p ys, xs = [.ref p] ∧ (SqL K H p ys ∨ SqT K H p ys) ∧ ∀ l, H l = none → Q (.ref l) (upd H l (.lst ys))
theorem call_listA : CallR X (.type "list") (rListOf X.K) := call_list_of
def rTupOf (K : PySem.W.Frag) : List V → Hp → VK → Prop := fun xs H Q => ∃ p ys, xs = [.ref p] ∧ ((SqL K H p ys ∧ ∀ l, H l = none → Q (.ref l) (upd H l (.tup ys))) ∨ (SqT K H p ys ∧ Q (.ref p) H))
theorem call_tupA : CallR X (.type "tuple") (rTupOf X.K) := call_tuple_of
def rSlAll (K : PySem.W.Frag) : V → Option Int → Option Int → Hp → VK → Prop := fun x lo hi H Q => rSlL K x lo hi H Q ∨ (rSlA K x lo hi H Q ∨ rSlS x lo hi H Q)
theorem sl_all : SlR X (rSlAll X.K) := SlR.or sl_list (SlR.or sl_tupA sl_str)
end
/-! ## the rules again, the written part K named -/
section
variable {X : Cx} {K : PySem.W.Frag}
theorem kop_add (h : X.K = K) : OpR X (binaryOp .Add) (rAddA K) := by subst h; exact op_addA
theorem kop_eq (h : X.K = K) (hu : X.A.units + 64 < cLine) : OpR X (compareOp .Eq) (rEqA K) := by subst h; exact op_eqA hu
theorem kop_ne (h : X.K = K) (hu : X.A.units + 64 < cLine) : OpR X (compareOp .NotEq) (rNeA K) := by subst h; exact op_neA hu
theorem kix (h : X.K = K) : IxR X (rIx K) := by subst h; exact ix_seq
theorem ksl (h : X.K = K) : SlR X (rSlAll K) := by subst h; exact sl_all
theorem kc_len (h : X.K = K) : CallR X (.builtin "len") (rLen K) := by subst h; exact call_lenA
theorem kc_max (h : X.K = K) (hc : X.calm = true) : CallR X (.builtin "max") (rMaxA K) := by subst h; exact call_maxA hc
theorem kc_min (h : X.K = K) (hc : X.calm = true) : CallR X (.builtin "min") (rMinA K) := by subst h; exact call_minA hc
theorem kc_sum (h : X.K = K) (hc : X.calm = true) : CallR X (.builtin "sum") (rSum K) := by subst h; exact cr_sum hc
theorem kc_list (h : X.K = K) : CallR X (.type "list") (rListOf K) := by subst h; exact call_listA
theorem kc_tup (h : X.K = K) : CallR X (.type "tuple") (rTupOf K) := by subst h; exact call_tupA
theorem kc_isi (h : X.K = K) : CallR X (.builtin "isinstance") (fun xs H Q => rIsi K xs H Q ∨ rIsiT K xs H Q) := by subst h; exact CallR.or call_isi call_isiT
theorem kpg_tup {es : List Expr} {k : Nat} {t : TGs} {n : Nat} {pos : Pos} (hK : X.K = K) (hc : X.calm = true) (h : PGs X es t)
    (hn : (assignEach es X.env).length = n := by rfl) (hst : (assignEach es X.env).findIdx? (·.1) = none := by rfl) : PG X (.Tuple es k pos) (gTup K n t) := by subst hK; exact pg_tup hc h hn hst
theorem kpi_list {tg l : Expr} {tl : TE} (h : X.K = K) (hl : PE X l tl) : PI X tg l (iList K tl) := by subst h; exact pi_list hl
theorem kpi_tup {tg l : Expr} {tl : TE} (h : X.K = K) (hl : PE X l tl) : PI X tg l (iTup K tl) := by subst h; exact pi_tup hl
theorem kpe_bm {o e : Expr} {es : List Expr} {to : TE} {t : TA} {name : Str} {apos cpos : Pos} {T id : String} {r : V → List V → Hp → VK → Prop} (hK : X.K = K) (pa : PlainAttrs T) (slot : Slot T name id) (hty : typeOf (.builtin id) = pure (.type "method_descriptor")) (hm : MtR X id r) (ho : PE X o to) (ha : PA X (e :: es) t)
    (hbase : attributeBase o name X.env (eval o X.env) = eval o X.env := by rfl)
    (hfew : ((backTo cpos (starEach (e :: es) X.env)).all (fun x => !x.1) && (backToKw cpos (keywordEach [] X.env)).all (fun x => x.1.isSome)
      && decide ((e :: es).length + ([] : List Keyword).length + (if ([] : List Keyword).isEmpty then 0 else 1) < 30)) = true := by rfl)
    (hline : (apos.endLine == cpos.line) = true := by rfl) (hs : starEach (e :: es) X.env = (false, eval e X.env) :: starEach es X.env := by rfl) (hplain : (backTo cpos (starEach es X.env)).any (·.1) = false := by rfl) :
    PE X (.Call (.Attribute o name apos) (e :: es) [] cpos) (tBM K T r to t) := by subst hK; exact pe_bm pa slot hty hm ho ha hbase hfew hline hs hplain
/-- a module's constant -/
structure Cn (mg : Str → Option Value) (x : Str) (i : Int) : Prop where
  ex : ∃ t, mg x = some (.int i t)
theorem pe_cn {x : Str} {i : Int} {pos : Pos} (h : Cn X.mg x i) (hg : Gl X x) (hd : (x == ("__debug__" : Str)) = false := by decide) : PE X (.Name x pos) (tC (.int i)) := by
  obtain ⟨t, e⟩ := h.ex
  exact pe_glob hg e ⟨t, rfl⟩ hd
end
/-- an expression, its wish stated between -/
def tMid (t : TE) : TE := fun σ H Q => ∃ Q', t σ H Q' ∧ ∀ v H', Q' v H' → Q v H'
theorem pe_mid {X : Cx} {e : Expr} {t : TE} (h : PE X e t) : PE X e (tMid t) := by
  refine ⟨fun pins s σ H Q I q => ?_⟩
  obtain ⟨Q', h1, h2⟩ := q
  exact thn (h.run pins s σ H Q' I h1) fun u s' ⟨v, H', I', r, z⟩ => ⟨v, H', I', r, h2 _ _ z⟩
theorem r_mid {t : TE} {σ : L2.St} {H : Hp} {Q : VK} (Q' : VK) (h : t σ H Q') (k : ∀ v H', Q' v H' → Q v H') : tMid t σ H Q := ⟨Q', h, k⟩
/-- a block, cut behind its first statement -/
def tCut (t u : TS) : TS := fun D σ H => ∃ Mid : L2.St → Hp → Prop, t ⟨Mid, D.rt, D.bk, D.ct⟩ σ H ∧ ∀ σ' H', Mid σ' H' → u D σ' H'
theorem pss_cut {X : Cx} {st : Stmt} {rest : List Stmt} {t u : TS} (h1 : PS X st t) (h2 : PSs X rest u) : PSs X (st :: rest) (tCut t u) := by
  refine ⟨fun pins s σ H D I h => ?_⟩
  obtain ⟨Mid, h, k⟩ := h
  have p : PS X st (fun D' σ' H' => D' = ⟨u D, D.rt, D.bk, D.ct⟩ ∧ t ⟨Mid, D.rt, D.bk, D.ct⟩ σ' H') := ⟨fun pins s σ H D' I q => by
    obtain ⟨rfl, q⟩ := q
    refine thn (h1.run pins s σ H _ I q) fun f s' z => ?_
    cases f with
    | next => obtain ⟨σ', H', I', m⟩ := z; exact ⟨σ', H', I', k _ _ m⟩
    | cont => exact z
    | brk => exact z
    | ret v => exact z⟩
  exact (pss_cons p h2).run pins s σ H D I ⟨rfl, h⟩
/-! ## reading: names, constants -/
section
variable {K : PySem.W.Frag} {σ : L2.St} {H : Hp} {Q : VK}
theorem r_c {v : V} (k : Q v H) : tC v σ H Q := k
theorem r_var {i : Nat} {v : V} (h : σ[i]? = some (some v)) (k : Q v H) : tVar i σ H Q := ⟨v, h, k⟩
variable {a0 a1 a2 a3 a4 a5 a6 a7 a8 a9 a10 a11 a12 a13 a14 a15 a16 a17 a18 a19 : Option V} {v : V} {r : L2.St}
theorem r_v0 (k : Q v H) : tVar 0 (some v :: r) H Q := ⟨v, rfl, k⟩
theorem r_g0 {z : Option V} {G : L2.St → Hp → Prop} (k : G (some v :: r) H) : gName 0 v (z :: r) H G := k
theorem r_v1 {a0 : Option V} (k : Q v H) : tVar 1 (a0 :: some v :: r) H Q := ⟨v, rfl, k⟩
theorem r_g1 {a0 : Option V} {z : Option V} {G : L2.St → Hp → Prop} (k : G (a0 :: some v :: r) H) : gName 1 v (a0 :: z :: r) H G := k
theorem r_v2 {a0 a1 : Option V} (k : Q v H) : tVar 2 (a0 :: a1 :: some v :: r) H Q := ⟨v, rfl, k⟩
theorem r_g2 {a0 a1 : Option V} {z : Option V} {G : L2.St → Hp → Prop} (k : G (a0 :: a1 :: some v :: r) H) : gName 2 v (a0 :: a1 :: z :: r) H G := k
theorem r_v3 {a0 a1 a2 : Option V} (k : Q v H) : tVar 3 (a0 :: a1 :: a2 :: some v :: r) H Q := ⟨v, rfl, k⟩
theorem r_g3 {a0 a1 a2 : Option V} {z : Option V} {G : L2.St → Hp → Prop} (k : G (a0 :: a1 :: a2 :: some v :: r) H) : gName 3 v (a0 :: a1 :: a2 :: z :: r) H G := k
theorem r_v4 {a0 a1 a2 a3 : Option V} (k : Q v H) : tVar 4 (a0 :: a1 :: a2 :: a3 :: some v :: r) H Q := ⟨v, rfl, k⟩
theorem r_g4 {a0 a1 a2 a3 : Option V} {z : Option V} {G : L2.St → Hp → Prop} (k : G (a0 :: a1 :: a2 :: a3 :: some v :: r) H) : gName 4 v (a0 :: a1 :: a2 :: a3 :: z :: r) H G := k
theorem r_v5 {a0 a1 a2 a3 a4 : Option V} (k : Q v H) : tVar 5 (a0 :: a1 :: a2 :: a3 :: a4 :: some v :: r) H Q := ⟨v, rfl, k⟩
theorem r_g5 {a0 a1 a2 a3 a4 : Option V} {z : Option V} {G : L2.St → Hp → Prop} (k : G (a0 :: a1 :: a2 :: a3 :: a4 :: some v :: r) H) : gName 5 v (a0 :: a1 :: a2 :: a3 :: a4 :: z :: r) H G := k
theorem r_v6 {a0 a1 a2 a3 a4 a5 : Option V} (k : Q v H) : tVar 6 (a0 :: a1 :: a2 :: a3 :: a4 :: a5 :: some v :: r) H Q := ⟨v, rfl, k⟩
theorem r_g6 {a0 a1 a2 a3 a4 a5 : Option V} {z : Option V} {G : L2.St → Hp → Prop} (k : G (a0 :: a1 :: a2 :: a3 :: a4 :: a5 :: some v :: r) H) : gName 6 v (a0 :: a1 :: a2 :: a3 :: a4 :: a5 :: z :: r) H G := k
theorem r_v7 {a0 a1 a2 a3 a4 a5 a6 : Option V} (k : Q v H) : tVar 7 (a0 :: a1 :: a2 :: a3 :: a4 :: a5 :: a6 :: some v :: r) H Q := ⟨v, rfl, k⟩
theorem r_g7 {a0 a1 a2 a3 a4 a5 a6 : Option V} {z : Option V} {G : L2.St → Hp → Prop} (k : G (a0 :: a1 :: a2 :: a3 :: a4 :: a5 :: a6 :: some v :: r) H) : gName 7 v (a0 :: a1 :: a2 :: a3 :: a4 :: a5 :: a6 :: z :: r) H G := k
theorem r_v8 {a0 a1 a2 a3 a4 a5 a6 a7 : Option V} (k : Q v H) : tVar 8 (a0 :: a1 :: a2 :: a3 :: a4 :: a5 :: a6 :: a7 :: some v :: r) H Q := ⟨v, rfl, k⟩
theorem r_g8 {a0 a1 a2 a3 a4 a5 a6 a7 : Option V} {z : Option V} {G : L2.St → Hp → Prop} (k : G (a0 :: a1 :: a2 :: a3 :: a4 :: a5 :: a6 :: a7 :: some v :: r) H) : gName 8 v (a0 :: a1 :: a2 :: a3 :: a4 :: a5 :: a6 :: a7 :: z :: r) H G := k
theorem r_v9 {a0 a1 a2 a3 a4 a5 a6 a7 a8 : Option V} (k : Q v H) : tVar 9 (a0 :: a1 :: a2 :: a3 :: a4 :: a5 :: a6 :: a7 :: a8 :: some v :: r) H Q := ⟨v, rfl, k⟩
theorem r_g9 {a0 a1 a2 a3 a4 a5 a6 a7 a8 : Option V} {z : Option V} {G : L2.St → Hp → Prop} (k : G (a0 :: a1 :: a2 :: a3 :: a4 :: a5 :: a6 :: a7 :: a8 :: some v :: r) H) : gName 9 v (a0 :: a1 :: a2 :: a3 :: a4 :: a5 :: a6 :: a7 :: a8 :: z :: r) H G := k
theorem r_v10 {a0 a1 a2 a3 a4 a5 a6 a7 a8 a9 : Option V} (k : Q v H) : tVar 10 (a0 :: a1 :: a2 :: a3 :: a4 :: a5 :: a6 :: a7 :: a8 :: a9 :: some v :: r) H Q := ⟨v, rfl, k⟩
theorem r_g10 {a0 a1 a2 a3 a4 a5 a6 a7 a8 a9 : Option V} {z : Option V} {G : L2.St → Hp → Prop} (k : G (a0 :: a1 :: a2 :: a3 :: a4 :: a5 :: a6 :: a7 :: a8 :: a9 :: some v :: r) H) : gName 10 v (a0 :: a1 :: a2 :: a3 :: a4 :: a5 :: a6 :: a7 :: a8 :: a9 :: z :: r) H G := k
theorem r_v11 {a0 a1 a2 a3 a4 a5 a6 a7 a8 a9 a10 : Option V} (k : Q v H) : tVar 11 (a0 :: a1 :: a2 :: a3 :: a4 :: a5 :: a6 :: a7 :: a8 :: a9 :: a10 :: some v :: r) H Q := ⟨v, rfl, k⟩
theorem r_g11 {a0 a1 a2 a3 a4 a5 a6 a7 a8 a9 a10 : Option V} {z : Option V} {G : L2.St → Hp → Prop} (k : G (a0 :: a1 :: a2 :: a3 :: a4 :: a5 :: a6 :: a7 :: a8 :: a9 :: a10 :: some v :: r) H) : gName 11 v (a0 :: a1 :: a2 :: a3 :: a4 :: a5 :: a6 :: a7 :: a8 :: a9 :: a10 :: z :: r) H G := k
theorem r_v12 {a0 a1 a2 a3 a4 a5 a6 a7 a8 a9 a10 a11 : Option V} (k : Q v H) : tVar 12 (a0 :: a1 :: a2 :: a3 :: a4 :: a5 :: a6 :: a7 :: a8 :: a9 :: a10 :: a11 :: some v :: r) H Q := ⟨v, rfl, k⟩
theorem r_g12 {a0 a1 a2 a3 a4 a5 a6 a7 a8 a9 a10 a11 : Option V} {z : Option V} {G : L2.St → Hp → Prop} (k : G (a0 :: a1 :: a2 :: a3 :: a4 :: a5 :: a6 :: a7 :: a8 :: a9 :: a10 :: a11 :: some v :: r) H) : gName 12 v (a0 :: a1 :: a2 :: a3 :: a4 :: a5 :: a6 :: a7 :: a8 :: a9 :: a10 :: a11 :: z :: r) H G := k
theorem r_v13 {a0 a1 a2 a3 a4 a5 a6 a7 a8 a9 a10 a11 a12 : Option V} (k : Q v H) : tVar 13 (a0 :: a1 :: a2 :: a3 :: a4 :: a5 :: a6 :: a7 :: a8 :: a9 :: a10 :: a11 :: a12 :: some v :: r) H Q := ⟨v, rfl, k⟩
theorem r_g13 {a0 a1 a2 a3 a4 a5 a6 a7 a8 a9 a10 a11 a12 : Option V} {z : Option V} {G : L2.St → Hp → Prop} (k : G (a0 :: a1 :: a2 :: a3 :: a4 :: a5 :: a6 :: a7 :: a8 :: a9 :: a10 :: a11 :: a12 :: some v :: r) H) : gName 13 v (a0 :: a1 :: a2 :: a3 :: a4 :: a5 :: a6 :: a7 :: a8 :: a9 :: a10 :: a11 :: a12 :: z :: r) H G := k
theorem r_v14 {a0 a1 a2 a3 a4 a5 a6 a7 a8 a9 a10 a11 a12 a13 : Option V} (k : Q v H) : tVar 14 (a0 :: a1 :: a2 :: a3 :: a4 :: a5 :: a6 :: a7 :: a8 :: a9 :: a10 :: a11 :: a12 :: a13 :: some v :: r) H Q := ⟨v, rfl, k⟩
theorem r_g14 {a0 a1 a2 a3 a4 a5 a6 a7 a8 a9 a10 a11 a12 a13 : Option V} {z : Option V} {G : L2.St → Hp → Prop} (k : G (a0 :: a1 :: a2 :: a3 :: a4 :: a5 :: a6 :: a7 :: a8 :: a9 :: a10 :: a11 :: a12 :: a13 :: some v :: r) H) : gName 14 v (a0 :: a1 :: a2 :: a3 :: a4 :: a5 :: a6 :: a7 :: a8 :: a9 :: a10 :: a11 :: a12 :: a13 :: z :: r) H G := k
theorem r_v15 {a0 a1 a2 a3 a4 a5 a6 a7 a8 a9 a10 a11 a12 a13 a14 : Option V} (k : Q v H) : tVar 15 (a0 :: a1 :: a2 :: a3 :: a4 :: a5 :: a6 :: a7 :: a8 :: a9 :: a10 :: a11 :: a12 :: a13 :: a14 :: some v :: r) H Q := ⟨v, rfl, k⟩
theorem r_g15 {a0 a1 a2 a3 a4 a5 a6 a7 a8 a9 a10 a11 a12 a13 a14 : Option V} {z : Option V} {G : L2.St → Hp → Prop} (k : G (a0 :: a1 :: a2 :: a3 :: a4 :: a5 :: a6 :: a7 :: a8 :: a9 :: a10 :: a11 :: a12 :: a13 :: a14 :: some v :: r) H) : gName 15 v (a0 :: a1 :: a2 :: a3 :: a4 :: a5 :: a6 :: a7 :: a8 :: a9 :: a10 :: a11 :: a12 :: a13 :: a14 :: z :: r) H G := k
theorem r_v16 {a0 a1 a2 a3 a4 a5 a6 a7 a8 a9 a10 a11 a12 a13 a14 a15 : Option V} (k : Q v H) : tVar 16 (a0 :: a1 :: a2 :: a3 :: a4 :: a5 :: a6 :: a7 :: a8 :: a9 :: a10 :: a11 :: a12 :: a13 :: a14 :: a15 :: some v :: r) H Q := ⟨v, rfl, k⟩
theorem r_g16 {a0 a1 a2 a3 a4 a5 a6 a7 a8 a9 a10 a11 a12 a13 a14 a15 : Option V} {z : Option V} {G : L2.St → Hp → Prop} (k : G (a0 :: a1 :: a2 :: a3 :: a4 :: a5 :: a6 :: a7 :: a8 :: a9 :: a10 :: a11 :: a12 :: a13 :: a14 :: a15 :: some v :: r) H) : gName 16 v (a0 :: a1 :: a2 :: a3 :: a4 :: a5 :: a6 :: a7 :: a8 :: a9 :: a10 :: a11 :: a12 :: a13 :: a14 :: a15 :: z :: r) H G := k
theorem r_v17 {a0 a1 a2 a3 a4 a5 a6 a7 a8 a9 a10 a11 a12 a13 a14 a15 a16 : Option V} (k : Q v H) : tVar 17 (a0 :: a1 :: a2 :: a3 :: a4 :: a5 :: a6 :: a7 :: a8 :: a9 :: a10 :: a11 :: a12 :: a13 :: a14 :: a15 :: a16 :: some v :: r) H Q := ⟨v, rfl, k⟩
theorem r_g17 {a0 a1 a2 a3 a4 a5 a6 a7 a8 a9 a10 a11 a12 a13 a14 a15 a16 : Option V} {z : Option V} {G : L2.St → Hp → Prop} (k : G (a0 :: a1 :: a2 :: a3 :: a4 :: a5 :: a6 :: a7 :: a8 :: a9 :: a10 :: a11 :: a12 :: a13 :: a14 :: a15 :: a16 :: some v :: r) H) : gName 17 v (a0 :: a1 :: a2 :: a3 :: a4 :: a5 :: a6 :: a7 :: a8 :: a9 :: a10 :: a11 :: a12 :: a13 :: a14 :: a15 :: a16 :: z :: r) H G := k
theorem r_v18 {a0 a1 a2 a3 a4 a5 a6 a7 a8 a9 a10 a11 a12 a13 a14 a15 a16 a17 : Option V} (k : Q v H) : tVar 18 (a0 :: a1 :: a2 :: a3 :: a4 :: a5 :: a6 :: a7 :: a8 :: a9 :: a10 :: a11 :: a12 :: a13 :: a14 :: a15 :: a16 :: a17 :: some v :: r) H Q := ⟨v, rfl, k⟩
theorem r_g18 {a0 a1 a2 a3 a4 a5 a6 a7 a8 a9 a10 a11 a12 a13 a14 a15 a16 a17 : Option V} {z : Option V} {G : L2.St → Hp → Prop} (k : G (a0 :: a1 :: a2 :: a3 :: a4 :: a5 :: a6 :: a7 :: a8 :: a9 :: a10 :: a11 :: a12 :: a13 :: a14 :: a15 :: a16 :: a17 :: some v :: r) H) : gName 18 v (a0 :: a1 :: a2 :: a3 :: a4 :: a5 :: a6 :: a7 :: a8 :: a9 :: a10 :: a11 :: a12 :: a13 :: a14 :: a15 :: a16 :: a17 :: z :: r) H G := k
theorem r_v19 {a0 a1 a2 a3 a4 a5 a6 a7 a8 a9 a10 a11 a12 a13 a14 a15 a16 a17 a18 : Option V} (k : Q v H) : tVar 19 (a0 :: a1 :: a2 :: a3 :: a4 :: a5 :: a6 :: a7 :: a8 :: a9 :: a10 :: a11 :: a12 :: a13 :: a14 :: a15 :: a16 :: a17 :: a18 :: some v :: r) H Q := ⟨v, rfl, k⟩
theorem r_g19 {a0 a1 a2 a3 a4 a5 a6 a7 a8 a9 a10 a11 a12 a13 a14 a15 a16 a17 a18 : Option V} {z : Option V} {G : L2.St → Hp → Prop} (k : G (a0 :: a1 :: a2 :: a3 :: a4 :: a5 :: a6 :: a7 :: a8 :: a9 :: a10 :: a11 :: a12 :: a13 :: a14 :: a15 :: a16 :: a17 :: a18 :: some v :: r) H) : gName 19 v (a0 :: a1 :: a2 :: a3 :: a4 :: a5 :: a6 :: a7 :: a8 :: a9 :: a10 :: a11 :: a12 :: a13 :: a14 :: a15 :: a16 :: a17 :: a18 :: z :: r) H G := k
theorem r_v20 {a0 a1 a2 a3 a4 a5 a6 a7 a8 a9 a10 a11 a12 a13 a14 a15 a16 a17 a18 a19 : Option V} (k : Q v H) : tVar 20 (a0 :: a1 :: a2 :: a3 :: a4 :: a5 :: a6 :: a7 :: a8 :: a9 :: a10 :: a11 :: a12 :: a13 :: a14 :: a15 :: a16 :: a17 :: a18 :: a19 :: some v :: r) H Q := ⟨v, rfl, k⟩
theorem r_g20 {a0 a1 a2 a3 a4 a5 a6 a7 a8 a9 a10 a11 a12 a13 a14 a15 a16 a17 a18 a19 : Option V} {z : Option V} {G : L2.St → Hp → Prop} (k : G (a0 :: a1 :: a2 :: a3 :: a4 :: a5 :: a6 :: a7 :: a8 :: a9 :: a10 :: a11 :: a12 :: a13 :: a14 :: a15 :: a16 :: a17 :: a18 :: a19 :: some v :: r) H) : gName 20 v (a0 :: a1 :: a2 :: a3 :: a4 :: a5 :: a6 :: a7 :: a8 :: a9 :: a10 :: a11 :: a12 :: a13 :: a14 :: a15 :: a16 :: a17 :: a18 :: a19 :: z :: r) H G := k
theorem r_v21 {a0 a1 a2 a3 a4 a5 a6 a7 a8 a9 a10 a11 a12 a13 a14 a15 a16 a17 a18 a19 a20 : Option V} (k : Q v H) : tVar 21 (a0 :: a1 :: a2 :: a3 :: a4 :: a5 :: a6 :: a7 :: a8 :: a9 :: a10 :: a11 :: a12 :: a13 :: a14 :: a15 :: a16 :: a17 :: a18 :: a19 :: a20 :: some v :: r) H Q := ⟨v, rfl, k⟩
theorem r_g21 {a0 a1 a2 a3 a4 a5 a6 a7 a8 a9 a10 a11 a12 a13 a14 a15 a16 a17 a18 a19 a20 : Option V} {z : Option V} {G : L2.St → Hp → Prop} (k : G (a0 :: a1 :: a2 :: a3 :: a4 :: a5 :: a6 :: a7 :: a8 :: a9 :: a10 :: a11 :: a12 :: a13 :: a14 :: a15 :: a16 :: a17 :: a18 :: a19 :: a20 :: some v :: r) H) : gName 21 v (a0 :: a1 :: a2 :: a3 :: a4 :: a5 :: a6 :: a7 :: a8 :: a9 :: a10 :: a11 :: a12 :: a13 :: a14 :: a15 :: a16 :: a17 :: a18 :: a19 :: a20 :: z :: r) H G := k
theorem r_v22 {a0 a1 a2 a3 a4 a5 a6 a7 a8 a9 a10 a11 a12 a13 a14 a15 a16 a17 a18 a19 a20 a21 : Option V} (k : Q v H) : tVar 22 (a0 :: a1 :: a2 :: a3 :: a4 :: a5 :: a6 :: a7 :: a8 :: a9 :: a10 :: a11 :: a12 :: a13 :: a14 :: a15 :: a16 :: a17 :: a18 :: a19 :: a20 :: a21 :: some v :: r) H Q := ⟨v, rfl, k⟩
theorem r_g22 {a0 a1 a2 a3 a4 a5 a6 a7 a8 a9 a10 a11 a12 a13 a14 a15 a16 a17 a18 a19 a20 a21 : Option V} {z : Option V} {G : L2.St → Hp → Prop} (k : G (a0 :: a1 :: a2 :: a3 :: a4 :: a5 :: a6 :: a7 :: a8 :: a9 :: a10 :: a11 :: a12 :: a13 :: a14 :: a15 :: a16 :: a17 :: a18 :: a19 :: a20 :: a21 :: some v :: r) H) : gName 22 v (a0 :: a1 :: a2 :: a3 :: a4 :: a5 :: a6 :: a7 :: a8 :: a9 :: a10 :: a11 :: a12 :: a13 :: a14 :: a15 :: a16 :: a17 :: a18 :: a19 :: a20 :: a21 :: z :: r) H G := k
theorem r_v23 {a0 a1 a2 a3 a4 a5 a6 a7 a8 a9 a10 a11 a12 a13 a14 a15 a16 a17 a18 a19 a20 a21 a22 : Option V} (k : Q v H) : tVar 23 (a0 :: a1 :: a2 :: a3 :: a4 :: a5 :: a6 :: a7 :: a8 :: a9 :: a10 :: a11 :: a12 :: a13 :: a14 :: a15 :: a16 :: a17 :: a18 :: a19 :: a20 :: a21 :: a22 :: some v :: r) H Q := ⟨v, rfl, k⟩
theorem r_g23 {a0 a1 a2 a3 a4 a5 a6 a7 a8 a9 a10 a11 a12 a13 a14 a15 a16 a17 a18 a19 a20 a21 a22 : Option V} {z : Option V} {G : L2.St → Hp → Prop} (k : G (a0 :: a1 :: a2 :: a3 :: a4 :: a5 :: a6 :: a7 :: a8 :: a9 :: a10 :: a11 :: a12 :: a13 :: a14 :: a15 :: a16 :: a17 :: a18 :: a19 :: a20 :: a21 :: a22 :: some v :: r) H) : gName 23 v (a0 :: a1 :: a2 :: a3 :: a4 :: a5 :: a6 :: a7 :: a8 :: a9 :: a10 :: a11 :: a12 :: a13 :: a14 :: a15 :: a16 :: a17 :: a18 :: a19 :: a20 :: a21 :: a22 :: z :: r) H G := k
/-! ## reading: structure -/
theorem r_op {r : R2} {ta tb : TE} (k : ta σ H fun x H1 => tb σ H1 fun y H2 => r x y H2 Q) : tOp r ta tb σ H Q := k
theorem r_un {r : V → Hp → VK → Prop} {ta : TE} (k : ta σ H fun x H1 => r x H1 Q) : tUn r ta σ H Q := k
theorem r_chain {r r' : R2} {ta tb tc : TE} (k : ta σ H fun x H1 => tb σ H1 fun y H2 => r x y H2 fun z H3 => ∃ k, z = .bl k ∧ (if k = true then tc σ H3 fun w' H4 => r' y w' H4 Q else Q (.bl false) H3)) : tChain r r' ta tb tc σ H Q := k
theorem r_nil {Q : List V → Hp → Prop} (k : Q [] H) : tNil σ H Q := k
theorem r_cons {Q : List V → Hp → Prop} {ta : TE} {tr : TA} (k : ta σ H fun x H1 => tr σ H1 fun xs H2 => Q (x :: xs) H2) : tCons ta tr σ H Q := k
theorem r_cB {r : List V → Hp → VK → Prop} {t : TA} (k : t σ H fun vs H1 => r vs H1 Q) : tCB r t σ H Q := k
theorem r_call {sp : Sp} {E : XK} {t : TA} (k : t σ H fun vs H1 => sp vs H1 Q E) : tCall sp [] E t σ H Q := by
  have e : (fun (vs : List V) H1 => sp (vs ++ []) H1 Q E) = fun vs H1 => sp vs H1 Q E := by
    funext vs H1
    rw [List.append_nil]
  show t σ H fun vs H1 => sp (vs ++ []) H1 Q E
  rw [e]
  exact k
theorem r_tup {t : TA} (k : t σ H fun xs H1 => xs.length ≤ sizeLine ∧ ∀ p, H1 p = none → Q (.ref p) (upd H1 p (.tup xs))) : tTup t σ H Q := k
theorem r_lst {t : TA} (k : t σ H fun xs H1 => xs.length ≤ sizeLine ∧ ∀ p, H1 p = none → Q (.ref p) (upd H1 p (.lst xs))) : tLst t σ H Q := k
theorem r_test {t : TE} {Q : Bool → Hp → Prop} (k : t σ H fun x H' => ∃ k, x = .bl k ∧ Q k H') : tTest t σ H Q := k
theorem r_B {t : TE} {Q : Bool → Hp → Prop} (k : t σ H fun x H' => ∃ k, x = .bl k ∧ Q k H') : tB t σ H Q := k
theorem r_bl {b : Bool} {P : Bool → Prop} (k : P b) : ∃ c, V.bl b = .bl c ∧ P c := ⟨b, rfl, k⟩
theorem r_and {t u : TT} {Q : Bool → Hp → Prop} (k : t σ H fun c H1 => if c = true then u σ H1 Q else Q false H1) : tAnd t u σ H Q := k
theorem r_or {t u : TT} {Q : Bool → Hp → Prop} (k : t σ H fun c H1 => if c = true then Q true H1 else u σ H1 Q) : tOr t u σ H Q := k
theorem r_not {t : TT} {Q : Bool → Hp → Prop} (k : t σ H fun c H1 => Q (!c) H1) : tNot t σ H Q := k
theorem r_andV {ta tb : TE} (k : ta σ H fun x H1 => ∃ c, x = .bl c ∧ if c = true then tb σ H1 Q else Q (.bl false) H1) : tAndV ta tb σ H Q := k
theorem r_orV {ta tb : TE} (k : ta σ H fun x H1 => ∃ c, x = .bl c ∧ if c = true then Q (.bl true) H1 else tb σ H1 Q) : tOrV ta tb σ H Q := k
theorem r_notV {ta : TE} (k : ta σ H fun x H1 => ∃ c, x = .bl c ∧ Q (.bl (!c)) H1) : tNotV ta σ H Q := k
theorem r_if {t : TT} {ta tb : TE} (k : t σ H fun c H1 => if c = true then ta σ H1 Q else tb σ H1 Q) : tIf t ta tb σ H Q := k
theorem r_sl {rr : V → Option Int → Option Int → Hp → VK → Prop} {te : TE} {tl th : TO} (k : te σ H fun x H1 => tl σ H1 fun l H2 => th σ H2 fun u H3 => rr x l u H3 Q) : tSl rr te tl th σ H Q := k
theorem r_noP {Q : Option Int → Hp → Prop} (k : Q none H) : tNoPart σ H Q := k
theorem r_part {t : TE} {Q : Option Int → Hp → Prop} (k : t σ H fun x H1 => ∃ i, x = .int i ∧ Q (some i) H1) : tPart t σ H Q := k
theorem r_partI {i : Int} {P : Int → Prop} (k : P i) : ∃ j, V.int i = .int j ∧ P j := ⟨i, rfl, k⟩
theorem r_bm {T : String} {rr : V → List V → Hp → VK → Prop} {to : TE} {t : TA} (k : to σ H fun x H1 => tyV K T x H1 ∧ t σ H1 fun xs H2 => rr x xs H2 Q) : tBM K T rr to t σ H Q := k
theorem r_bm0 {T : String} {rr : V → List V → Hp → VK → Prop} {to : TE} (k : to σ H fun x H1 => tyV K T x H1 ∧ rr x [] H1 Q) : tBM0 K T rr to σ H Q := k
/-! ### statements -/
variable {nn bb cc : L2.St → Hp → Prop} {rr : VK}
theorem r_seq {t u : TS} (k : t ⟨u ⟨nn, rr, bb, cc⟩, rr, bb, cc⟩ σ H) : tSeq t u ⟨nn, rr, bb, cc⟩ σ H := k
theorem r_cut {t u : TS} (Mid : L2.St → Hp → Prop) (k : t ⟨Mid, rr, bb, cc⟩ σ H) (k2 : ∀ σ' H', Mid σ' H' → u ⟨nn, rr, bb, cc⟩ σ' H') : tCut t u ⟨nn, rr, bb, cc⟩ σ H := ⟨Mid, k, k2⟩
theorem r_next (k : nn σ H) : tNext ⟨nn, rr, bb, cc⟩ σ H := k
theorem r_break (k : bb σ H) : tBreak ⟨nn, rr, bb, cc⟩ σ H := k
theorem r_cont (k : cc σ H) : tCont ⟨nn, rr, bb, cc⟩ σ H := k
theorem r_drop {te : TE} (k : te σ H fun _ H1 => nn σ H1) : tDrop te ⟨nn, rr, bb, cc⟩ σ H := k
theorem r_ret {te : TE} (k : te σ H rr) : tRet te ⟨nn, rr, bb, cc⟩ σ H := k
theorem r_retN (k : rr .non H) : tRetN ⟨nn, rr, bb, cc⟩ σ H := k
theorem r_ifS {c : TT} {t u : TS} (k : c σ H fun b H1 => if b = true then t ⟨nn, rr, bb, cc⟩ σ H1 else u ⟨nn, rr, bb, cc⟩ σ H1) : tIfS c t u ⟨nn, rr, bb, cc⟩ σ H := k
theorem r_asg {te : TE} {g : TG} (k : te σ H fun x H1 => g x σ H1 nn) : tAsg te g ⟨nn, rr, bb, cc⟩ σ H := k
def ForW (J : It) (g : TG) (tb : TS) (D : Ends) (σ : L2.St) (H1 : Hp) : Prop := ∃ W : Nat → Nat → L2.St → Hp → Prop, (∃ m, W 0 m σ H1) ∧ ∀ i m σ H, W i m σ H →
  (J.stop i H ∧ D.nx σ H) ∨ (J.go i H ∧ ∃ N : L2.St → Hp → Prop, (∀ σ' H', N σ' H' → ∃ m', m' < m ∧ W (i + 1) m' σ' H') ∧ ∀ x H', J.yld i H x H' → g x σ H' fun σ2 H2 => tb { D with nx := N, ct := N, bk := D.nx } σ2 H2)
theorem r_for {wi : TI} {g : TG} {tb : TS} (k : wi σ H fun J H1 => ForW J g tb ⟨nn, rr, bb, cc⟩ σ H1) : tFor wi g tb ⟨nn, rr, bb, cc⟩ σ H := k
theorem fw_list {a : Addr} {xs : List V} {g : TG} {tb : TS} (Pv : Nat → L2.St → Hp → Prop) (h0 : Pv 0 σ H) (hl : ∀ i σ H, i ≤ xs.length → Pv i σ H → SqL K H a xs)
    (hs : ∀ i x σ H, xs[i]? = some x → Pv i σ H → g x σ H fun σ2 H2 => tb ⟨Pv (i + 1), rr, nn, Pv (i + 1)⟩ σ2 H2) (hd : ∀ σ H, Pv xs.length σ H → nn σ H) : ForW (Itl K a) g tb ⟨nn, rr, bb, cc⟩ σ H := for_list Pv h0 hl hs hd
theorem fw_tup {a : Addr} {xs : List V} {g : TG} {tb : TS} (Pv : Nat → L2.St → Hp → Prop) (h0 : Pv 0 σ H) (hl : ∀ i σ H, i ≤ xs.length → Pv i σ H → SqT K H a xs)
    (hs : ∀ i x σ H, xs[i]? = some x → Pv i σ H → g x σ H fun σ2 H2 => tb ⟨Pv (i + 1), rr, nn, Pv (i + 1)⟩ σ2 H2) (hd : ∀ σ H, Pv xs.length σ H → nn σ H) : ForW (Itt K a) g tb ⟨nn, rr, bb, cc⟩ σ H := for_tup Pv h0 hl hs hd
theorem fw_range {lo : Int} {n : Nat} {g : TG} {tb : TS} (Pv : Nat → L2.St → Hp → Prop) (h0 : Pv 0 σ H)
    (hs : ∀ i σ H, i < n → Pv i σ H → g (.int (lo + i)) σ H fun σ2 H2 => tb ⟨Pv (i + 1), rr, nn, Pv (i + 1)⟩ σ2 H2) (hd : ∀ σ H, Pv n σ H → nn σ H) : ForW (Itr lo n) g tb ⟨nn, rr, bb, cc⟩ σ H := for_range Pv h0 hs hd
theorem r_iList {tl : TE} {R : It → Hp → Prop} (k : tl σ H fun x H1 => ∃ a, x = .ref a ∧ (∃ xs, SqL K H1 a xs) ∧ R (Itl K a) H1) : iList K tl σ H R := k
theorem r_iRng1 {ta : TA} {R : It → Hp → Prop} (k : ta σ H fun vs H1 => ∃ j : Int, vs = [.int j] ∧ -(2 ^ 62) ≤ j ∧ j < 2 ^ 62 ∧ R (Itr 0 j.toNat) H1) : iRng1 ta σ H R := k
theorem r_iRng2 {ta : TA} {R : It → Hp → Prop} (k : ta σ H fun vs H1 => ∃ i j : Int, vs = [.int i, .int j] ∧ (-(2 ^ 62) ≤ i ∧ i < 2 ^ 62 ∧ -(2 ^ 62) ≤ j ∧ j < 2 ^ 62) ∧ R (Itr i (j - i).toNat) H1) : iRng2 ta σ H R := k
/-! ### targets -/
variable {G : L2.St → Hp → Prop} {x : V}
theorem r_gTup {n : Nat} {t : TGs} {a : Addr} {xs : List V} (h : SqT K H a xs) (hl : xs.length = n) (k : t xs σ H G) : gTup K n t (.ref a) σ H G := ⟨a, xs, rfl, h, hl, k⟩
theorem r_gCons {t : TG} {u : TGs} {xs : List V} (k : t x σ H fun σ' H' => u xs σ' H' G) : gCons t u (x :: xs) σ H G := ⟨x, xs, rfl, k⟩
theorem r_gNil (k : G σ H) : gNil [] σ H G := ⟨rfl, k⟩
theorem r_gSub {to ti : TE} {t : TSet} (k : to σ H fun o H1 => ti σ H1 fun i H2 => t o i x H2 fun H3 => G σ H3) : gSub to ti t x σ H G := k
theorem r_setL {p : Addr} {xs : List V} {i : Int} {j : Nat} {G : Hp → Prop} (h : H p = some (.lst xs)) (e : ixN xs.length i = some j) (k : G (upd H p (.lst (xs.set j x)))) : rSetL (.ref p) (.int i) x H G := ⟨p, xs, i, j, rfl, rfl, h, e, k⟩
/-! ### values -/
theorem r_I0 {g : Int → Int → V} {i j : Int} (k : Q (g i j) H) : rI0 g (.int i) (.int j) H Q := ⟨i, j, rfl, rfl, k⟩
theorem r_I {C : Int → Int → Prop} {g : Int → Int → V} {i j : Int} (c : C i j) (k : Q (g i j) H) : rI C g (.int i) (.int j) H Q := ⟨i, j, rfl, rfl, c, k⟩
theorem r_U {g : Int → V} {i : Int} (k : Q (g i) H) : rU g (.int i) H Q := ⟨i, rfl, k⟩
theorem r_addI {i j : Int} (k : Q (.int (i + j)) H) : rAddA K (.int i) (.int j) H Q := .inl ⟨i, j, rfl, rfl, k⟩
theorem r_addL {l b : Addr} {xs zs : List V} (h1 : H l = some (.lst xs)) (h2 : H b = some (.lst zs)) (hl : xs.length + zs.length ≤ sizeLine) (k : ∀ p, H p = none → Q (.ref p) (upd H p (.lst (xs ++ zs)))) : rAddA K (.ref l) (.ref b) H Q := .inr (.inr (.inl ⟨l, b, xs, zs, rfl, rfl, h1, h2, hl, k⟩))
theorem r_eqI {i j : Int} (k : Q (.bl (decide (i = j))) H) : rEqA K (.int i) (.int j) H Q := .inl ⟨rfl, by
  have e : decide (V.int i = V.int j) = decide (i = j) := by by_cases h : i = j <;> simp [h]
  rw [e]
  exact k⟩
theorem r_neI {i j : Int} (k : Q (.bl (!decide (i = j))) H) : rNeA K (.int i) (.int j) H Q := .inl ⟨rfl, by
  have e : decide (V.int i = V.int j) = decide (i = j) := by by_cases h : i = j <;> simp [h]
  rw [e]
  exact k⟩
theorem r_eqB {i j : Bool} (k : Q (.bl (decide (i = j))) H) : rEqA K (.bl i) (.bl j) H Q := .inl ⟨rfl, by
  have e : decide (V.bl i = V.bl j) = decide (i = j) := by by_cases h : i = j <;> simp [h]
  rw [e]
  exact k⟩
theorem r_neB {i j : Bool} (k : Q (.bl (!decide (i = j))) H) : rNeA K (.bl i) (.bl j) H Q := .inl ⟨rfl, by
  have e : decide (V.bl i = V.bl j) = decide (i = j) := by by_cases h : i = j <;> simp [h]
  rw [e]
  exact k⟩
theorem r_ix {p : Addr} {xs : List V} {i : Int} {v : V} (h : SqL K H p xs ∨ SqT K H p xs) (e : atI xs i = some v) (k : Q v H) : rIx K (.ref p) (.int i) H Q := by
  rcases h with h | h
  · exact .inl ⟨p, xs, i, v, rfl, rfl, h, e, k⟩
  · exact .inr (.inl ⟨p, xs, i, v, rfl, rfl, h, e, k⟩)
theorem r_lenS {p : Addr} {ys : List V} (h : SqL K H p ys ∨ SqT K H p ys) (k : ys.length ≤ 16777216 → Q (.int ys.length) H) : rLen K [.ref p] H Q := .inl ⟨p, ys, rfl, h, k⟩
theorem r_max2 {i j : Int} (k : Q (.int (max i j)) H) : rMaxA K [.int i, .int j] H Q := .inl ⟨i, j, rfl, by
  have e : (if j > i then j else i) = max i j := by rw [Int.max_def]; split <;> split <;> omega
  rw [e]
  exact k⟩
theorem r_min2 {i j : Int} (k : Q (.int (min i j)) H) : rMinA K [.int i, .int j] H Q := .inl ⟨i, j, rfl, by
  have e : (if j < i then j else i) = min i j := by rw [Int.min_def]; split <;> split <;> omega
  rw [e]
  exact k⟩
theorem r_maxL {p : Addr} {ns : List Int} (h : SqL K H p (ns.map V.int)) (h0 : 0 < ns.length) (k : ∀ m, m ∈ ns → (∀ y, y ∈ ns → y ≤ m) → Q (.int m) H) : rMaxA K [.ref p] H Q := .inr ⟨p, ns, rfl, h, h0, k⟩
theorem r_minL {p : Addr} {ns : List Int} (h : SqL K H p (ns.map V.int)) (h0 : 0 < ns.length) (k : ∀ m, m ∈ ns → (∀ y, y ∈ ns → m ≤ y) → Q (.int m) H) : rMinA K [.ref p] H Q := .inr ⟨p, ns, rfl, h, h0, k⟩
theorem r_abs {i : Int} (k : Q (.int i.natAbs) H) : rAbs [.int i] H Q := ⟨i, rfl, by
  have e : (if i < 0 then -i else i) = (i.natAbs : Int) := by split <;> omega
  rw [e]
  exact k⟩
theorem r_intI {i : Int} (k : Q (.int i) H) : rInt1 [.int i] H Q := .inl ⟨i, rfl, k⟩
theorem r_intB {b : Bool} (k : Q (.int (if b then 1 else 0)) H) : rInt1 [.bl b] H Q := .inr ⟨b, rfl, k⟩
theorem r_listOf {p : Addr} {ys : List V} (h : SqL K H p ys ∨ SqT K H p ys) (k : ∀ l, H l = none → Q (.ref l) (upd H l (.lst ys))) : rListOf K [.ref p] H Q := ⟨p, ys, rfl, h, k⟩
theorem r_tupT {p : Addr} {ys : List V} (h : SqT K H p ys) (k : Q (.ref p) H) : rTupOf K [.ref p] H Q := ⟨p, ys, rfl, .inr ⟨h, k⟩⟩
theorem r_tupL {p : Addr} {ys : List V} (h : SqL K H p ys) (k : ∀ l, H l = none → Q (.ref l) (upd H l (.tup ys))) : rTupOf K [.ref p] H Q := ⟨p, ys, rfl, .inl ⟨h, k⟩⟩
theorem r_slL {p : Addr} {xs : List V} {lo hi : Option Int} (h : SqL K H p xs) (k : ∀ l, H l = none → Q (.ref l) (upd H l (.lst (cutV xs lo hi)))) : rSlAll K (.ref p) lo hi H Q := .inl ⟨p, xs, rfl, h, k⟩
theorem r_app {l : Addr} {xs : List V} {y : V} (h : H l = some (.lst xs)) (hz : xs.length < sizeLine) (k : Q .non (upd H l (.lst (xs ++ [y])))) : rAppend (.ref l) [y] H Q := ⟨l, xs, y, rfl, rfl, h, hz, k⟩
theorem r_tyL {p : Addr} {xs : List V} (h : H p = some (.lst xs)) : tyV K "list" (.ref p) H := .inl ⟨rfl, _, SqL.of h⟩
theorem r_eqD {x y : V} {d : PyData} (h1 : Dp K H x d) (h2 : Dp K H y d) (hs : SeqAt.shaped d = true) (k : Q (.bl true) H) : rEqA K x y H Q := .inr ⟨d, d, h1, h2, hs, hs, by
  rw [SeqAt.eqv_refl d (SeqAt.canLay_of_shaped hs)]
  exact k⟩
theorem r_neD {x y : V} {d : PyData} (h1 : Dp K H x d) (h2 : Dp K H y d) (hs : SeqAt.shaped d = true) (k : Q (.bl false) H) : rNeA K x y H Q := .inr ⟨d, d, h1, h2, hs, hs, by
  rw [SeqAt.eqv_refl d (SeqAt.canLay_of_shaped hs)]
  exact k⟩
end
/-! ## tests -/
theorem iteD {c A B : Prop} [Decidable c] (h1 : c → A) (h2 : ¬ c → B) : if decide c = true then A else B := by
  by_cases h : c
  · rw [if_pos (decide_eq_true h)]
    exact h1 h
  · rw [if_neg (by simpa using h)]
    exact h2 h
theorem iteN {c A B : Prop} [Decidable c] (h1 : ¬ c → A) (h2 : c → B) : if (!decide c) = true then A else B := by
  by_cases h : c
  · rw [if_neg (by simpa using h)]
    exact h2 h
  · rw [if_pos (by simpa using h)]
    exact h1 h
theorem iteDT {c A B : Prop} [Decidable c] (hc : c) (h1 : A) : if decide c = true then A else B := iteD (fun _ => h1) fun h => absurd hc h
theorem iteDF {c A B : Prop} [Decidable c] (hc : ¬ c) (h1 : B) : if decide c = true then A else B := iteD (fun h => absurd h hc) fun _ => h1
theorem iteNT {c A B : Prop} [Decidable c] (hc : ¬ c) (h1 : A) : if (!decide c) = true then A else B := iteN (fun _ => h1) fun h => absurd h hc
theorem iteNF {c A B : Prop} [Decidable c] (hc : c) (h1 : B) : if (!decide c) = true then A else B := iteN (fun h => absurd hc h) fun _ => h1
/-! ## heaps -/
section
variable {H H' H1 H2 : Hp}
theorem at_new {p g : Addr} {o u : HO} (np : H p = none) (h : H g = some o) : upd H p u g = some o := by
  rw [upd_ne (ne_of_none h np)]
  exact h
theorem at_wr {p g : Addr} {o u : HO} (hne : g ≠ p) (h : H g = some o) : upd H p u g = some o := by
  rw [upd_ne hne]
  exact h
theorem same_new {p : Addr} {u : HO} (np : H p = none) : Same H (upd H p u) := fun _ _ h => at_new np h
end
/-! ## frames: all stays but the place of the draws -/
/-- not the list that the draws turn -/
def NotSt (o : HO) : Prop := ∀ (a : Addr) (i m r : Int), o ≠ .lst [.ref a, .int i, .int m, .int r]
theorem nst_tup {xs : List V} : NotSt (.tup xs) := fun _ _ _ _ h => nomatch h
theorem nst_frz {o : Obj} {u : HO} : NotSt (.frz o u) := fun _ _ _ _ h => nomatch h
theorem nst_ins {C dx : Addr} {fs : List (Str × V)} : NotSt (.ins C dx fs) := fun _ _ _ _ h => nomatch h
theorem nst_own {x : Addr} : NotSt (.own x) := fun _ _ _ _ h => nomatch h
theorem nst_nil : NotSt (.lst []) := fun _ _ _ _ h => by cases h
theorem nst_int {i : Int} {r : List V} : NotSt (.lst (.int i :: r)) := fun _ _ _ _ h => by cases h
theorem nst_cons {a b : Addr} {r : List V} : NotSt (.lst (.ref a :: .ref b :: r)) := fun _ _ _ _ h => by cases h
theorem nst_ints {ns : List Int} : NotSt (.lst (ns.map V.int)) := fun _ _ _ _ h => by
  cases ns with
  | nil => cases h
  | cons a r => cases h
theorem nst_refs {as : List Addr} : NotSt (.lst (as.map V.ref)) := fun _ _ _ _ h => by
  match as, h with
  | [], h => cases h
  | [_], h => cases h
  | _ :: _ :: _, h => cases h
def Fr (H H' : Hp) : Prop := ∀ b o, H b = some o → NotSt o → H' b = some o
section
variable {K : PySem.W.Frag} {H H' H1 H2 : Hp}
theorem Fr.refl (H : Hp) : Fr H H := fun _ _ h _ => h
theorem Fr.trans (a : Fr H H1) (b : Fr H1 H2) : Fr H H2 := fun c o h n => b c o (a c o h n) n
theorem Fr.same (a : Fr H H1) (b : Same H1 H2) : Fr H H2 := fun c o h n => b c o (a c o h n)
theorem Fr.of (a : Same H H1) : Fr H H1 := fun c o h _ => a c o h
theorem fr_at {g : Addr} {o : HO} (R : Fr H H') (h : H g = some o) (n : NotSt o) : H' g = some o := R g o h n
theorem same_at {g : Addr} {o : HO} (R : Same H H') (h : H g = some o) : H' g = some o := R g o h
theorem same_sq {a : Addr} {xs : List V} (R : Same H H') (h : SqL K H a xs) : SqL K H' a xs := R.seq h
theorem fr_sq {a : Addr} {ns : List Int} (R : Fr H H') (h : SqL K H a (ns.map V.int)) : SqL K H' a (ns.map V.int) := by
  rcases h with (h | ⟨o, h⟩) | h
  · exact .inl (.inl (R _ _ h nst_ints))
  · exact .inl (.inr ⟨o, R _ _ h nst_frz⟩)
  · exact .inr h
theorem sq_new {p a : Addr} {u : HO} {xs : List V} (np : H p = none) (h : SqL K H a xs) : SqL K (upd H p u) a xs := (same_new np).seq h
theorem fr_new {p : Addr} {u : HO} (np : H1 p = none) (h : Fr H H1) : Fr H (upd H1 p u) := fun b o e n => at_new np (h b o e n)
theorem sm_new {p : Addr} {u : HO} (np : H1 p = none) (h : Same H H1) : Same H (upd H1 p u) := fun b o e => at_new np (h b o e)
theorem Same.free {p : Addr} (h : Same H H1) (n : H1 p = none) : H p = none := by
  cases e : H p with
  | none => rfl
  | some o => rw [h p o e] at n; cases n
theorem r_pow {Q : VK} {i j : Int} (c : 0 ≤ j ∧ j ≤ 1000000 ∧ i.natAbs < 2 ^ 64) (k : Q (.int (i ^ j.toNat)) H) : rI CPow (fun i j => .int (i ^ j.toNat)) (.int i) (.int j) H Q := ⟨i, j, rfl, rfl, c, k⟩
theorem r_dec {Q : VK} {p : Prop} [Decidable p] {a : Hp} (k : Q (.bl (decide p)) a) : Q (.bl (decide p)) a := k
end
theorem map_at {α : Type} {f : α → V} {l : List α} {i : Nat} {y : V} (h : (l.map f)[i]? = some y) : ∃ z, l[i]? = some z ∧ y = f z := by
  rw [List.getElem?_map] at h
  cases e : l[i]? with
  | none => rw [e] at h; cases h
  | some z => rw [e] at h; exact ⟨z, rfl, (Option.some.inj h).symm⟩
theorem r_start {T : L2.St → Hp → Prop} {σ σ' : L2.St} {H : Hp} (e : σ = σ') (k : T σ' H) : T σ H := e ▸ k
theorem len_ok {n : Nat} (h : Nat.ble n 1000 = true) : n ≤ sizeLine := Nat.le_of_lt (small1000 (Nat.le_of_ble_eq_true h))
theorem r_lay {xs : List V} {R : Prop} (h : xs.length ≤ sizeLine) (k : R) : xs.length ≤ sizeLine ∧ R := ⟨h, k⟩
theorem r_setA {H : Hp} {p : Addr} {xs ys : List V} {i : Int} {j : Nat} {x : V} {G : Hp → Prop} (h : H p = some (.lst xs)) (e : ixN xs.length i = some j) (hy : xs.set j x = ys) (k : ∀ H', H' p = some (.lst ys) → (∀ b o, b ≠ p → H b = some o → H' b = some o) → G H') : rSetL (.ref p) (.int i) x H G :=
  r_setL h e (by rw [hy]; exact k _ upd_same fun b o n q => at_wr n q)
theorem r_appA {H : Hp} {Q : VK} {l : Addr} {xs : List V} {y : V} (h : H l = some (.lst xs)) (hz : xs.length < sizeLine) (k : ∀ H', H' l = some (.lst (xs ++ [y])) → (∀ b o, b ≠ l → H b = some o → H' b = some o) → Q .non H') : rAppend (.ref l) [y] H Q :=
  r_app h hz (k _ upd_same fun b o n q => at_wr n q)
theorem pickI {v : Int} (ns : List Int) (h0 : 0 ≤ v) (h1 : v < ns.length) : ∃ w, atI (ns.map V.int) v = some (.int w) ∧ w ∈ ns := by
  have h : v.toNat < ns.length := by omega
  exact ⟨ns[v.toNat], at_of (j := v.toNat) (by omega) (by rw [List.getElem?_map, List.getElem?_eq_getElem h]; rfl), List.getElem_mem h⟩
theorem pickN {v : Int} {n : Nat} (ns : List Int) (h0 : 0 ≤ v) (h1 : v < n) (h2 : n ≤ ns.length) : ∃ w, atI (ns.map V.int) v = some (.int w) ∧ w ∈ ns.take n := by
  have h : v.toNat < ns.length := by omega
  refine ⟨ns[v.toNat], at_of (j := v.toNat) (by omega) (by rw [List.getElem?_map, List.getElem?_eq_getElem h]; rfl), ?_⟩
  have h3 : v.toNat < (ns.take n).length := by rw [List.length_take]; omega
  have e : (ns.take n)[v.toNat] = ns[v.toNat] := List.getElem_take
  rw [← e]
  exact List.getElem_mem h3
theorem pick2 {v : Int} (a b : Int) (h0 : 0 ≤ v) (h1 : v < 2) : ∃ w, atI [V.int a, V.int b] v = some (.int w) ∧ (v = 0 ∧ w = a ∨ v = 1 ∧ w = b) := by
  have : v = 0 ∨ v = 1 := by omega
  rcases this with rfl | rfl
  · exact ⟨a, rfl, .inl ⟨rfl, rfl⟩⟩
  · exact ⟨b, rfl, .inr ⟨rfl, rfl⟩⟩
theorem pick3 {v : Int} (a b c : Int) (h0 : 0 ≤ v) (h1 : v < 3) : ∃ w, atI [V.int a, V.int b, V.int c] v = some (.int w) ∧ (v = 0 ∧ w = a ∨ v = 1 ∧ w = b ∨ v = 2 ∧ w = c) := by
  have : v = 0 ∨ v = 1 ∨ v = 2 := by omega
  rcases this with rfl | rfl | rfl
  · exact ⟨a, rfl, .inl ⟨rfl, rfl⟩⟩
  · exact ⟨b, rfl, .inr (.inl ⟨rfl, rfl⟩)⟩
  · exact ⟨c, rfl, .inr (.inr ⟨rfl, rfl⟩)⟩
theorem pick4 {v : Int} (a b c d : Int) (h0 : 0 ≤ v) (h1 : v < 4) : ∃ w, atI [V.int a, V.int b, V.int c, V.int d] v = some (.int w) ∧ (v = 0 ∧ w = a ∨ v = 1 ∧ w = b ∨ v = 2 ∧ w = c ∨ v = 3 ∧ w = d) := by
  have : v = 0 ∨ v = 1 ∨ v = 2 ∨ v = 3 := by omega
  rcases this with rfl | rfl | rfl | rfl
  · exact ⟨a, rfl, .inl ⟨rfl, rfl⟩⟩
  · exact ⟨b, rfl, .inr (.inl ⟨rfl, rfl⟩)⟩
  · exact ⟨c, rfl, .inr (.inr (.inl ⟨rfl, rfl⟩))⟩
  · exact ⟨d, rfl, .inr (.inr (.inr ⟨rfl, rfl⟩))⟩
theorem at_neg1 {xs : List V} {n : Nat} {v : V} (hl : xs.length = n + 1) (h : xs[n]? = some v) : atI xs (-1) = some v := by
  have e : ixN xs.length (-1) = some n := by
    unfold ixN
    rw [hl, if_neg (by decide), if_pos (by omega)]
    have : (-1 + ((n + 1 : Nat) : Int)).toNat = n := by omega
    rw [this]
  unfold atI
  rw [e]
  exact h
/-! ## comprehensions -/
def LcW (J : It) (g : TG) (tt : TT) (te : TE) (vs : List Nat) (σ : L2.St) (Q : VK) (D : Addr) (H1 : Hp) : Prop := ∃ W : Nat → Nat → Hp → Prop, (∃ m, W 0 m (upd H1 D (.lst []))) ∧ ∀ i m H, W i m H →
  (J.stop i H ∧ Q (.ref D) H) ∨ (J.go i H ∧ ∃ Nx : Hp → Prop, (∀ H', Nx H' → ∃ m', m' < m ∧ W (i + 1) m' H') ∧ ∀ x H', J.yld i H x H' → g x (wipe σ vs) H' fun σ2 H2 => wipe σ2 vs = wipe σ vs ∧ tt σ2 H2 fun b H3 =>
    if b = true then te σ2 H3 fun y H4 => ∃ acc, H4 D = some (.lst acc) ∧ acc.length < sizeLine ∧ Nx (upd H4 D (.lst (acc ++ [y]))) else Nx H3)
theorem r_lc {wi : TI} {g : TG} {tt : TT} {te : TE} {vs : List Nat} {σ : L2.St} {H : Hp} {Q : VK} (k : wi σ H fun J H1 => ∀ D, H1 D = none → LcW J g tt te vs σ Q D H1) : tLc wi g tt te vs σ H Q := k
theorem r_tYes {σ : L2.St} {H : Hp} {Q : Bool → Hp → Prop} (k : Q true H) : tYes σ H Q := k
section
variable {g : TG} {tt : TT} {te : TE} {vs : List Nat} {σ σw : L2.St} {Q : VK} {D : Addr} {H1 : Hp}
theorem lcw_range {lo : Int} {n : Nat} (Pv : Nat → Hp → Prop) (hw : wipe σ vs = σw) (h0 : Pv 0 (upd H1 D (.lst [])))
    (hs : ∀ i H, i < n → Pv i H → g (.int (lo + i)) σw H fun σ2 H2 => wipe σ2 vs = σw ∧ tt σ2 H2 fun b H3 =>
      if b = true then te σ2 H3 fun y H4 => ∃ acc, H4 D = some (.lst acc) ∧ acc.length < sizeLine ∧ Pv (i + 1) (upd H4 D (.lst (acc ++ [y]))) else Pv (i + 1) H3) (hd : ∀ H, Pv n H → Q (.ref D) H) : LcW (Itr lo n) g tt te vs σ Q D H1 := by
  subst hw
  exact lc_range Pv h0 hs hd
theorem lcw_list {K : PySem.W.Frag} {a : Addr} {xs : List V} (Pv : Nat → Hp → Prop) (hw : wipe σ vs = σw) (h0 : Pv 0 (upd H1 D (.lst []))) (hl : ∀ i H, i ≤ xs.length → Pv i H → SqL K H a xs)
    (hs : ∀ i x H, xs[i]? = some x → Pv i H → g x σw H fun σ2 H2 => wipe σ2 vs = σw ∧ tt σ2 H2 fun b H3 =>
      if b = true then te σ2 H3 fun y H4 => ∃ acc, H4 D = some (.lst acc) ∧ acc.length < sizeLine ∧ Pv (i + 1) (upd H4 D (.lst (acc ++ [y]))) else Pv (i + 1) H3) (hd : ∀ H, Pv xs.length H → Q (.ref D) H) : LcW (Itl K a) g tt te vs σ Q D H1 := by
  subst hw
  exact lc_list Pv h0 hl hs hd
end
/-- what the tail of a comprehension's turn asks, the heap behind it a letter -/
theorem lc_put {D : Addr} {acc : List V} {y : V} {H4 : Hp} {Nx : Hp → Prop} (h : H4 D = some (.lst acc)) (hz : acc.length < sizeLine) (k : ∀ H5, H5 D = some (.lst (acc ++ [y])) → (∀ b o, b ≠ D → H4 b = some o → H5 b = some o) → Nx H5) :
    ∃ acc, H4 D = some (.lst acc) ∧ acc.length < sizeLine ∧ Nx (upd H4 D (.lst (acc ++ [y]))) := ⟨acc, h, hz, k _ upd_same fun b o n q => at_wr n q⟩
/-! ## data in the heap -/
mutual
inductive Is (H : Hp) : V → PyData → Prop
  | non : Is H .non .none
  | bl (b : Bool) : Is H (.bl b) (.bool b)
  | int (i : Int) : Is H (.int i) (.int i)
  | str (x : Str) : Is H (.str x) (.str x)
  | lst {a : Addr} {xs : List V} {ds : List PyData} : H a = some (.lst xs) → IsAll H xs ds → Is H (.ref a) (.list ds)
  | tup {a : Addr} {xs : List V} {ds : List PyData} : H a = some (.tup xs) → IsAll H xs ds → Is H (.ref a) (.tuple ds)
inductive IsAll (H : Hp) : List V → List PyData → Prop
  | nil : IsAll H [] []
  | cons {v : V} {vs : List V} {d : PyData} {ds : List PyData} : Is H v d → IsAll H vs ds → IsAll H (v :: vs) (d :: ds)
end
mutual
theorem Is.dp {K : PySem.W.Frag} {H : Hp} : ∀ (d : PyData) (v : V), Is H v d → Dp K H v d
  | .none, _, h => by cases h; exact .non
  | .bool b, _, h => by cases h; exact .bl b
  | .int i, _, h => by cases h; exact .int i
  | .str x, _, h => by cases h; exact .str x
  | .list ds, _, h => by
    cases h with
    | lst a b => exact .lst (SqL.of a) (IsAll.dp ds _ b)
  | .tuple ds, _, h => by
    cases h with
    | tup a b => exact .tup (SqT.of a) (IsAll.dp ds _ b)
  | .dict _, _, h => by cases h
theorem IsAll.dp {K : PySem.W.Frag} {H : Hp} : ∀ (ds : List PyData) (vs : List V), IsAll H vs ds → DpAll K H vs ds
  | [], _, h => by cases h; exact .nil
  | d :: ds, _, h => by
    cases h with
    | cons a b => exact .cons (Is.dp d _ a) (IsAll.dp ds _ b)
end
mutual
theorem Is.mono {H H' : Hp} (R : Same H H') : ∀ (d : PyData) (v : V), Is H v d → Is H' v d
  | .none, _, h => by cases h; exact .non
  | .bool b, _, h => by cases h; exact .bl b
  | .int i, _, h => by cases h; exact .int i
  | .str x, _, h => by cases h; exact .str x
  | .list ds, _, h => by
    cases h with
    | lst a b => exact .lst (R _ _ a) (IsAll.mono R ds _ b)
  | .tuple ds, _, h => by
    cases h with
    | tup a b => exact .tup (R _ _ a) (IsAll.mono R ds _ b)
  | .dict _, _, h => by cases h
theorem IsAll.mono {H H' : Hp} (R : Same H H') : ∀ (ds : List PyData) (vs : List V), IsAll H vs ds → IsAll H' vs ds
  | [], _, h => by cases h; exact .nil
  | d :: ds, _, h => by
    cases h with
    | cons a b => exact .cons (Is.mono R d _ a) (IsAll.mono R ds _ b)
end
theorem IsAll.len {H : Hp} : ∀ {ds : List PyData} {vs : List V}, IsAll H vs ds → vs.length = ds.length
  | [], _, h => by cases h; rfl
  | d :: ds, _, h => by
    cases h with
    | cons a b =>
      show _ + 1 = _ + 1
      rw [IsAll.len b]
theorem IsAll.get {H : Hp} : ∀ {ds : List PyData} {vs : List V} {i : Nat}, IsAll H vs ds → i < ds.length → ∃ v d, vs[i]? = some v ∧ ds[i]? = some d ∧ Is H v d
  | [], _, _, _, h2 => by simp at h2
  | d :: ds, _, 0, h, _ => by
    cases h with
    | cons a b => exact ⟨_, d, rfl, rfl, a⟩
  | d :: ds, _, i + 1, h, h2 => by
    cases h with
    | cons a b =>
      obtain ⟨v, e, h1, h3, h4⟩ := IsAll.get (i := i) b (by simpa using h2)
      exact ⟨v, e, by simpa using h1, by simpa using h3, h4⟩
theorem IsAll.snoc {H : Hp} {v : V} {d : PyData} (h2 : Is H v d) : ∀ {ds : List PyData} {vs : List V}, IsAll H vs ds → IsAll H (vs ++ [v]) (ds ++ [d])
  | [], _, h => by cases h; exact .cons h2 .nil
  | e :: ds, _, h => by
    cases h with
    | cons a b => exact .cons a (IsAll.snoc h2 b)
theorem IsAll.ints {H : Hp} : ∀ ns : List Int, IsAll H (ns.map V.int) (ns.map PyData.int)
  | [] => .nil
  | n :: r => .cons (.int n) (IsAll.ints r)
/-- a pair of ints as data -/
def dPair (x : Int × Int) : PyData := .tuple [.int x.1, .int x.2]
theorem Is.pair {H : Hp} {a : Addr} {x : Int × Int} (h : H a = some (.tup [.int x.1, .int x.2])) : Is H (.ref a) (dPair x) := .tup h (.cons (.int _) (.cons (.int _) .nil))
def dInts (ns : List Int) : PyData := .list (ns.map PyData.int)
theorem Is.ints {H : Hp} {a : Addr} {ns : List Int} (h : H a = some (.lst (ns.map V.int))) : Is H (.ref a) (dInts ns) := .lst h (.ints ns)
/-- flat enough, and without dicts -/
def Fl (n : Nat) (d : PyData) : Prop := d.canLay0 = true ∧ d.depth ≤ n
theorem Fl.shaped {n : Nat} {d : PyData} (h : Fl n d) (hn : n ≤ 64) : SeqAt.shaped d = true := by
  unfold SeqAt.shaped
  rw [h.1]
  exact decide_eq_true (Nat.le_trans h.2 hn)
theorem fl_all {n : Nat} : ∀ {ds : List PyData}, (∀ d ∈ ds, Fl n d) → PyData.canLayAll0 ds = true ∧ PyData.depthAll ds ≤ n
  | [], _ => ⟨rfl, Nat.zero_le _⟩
  | d :: ds, h => by
    obtain ⟨a, b⟩ := fl_all (ds := ds) fun e he => h e (List.mem_cons_of_mem _ he)
    obtain ⟨c, e⟩ := h d List.mem_cons_self
    refine ⟨?_, ?_⟩
    · rw [PyData.canLayAll0, c, a]
      rfl
    · rw [PyData.depthAll]
      omega
theorem Fl.list {n : Nat} {ds : List PyData} (h : ∀ d ∈ ds, Fl n d) : Fl (n + 1) (.list ds) := by
  obtain ⟨a, b⟩ := fl_all h
  exact ⟨by rw [PyData.canLay0]; exact a, by rw [PyData.depth]; omega⟩
theorem Fl.tuple {n : Nat} {ds : List PyData} (h : ∀ d ∈ ds, Fl n d) : Fl (n + 1) (.tuple ds) := by
  obtain ⟨a, b⟩ := fl_all h
  exact ⟨by rw [PyData.canLay0]; exact a, by rw [PyData.depth]; omega⟩
theorem Fl.int (n : Nat) (i : Int) : Fl n (.int i) := ⟨by rw [PyData.canLay0], by rw [PyData.depth]; omega⟩
theorem Fl.bl (n : Nat) (i : Bool) : Fl n (.bool i) := ⟨by rw [PyData.canLay0], by rw [PyData.depth]; omega⟩
theorem Fl.non (n : Nat) : Fl n .none := ⟨by rw [PyData.canLay0], by rw [PyData.depth]; omega⟩
theorem Fl.pair (n : Nat) (x : Int × Int) : Fl (n + 1) (dPair x) := Fl.tuple fun d h => by
  simp at h
  rcases h with rfl | rfl <;> exact Fl.int _ _
theorem Fl.ints (n : Nat) (ns : List Int) : Fl (n + 1) (dInts ns) := Fl.list fun d h => by
  obtain ⟨i, _, rfl⟩ := List.mem_map.mp h
  exact Fl.int _ _
theorem Fl.pairs (n : Nat) (xs : List (Int × Int)) : Fl (n + 2) (.list (xs.map dPair)) := Fl.list fun d h => by
  obtain ⟨i, _, rfl⟩ := List.mem_map.mp h
  exact Fl.pair _ _
theorem Fl.mono {n m : Nat} {d : PyData} (h : Fl n d) (k : n ≤ m) : Fl m d := ⟨h.1, Nat.le_trans h.2 k⟩
theorem r_eqIs {K : PySem.W.Frag} {H : Hp} {Q : VK} {x y : V} {d : PyData} {n : Nat} (h1 : Is H x d) (h2 : Is H y d) (f : Fl n d) (k : Q (.bl true) H) (hn : n ≤ 64 := by decide) : rEqA K x y H Q := r_eqD (Is.dp d x h1) (Is.dp d y h2) (f.shaped hn) k
theorem r_neIs {K : PySem.W.Frag} {H : Hp} {Q : VK} {x y : V} {d : PyData} {n : Nat} (h1 : Is H x d) (h2 : Is H y d) (f : Fl n d) (k : Q (.bl false) H) (hn : n ≤ 64 := by decide) : rNeA K x y H Q := r_neD (Is.dp d x h1) (Is.dp d y h2) (f.shaped hn) k
/-! ## isinstance -/
def rIsiA (K : PySem.W.Frag) : List V → Hp → VK → Prop := fun xs H Q => rIsi K xs H Q ∨ rIsiT K xs H Q
/-- the class of a datum -/
def tyD : PyData → String
  | .none => "NoneType"
  | .bool _ => "bool"
  | .int _ => "int"
  | .str _ => "str"
  | .list _ => "list"
  | .tuple _ => "tuple"
  | .dict _ => "dict"
theorem Is.ty {K : PySem.W.Frag} {H : Hp} {v : V} {d : PyData} (h : Is H v d) : TyX K H v (.type (tyD d)) := by
  cases h with
  | non => exact .base .non
  | bl b => exact .base (.bl b)
  | int i => exact .base (.int i)
  | str x => exact .base (.str x)
  | lst a b => exact .base (.lst a)
  | tup a b => exact .base (.tup a)
theorem r_isi {K : PySem.W.Frag} {H : Hp} {Q : VK} {v : V} {T c : String} {b : Bool} (ty : TyX K H v (.type T)) (e : kitB T c = some b) (k : Q (.bl b) H) : rIsiA K [v, .ty c] H Q := .inl ⟨v, .ty c, .type T, .type c, b, rfl, .ty c, ty, kit_ty e, k⟩
theorem r_isi2 {K : PySem.W.Frag} {H : Hp} {Q : VK} {v : V} {t : Addr} {T c1 c2 : String} {b1 b2 : Bool} (ht : H t = some (.tup [.ty c1, .ty c2])) (ty : TyX K H v (.type T)) (e1 : kitB T c1 = some b1) (e2 : kitB T c2 = some b2) (k : Q (.bl (b1 || b2)) H) : rIsiA K [v, .ref t] H Q := by
  refine .inr ⟨v, t, [.ty c1, .ty c2], .type T, [.type c1, .type c2], b1 || b2, rfl, ht, .cons (.ty c1) (.cons (.ty c2) .nil), ty, ?_, k⟩
  refine kitAny_cons (kit_ty e1) (r := b1 || b2) (fun h => ?_) fun h => by rw [h]; rfl
  subst h
  refine kitAny_cons (kit_ty e2) (r := false || b2) (fun h => ?_) fun h => by rw [h]; rfl
  subst h
  exact kitAny_nil
theorem kcc_isi {X : Cx} {K : PySem.W.Frag} (h : X.K = K) : CallR X (.builtin "isinstance") (rIsiA K) := by subst h; exact CallR.or call_isi call_isiT
/-- where drawing stands -/
structure St (H : Hp) (st a : Addr) : Prop where
  ex : ∃ i m r : Int, H st = some (.lst [.ref a, .int i, .int m, .int r]) ∧ 0 ≤ i ∧ 0 ≤ m ∧ m < 2147483647 ∧ 0 ≤ r
theorem fr_st {H : Hp} {st : Addr} {a : Addr} {i m r : Int} {o : HO} (h : H st = some (.lst [.ref a, .int i, .int m, .int r])) : Fr H (upd H st o) := fun b u e n => by
  rw [upd_ne (fun q => by subst q; rw [h] at e; cases e; exact n _ _ _ _ rfl)]
  exact e
theorem St.same {H H' : Hp} {st a : Addr} (s : St H st a) (R : Same H H') : St H' st a := by
  obtain ⟨i, m, r, h, q⟩ := s.ex
  exact ⟨i, m, r, R _ _ h, q⟩
theorem St.new {H : Hp} {st a p : Addr} {u : HO} (s : St H st a) (np : H p = none) : St (upd H p u) st a := s.same (same_new np)
theorem St.ne {H : Hp} {st a p : Addr} {o : HO} (s : St H st a) (h : H p = some o) (n : NotSt o) : st ≠ p := by
  obtain ⟨i, m, r, e, q⟩ := s.ex
  exact ne_of e h fun z => n _ _ _ _ z.symm
theorem St.wr {H : Hp} {st a p : Addr} {o u : HO} (s : St H st a) (h : H p = some o) (n : NotSt o) : St (upd H p u) st a := by
  have ne := s.ne h n
  obtain ⟨i, m, r, e, q⟩ := s.ex
  exact ⟨i, m, r, by rw [upd_ne ne]; exact e, q⟩
theorem kpi_enum {X : Cx} {K : PySem.W.Frag} {e : Expr} {ta : TA} {p pos tpos : Pos} {elts : List Expr} {kk : Nat} (hK : X.K = K) (hg : Gl X "enumerate") (hm : X.mg "enumerate" = none) (ha : PA X [e] ta) (hs : starEach [e] X.env = [(false, eval e X.env)] := by rfl) :
    PI X (.Tuple elts kk tpos) (.Call (.Name "enumerate" p) [e] [] pos) (iEnum K ta) := by subst hK; exact pi_enum hg hm ha hs
theorem r_iEnum {K : PySem.W.Frag} {σ : L2.St} {H : Hp} {ta : TA} {R : It → Hp → Prop} (k : ta σ H fun vs H1 => ∃ a xs, vs = [.ref a] ∧ SqL K H1 a xs ∧ R (Ite K a) H1) : iEnum K ta σ H R := k
theorem fw_enum {K : PySem.W.Frag} {σ : L2.St} {H : Hp} {nn bb cc : L2.St → Hp → Prop} {rr : VK} {a : Addr} {xs : List V} {g : TG} {tb : TS} (Pv : Nat → L2.St → Hp → Prop) (h0 : Pv 0 σ H) (hl : ∀ i σ H, i ≤ xs.length → Pv i σ H → SqL K H a xs)
    (hs : ∀ i x σ H T, xs[i]? = some x → Pv i σ H → H T = none → g (.ref T) σ (upd H T (.tup [.int (i : Nat), x])) fun σ2 H2 => tb ⟨Pv (i + 1), rr, nn, Pv (i + 1)⟩ σ2 H2) (hd : ∀ σ H, Pv xs.length σ H → nn σ H) : ForW (Ite K a) g tb ⟨nn, rr, bb, cc⟩ σ H := by
  refine for_it (walk_enum (xs := xs)) Pv h0 hl (fun i x σ H H' hi p y => ?_) hd
  obtain ⟨T, u, v, rfl, nT, rfl, e1, e2⟩ := y
  cases e1
  exact hs i v σ H T e2 p nT
/-- == of two pairs of ints -/
theorem eqv_pair (x y : Int × Int) : PyData.eqv (dPair x) (dPair y) = decide (x = y) := by
  unfold dPair
  simp only [PyData.eqv, PyData.eqvAll, Bool.and_true]
  by_cases h : x = y
  · subst h
    simp
  · have : ¬ (x.1 = y.1 ∧ x.2 = y.2) := fun z => h (Prod.ext z.1 z.2)
    rw [decide_eq_false h]
    simp only [Bool.and_eq_false_iff, beq_eq_false_iff_ne]
    by_cases h1 : x.1 = y.1
    · exact .inr fun h2 => this ⟨h1, h2⟩
    · exact .inl h1
theorem r_eqPair {K : PySem.W.Frag} {H : Hp} {Q : VK} {a b : Addr} {x y : Int × Int} (h1 : H a = some (.tup [.int x.1, .int x.2])) (h2 : H b = some (.tup [.int y.1, .int y.2])) (k : Q (.bl (decide (x = y))) H) : rEqA K (.ref a) (.ref b) H Q :=
  .inr ⟨dPair x, dPair y, Is.dp _ _ (Is.pair h1), Is.dp _ _ (Is.pair h2), (Fl.pair 0 x).shaped (by decide), (Fl.pair 0 y).shaped (by decide), by rw [eqv_pair]; exact k⟩
theorem r_nePair {K : PySem.W.Frag} {H : Hp} {Q : VK} {a b : Addr} {x y : Int × Int} (h1 : H a = some (.tup [.int x.1, .int x.2])) (h2 : H b = some (.tup [.int y.1, .int y.2])) (k : Q (.bl (!decide (x = y))) H) : rNeA K (.ref a) (.ref b) H Q :=
  .inr ⟨dPair x, dPair y, Is.dp _ _ (Is.pair h1), Is.dp _ _ (Is.pair h2), (Fl.pair 0 x).shaped (by decide), (Fl.pair 0 y).shaped (by decide), by rw [eqv_pair]; exact k⟩
theorem r_sum {K : PySem.W.Frag} {H : Hp} {Q : VK} {a : Addr} {ns : List Int} (h : SqL K H a (ns.map V.int)) (k : Q (.int ns.sum) H) : rSum K [.ref a] H Q := ⟨a, ns, rfl, h, k⟩
theorem r_neSelf {K : PySem.W.Frag} {H : Hp} {Q : VK} {v : V} (h : v = .non ∨ ∃ i, v = .int i) (k : Q (.bl false) H) : rNeA K v v H Q := by
  rcases h with rfl | ⟨i, rfl⟩
  · exact .inl ⟨rfl, by rw [decide_eq_true rfl]; exact k⟩
  · exact r_neI (by rw [decide_eq_true rfl]; exact k)
theorem r_neNil {K : PySem.W.Frag} {H : Hp} {Q : VK} {a b : Addr} {ns : List Int} (h : H a = some (.lst (ns.map V.int))) (h2 : H b = some (.lst [])) (k : Q (.bl (!decide (ns = []))) H) : rNeA K (.ref a) (.ref b) H Q := by
  refine .inr ⟨dInts ns, .list [], Is.dp _ _ (Is.ints h), Is.dp _ _ (.lst h2 .nil), (Fl.ints 0 ns).shaped (by decide), (Fl.list (n := 0) (ds := []) (by simp)).shaped (by decide), ?_⟩
  have e : PyData.eqv (dInts ns) (.list []) = decide (ns = []) := by
    cases ns with
    | nil => simp [dInts, PyData.eqv, PyData.eqvAll]
    | cons n r => simp [dInts, PyData.eqv, PyData.eqvAll]
  rw [e]
  exact k
theorem cut_take {α : Type} (f : α → V) (ms : List α) {v : Int} (h0 : 0 ≤ v) : cutV (ms.map f) none (some v) = (ms.take v.toNat).map f := by
  obtain ⟨n, rfl⟩ : ∃ n : Nat, v = (n : Int) := ⟨v.toNat, by omega⟩
  unfold cutV
  rw [HT.sIx_nat, HT.sIx_none, List.drop_zero, Nat.sub_zero, Int.toNat_natCast, List.map_take]
  by_cases h : n ≤ (ms.map f).length
  · rw [Nat.min_eq_left h]
  · rw [Nat.min_eq_right (by omega), List.take_of_length_le (Nat.le_refl _), List.take_of_length_le (by omega)]
theorem cut_drop {α : Type} (f : α → V) (ms : List α) {v : Int} (h0 : 0 ≤ v) : cutV (ms.map f) (some v) none = (ms.drop v.toNat).map f := by
  obtain ⟨n, rfl⟩ : ∃ n : Nat, v = (n : Int) := ⟨v.toNat, by omega⟩
  unfold cutV
  rw [HT.sIx_nat, HT.sIx_none, Int.toNat_natCast, List.map_drop]
  by_cases h : n ≤ (ms.map f).length
  · rw [Nat.min_eq_left h, List.take_of_length_le (by rw [List.length_drop]; omega)]
  · rw [Nat.min_eq_right (by omega), Nat.sub_self, List.take_zero, List.drop_of_length_le (by omega)]
end Rd

/-! ## macros -/
local macro_rules | `(tactic| walk_at "nst") => `(tactic| first
  | exact Rd.nst_tup | exact Rd.nst_ints | exact Rd.nst_refs | exact Rd.nst_nil | exact Rd.nst_int | exact Rd.nst_cons | exact Rd.nst_frz | exact Rd.nst_ins | exact Rd.nst_own | assumption
  | (intro a i m r h; simp at h; done) | (intro a i m r h; cases h; done))
local macro_rules | `(tactic| walk_at "hp") => `(tactic| first
  | with_reducible assumption
  | with_reducible exact L2.upd_same
  | ((with_reducible refine' Rd.at_new ?hnp ?hup); (case hnp => with_reducible assumption); (case hup => walk_at "hp"))
  | ((with_reducible refine' Rd.same_at ?hsm ?hup); (case hsm => with_reducible assumption); (case hup => walk_at "hp"))
  | ((with_reducible refine' Rd.fr_at ?hsm ?hup ?hns); (case hsm => with_reducible assumption); (case hup => walk_at "hp"); (case hns => walk_at "nst"))
  | ((with_reducible refine' Rd.at_wr ?hne ?hup); (case hup => walk_at "hp"); (case hne => first | with_reducible assumption | (with_reducible refine' Ne.symm ?hne2; with_reducible assumption))))
local macro_rules | `(tactic| walk_at "sq") => `(tactic| first
  | with_reducible assumption
  | ((with_reducible refine' Rd.same_sq ?hsm ?hup); (case hsm => with_reducible assumption); (case hup => walk_at "sq"))
  | ((with_reducible refine' Rd.fr_sq ?hsm ?hup); (case hsm => with_reducible assumption); (case hup => walk_at "sq"))
  | ((with_reducible refine' Rd.sq_new ?hnp ?hup); (case hnp => with_reducible assumption); (case hup => walk_at "sq"))
  | ((with_reducible refine' L2.SqL.of ?hup); (case hup => walk_at "hp"))
  | ((with_reducible refine' L2.SqT.of ?hup); (case hup => walk_at "hp"))
  | ((with_reducible refine' Or.inl ?hup); (case hup => walk_at "sq"))
  | ((with_reducible refine' Or.inr ?hup); (case hup => walk_at "sq")))
local macro_rules | `(tactic| walk_at "ss") => `(tactic| first
  | with_reducible assumption
  | ((with_reducible refine' Rd.St.new ?hup ?hnp); (case hnp => with_reducible assumption); (case hup => walk_at "ss"))
  | ((with_reducible refine' Rd.St.same ?hup ?hsm); (case hsm => with_reducible assumption); (case hup => walk_at "ss")))
local macro_rules | `(tactic| walk_at "fr") => `(tactic| first
  | with_reducible assumption
  | with_reducible exact Rd.Fr.refl _
  | with_reducible exact L2.Same.refl _
  | ((with_reducible refine' Rd.fr_new ?hnp ?hup); (case hnp => first | with_reducible assumption | walk_at "no"); (case hup => walk_at "fr"))
  | ((with_reducible refine' Rd.sm_new ?hnp ?hup); (case hnp => first | with_reducible assumption | walk_at "no"); (case hup => walk_at "fr"))
  | ((with_reducible refine' Rd.Fr.trans ?hup ?hsm); (case hsm => with_reducible assumption); (case hup => walk_at "fr"))
  | ((with_reducible refine' Rd.Fr.same ?hup ?hsm); (case hsm => with_reducible assumption); (case hup => walk_at "fr"))
  | ((with_reducible refine' L2.Same.trans ?hup ?hsm); (case hsm => with_reducible assumption); (case hup => walk_at "fr")))
/-- one step -/
local macro_rules | `(tactic| walk_at "go1") => `(tactic| first
  | with_reducible refine Rd.r_v0 ?_ | with_reducible refine Rd.r_v1 ?_ | with_reducible refine Rd.r_v2 ?_ | with_reducible refine Rd.r_v3 ?_ | with_reducible refine Rd.r_v4 ?_ | with_reducible refine Rd.r_v5 ?_
  | with_reducible refine Rd.r_c ?_ | with_reducible refine Rd.r_op ?_ | with_reducible refine Rd.r_cons ?_ | with_reducible refine Rd.r_nil ?_
  | with_reducible refine Rd.r_I0 ?_ | with_reducible refine Rd.r_addI ?_ | with_reducible refine Rd.r_eqI ?_ | with_reducible refine Rd.r_neI ?_ | with_reducible refine Rd.r_eqB ?_ | with_reducible refine Rd.r_neB ?_
  | with_reducible refine Rd.r_seq ?_ | with_reducible refine Rd.r_asg ?_
  | with_reducible refine Rd.r_g0 ?_ | with_reducible refine Rd.r_g1 ?_ | with_reducible refine Rd.r_g2 ?_ | with_reducible refine Rd.r_g3 ?_ | with_reducible refine Rd.r_g4 ?_ | with_reducible refine Rd.r_g5 ?_
  | with_reducible refine Rd.r_ret ?_ | with_reducible refine Rd.r_retN ?_ | with_reducible refine Rd.r_ifS ?_ | with_reducible refine Rd.r_next ?_ | with_reducible refine Rd.r_drop ?_ | with_reducible refine Rd.r_break ?_ | with_reducible refine Rd.r_cont ?_
  | with_reducible refine Rd.r_test ?_ | with_reducible refine Rd.r_B ?_ | with_reducible refine Rd.r_bl ?_ | with_reducible refine Rd.r_and ?_ | with_reducible refine Rd.r_or ?_ | with_reducible refine Rd.r_not ?_
  | with_reducible refine Rd.r_andV ?_ | with_reducible refine Rd.r_orV ?_ | with_reducible refine Rd.r_notV ?_ | with_reducible refine Rd.r_if ?_ | with_reducible refine Rd.r_chain ?_ | with_reducible refine Rd.r_un ?_ | with_reducible refine Rd.r_U ?_
  | with_reducible refine Rd.r_cB ?_ | with_reducible refine Rd.r_call ?_ | with_reducible refine Rd.r_tup ?_ | with_reducible refine Rd.r_lst ?_
  | with_reducible refine Rd.r_sl ?_ | with_reducible refine Rd.r_noP ?_ | with_reducible refine Rd.r_part ?_ | with_reducible refine Rd.r_partI ?_ | with_reducible refine Rd.r_bm ?_ | with_reducible refine Rd.r_bm0 ?_
  | with_reducible refine Rd.r_for ?_ | with_reducible refine Rd.r_iList ?_ | with_reducible refine Rd.r_iRng1 ?_ | with_reducible refine Rd.r_iRng2 ?_ | with_reducible refine Rd.r_iEnum ?_
  | with_reducible refine Rd.r_lc ?_ | with_reducible refine Rd.r_tYes ?_
  | with_reducible refine Rd.r_max2 ?_ | with_reducible refine Rd.r_min2 ?_ | with_reducible refine Rd.r_abs ?_ | with_reducible refine Rd.r_intI ?_ | with_reducible refine Rd.r_intB ?_
  | with_reducible refine Rd.r_gCons ?_ | with_reducible refine Rd.r_gNil ?_ | with_reducible refine Rd.r_gSub ?_
  | ((with_reducible refine' Rd.r_ix ?hsq ?hat ?hk); (case hsq => walk_at "sq"); (case hat => first | rfl | assumption))
  | ((with_reducible refine' Rd.r_gTup ?hsq ?hat ?hk); (case hsq => walk_at "sq"); (case hat => rfl))
  | ((with_reducible refine' Rd.r_lenS ?hsq ?hk); (case hsq => walk_at "sq"); (intro hlenS))
  | ((with_reducible refine' Rd.r_lay ?hlen ?hk); (case hlen => exact Rd.len_ok rfl))
  | ((with_reducible refine' Rd.r_pow ?hpo ?hk); (case hpo => decide))
  | with_reducible refine Rd.r_v6 ?_ | with_reducible refine Rd.r_v7 ?_ | with_reducible refine Rd.r_v8 ?_ | with_reducible refine Rd.r_v9 ?_ | with_reducible refine Rd.r_v10 ?_ | with_reducible refine Rd.r_v11 ?_ | with_reducible refine Rd.r_v12 ?_ | with_reducible refine Rd.r_v13 ?_ | with_reducible refine Rd.r_v14 ?_ | with_reducible refine Rd.r_v15 ?_ | with_reducible refine Rd.r_v16 ?_ | with_reducible refine Rd.r_v17 ?_ | with_reducible refine Rd.r_v18 ?_ | with_reducible refine Rd.r_v19 ?_ | with_reducible refine Rd.r_v20 ?_ | with_reducible refine Rd.r_v21 ?_
  | with_reducible refine Rd.r_g6 ?_ | with_reducible refine Rd.r_g7 ?_ | with_reducible refine Rd.r_g8 ?_ | with_reducible refine Rd.r_g9 ?_ | with_reducible refine Rd.r_g10 ?_ | with_reducible refine Rd.r_g11 ?_ | with_reducible refine Rd.r_g12 ?_ | with_reducible refine Rd.r_g13 ?_ | with_reducible refine Rd.r_g14 ?_ | with_reducible refine Rd.r_g15 ?_ | with_reducible refine Rd.r_g16 ?_ | with_reducible refine Rd.r_g17 ?_ | with_reducible refine Rd.r_g18 ?_ | with_reducible refine Rd.r_g19 ?_ | with_reducible refine Rd.r_g20 ?_ | with_reducible refine Rd.r_g21 ?_)
local macro_rules | `(tactic| walk_at "go") => `(tactic| repeat walk_at "go1")

namespace Rd
open PySem L2
def top (i : Nat) : Stmt := PySem.Challenge.pw_stepgear_k01_refused_in_order.main.body.getD i (.Pass ⟨0, 0, 0, 0⟩)
abbrev s_wall : Stmt := top 0
theorem sc_wall : FnScope ["k"] ["k"] (defScope s_wall) := ⟨rfl, rfl, rfl, by decide +kernel, rfl, by decide +kernel, by decide +kernel⟩
theorem bo_wall : BindOk "_wall" s_wall ["k"] := fun _ _ _ _ _ _ us hl => match us, hl with | [_], _ => rfl
abbrev s_need_gear : Stmt := top 13
theorem sc_need_gear : FnScope ["gear", "around", "play"] ["gear"] (defScope s_need_gear) := ⟨rfl, rfl, rfl, by decide +kernel, rfl, by decide +kernel, by decide +kernel⟩
theorem bo_need_gear : BindOk "need_gear" s_need_gear ["gear"] := fun _ _ _ _ _ _ us hl => match us, hl with | [_], _ => rfl
abbrev s_need_standing : Stmt := top 14
theorem sc_need_standing : FnScope ["gear", "standing", "motor", "shaft"] ["gear", "standing"] (defScope s_need_standing) := ⟨rfl, rfl, rfl, by decide +kernel, rfl, by decide +kernel, by decide +kernel⟩
theorem bo_need_standing : BindOk "need_standing" s_need_standing ["gear", "standing"] := fun _ _ _ _ _ _ us hl => match us, hl with | [_, _], _ => rfl
abbrev s_need_moves : Stmt := top 15
theorem sc_need_moves : FnScope ["moves"] ["moves"] (defScope s_need_moves) := ⟨rfl, rfl, rfl, by decide +kernel, rfl, by decide +kernel, by decide +kernel⟩
theorem bo_need_moves : BindOk "need_moves" s_need_moves ["moves"] := fun _ _ _ _ _ _ us hl => match us, hl with | [_], _ => rfl
abbrev s_behind : Stmt := top 16
theorem sc_behind : FnScope ["gear", "standing", "steps", "motor"] ["gear", "standing", "steps"] (defScope s_behind) := ⟨rfl, rfl, rfl, by decide +kernel, rfl, by decide +kernel, by decide +kernel⟩
theorem bo_behind : BindOk "behind" s_behind ["gear", "standing", "steps"] := fun _ _ _ _ _ _ us hl => match us, hl with | [_, _, _], _ => rfl
abbrev s_all_behind : Stmt := top 17
theorem sc_all_behind : FnScope ["gear", "standing", "moves", "found", "steps"] ["gear", "standing", "moves"] (defScope s_all_behind) := ⟨rfl, rfl, rfl, by decide +kernel, rfl, by decide +kernel, by decide +kernel⟩
theorem bo_all_behind : BindOk "all_behind" s_all_behind ["gear", "standing", "moves"] := fun _ _ _ _ _ _ us hl => match us, hl with | [_, _, _], _ => rfl
abbrev s_trail : Stmt := top 18
theorem sc_trail : FnScope ["gear", "standing", "moves"] ["gear", "standing", "moves"] (defScope s_trail) := ⟨rfl, rfl, rfl, by decide +kernel, rfl, by decide +kernel, by decide +kernel⟩
theorem bo_trail : BindOk "trail" s_trail ["gear", "standing", "moves"] := fun _ _ _ _ _ _ us hl => match us, hl with | [_, _, _], _ => rfl
abbrev s_stands : Stmt := top 19
theorem sc_stands : FnScope ["gear", "standing", "moves"] ["gear", "standing", "moves"] (defScope s_stands) := ⟨rfl, rfl, rfl, by decide +kernel, rfl, by decide +kernel, by decide +kernel⟩
theorem bo_stands : BindOk "stands" s_stands ["gear", "standing", "moves"] := fun _ _ _ _ _ _ us hl => match us, hl with | [_, _, _], _ => rfl
abbrev s_need_marks : Stmt := top 22
theorem sc_need_marks : FnScope ["gear", "marks", "good", "mark"] ["gear", "marks"] (defScope s_need_marks) := ⟨rfl, rfl, rfl, by decide +kernel, rfl, by decide +kernel, by decide +kernel⟩
theorem bo_need_marks : BindOk "need_marks" s_need_marks ["gear", "marks"] := fun _ _ _ _ _ _ us hl => match us, hl with | [_, _], _ => rfl
abbrev s_off_to : Stmt := top 23
theorem sc_off_to : FnScope ["around", "shaft", "mark", "low"] ["around", "shaft", "mark"] (defScope s_off_to) := ⟨rfl, rfl, rfl, by decide +kernel, rfl, by decide +kernel, by decide +kernel⟩
theorem bo_off_to : BindOk "off_to" s_off_to ["around", "shaft", "mark"] := fun _ _ _ _ _ _ us hl => match us, hl with | [_, _, _], _ => rfl
abbrev s_sure : Stmt := top 25
theorem sc_sure : FnScope ["gear", "marks", "around", "ways", "least", "k"] ["gear", "marks"] (defScope s_sure) := ⟨rfl, rfl, rfl, by decide +kernel, rfl, by decide +kernel, by decide +kernel⟩
theorem bo_sure : BindOk "sure" s_sure ["gear", "marks"] := fun _ _ _ _ _ _ us hl => match us, hl with | [_, _], _ => rfl
abbrev s_both_ends : Stmt := top 27
theorem sc_both_ends : FnScope ["gear", "moves", "low", "high"] ["gear", "moves"] (defScope s_both_ends) := ⟨rfl, rfl, rfl, by decide +kernel, rfl, by decide +kernel, by decide +kernel⟩
theorem bo_both_ends : BindOk "both_ends" s_both_ends ["gear", "moves"] := fun _ _ _ _ _ _ us hl => match us, hl with | [_, _], _ => rfl
abbrev s_known : Stmt := top 28
theorem sc_known : FnScope ["gear", "moves", "low", "high"] ["gear", "moves"] (defScope s_known) := ⟨rfl, rfl, rfl, by decide +kernel, rfl, by decide +kernel, by decide +kernel⟩
theorem bo_known : BindOk "known" s_known ["gear", "moves"] := fun _ _ _ _ _ _ us hl => match us, hl with | [_, _], _ => rfl
abbrev s_settled : Stmt := top 29
theorem sc_settled : FnScope ["gear", "moves", "number", "low", "high"] ["gear", "moves"] (defScope s_settled) := ⟨rfl, rfl, rfl, by decide +kernel, rfl, by decide +kernel, by decide +kernel⟩
theorem bo_settled : BindOk "settled" s_settled ["gear", "moves"] := fun _ _ _ _ _ _ us hl => match us, hl with | [_, _], _ => rfl
abbrev s_word_of : Stmt := top 31
theorem sc_word_of : FnScope ["steps"] ["steps"] (defScope s_word_of) := ⟨rfl, rfl, rfl, by decide +kernel, rfl, by decide +kernel, by decide +kernel⟩
theorem bo_word_of : BindOk "word_of" s_word_of ["steps"] := fun _ _ _ _ _ _ us hl => match us, hl with | [_], _ => rfl
abbrev s_written : Stmt := top 32
theorem sc_written : FnScope ["moves", "steps"] ["moves"] (defScope s_written) := ⟨rfl, rfl, rfl, by decide +kernel, rfl, by decide +kernel, by decide +kernel⟩
theorem bo_written : BindOk "written" s_written ["moves"] := fun _ _ _ _ _ _ us hl => match us, hl with | [_], _ => rfl
abbrev s_need_goals : Stmt := top 36
theorem sc_need_goals : FnScope ["gear", "standing", "goals", "most", "goal"] ["gear", "standing", "goals", "most"] (defScope s_need_goals) := ⟨rfl, rfl, rfl, by decide +kernel, rfl, by decide +kernel, by decide +kernel⟩
theorem bo_need_goals : BindOk "need_goals" s_need_goals ["gear", "standing", "goals", "most"] := fun _ _ _ _ _ _ us hl => match us, hl with | [_, _, _, _], _ => rfl
abbrev s_choices : Stmt := top 37
theorem sc_choices : FnScope ["gear", "standing", "goal", "around", "play", "motor", "shaft", "far"] ["gear", "standing", "goal"] (defScope s_choices) := ⟨rfl, rfl, rfl, by decide +kernel, rfl, by decide +kernel, by decide +kernel⟩
theorem bo_choices : BindOk "choices" s_choices ["gear", "standing", "goal"] := fun _ _ _ _ _ _ us hl => match us, hl with | [_, _, _], _ => rfl
abbrev s_to : Stmt := top 38
theorem sc_to : FnScope ["gear", "standing", "goal"] ["gear", "standing", "goal"] (defScope s_to) := ⟨rfl, rfl, rfl, by decide +kernel, rfl, by decide +kernel, by decide +kernel⟩
theorem bo_to : BindOk "to" s_to ["gear", "standing", "goal"] := fun _ _ _ _ _ _ us hl => match us, hl with | [_, _, _], _ => rfl
abbrev s_best_path : Stmt := top 39
theorem sc_best_path : FnScope ["gear", "standing", "goals", "found", "steps", "size", "rest", "least", "row"] ["gear", "standing", "goals"] (defScope s_best_path) := ⟨rfl, rfl, rfl, by decide +kernel, rfl, by decide +kernel, by decide +kernel⟩
theorem bo_best_path : BindOk "best_path" s_best_path ["gear", "standing", "goals"] := fun _ _ _ _ _ _ us hl => match us, hl with | [_, _, _], _ => rfl
abbrev s_path : Stmt := top 40
theorem sc_path : FnScope ["gear", "standing", "goals"] ["gear", "standing", "goals"] (defScope s_path) := ⟨rfl, rfl, rfl, by decide +kernel, rfl, by decide +kernel, by decide +kernel⟩
theorem bo_path : BindOk "path" s_path ["gear", "standing", "goals"] := fun _ _ _ _ _ _ us hl => match us, hl with | [_, _, _], _ => rfl
abbrev s_all_orders : Stmt := top 41
theorem sc_all_orders : FnScope ["places", "found", "k", "rest"] ["places"] (defScope s_all_orders) := ⟨rfl, rfl, rfl, by decide +kernel, rfl, by decide +kernel, by decide +kernel⟩
theorem bo_all_orders : BindOk "all_orders" s_all_orders ["places"] := fun _ _ _ _ _ _ us hl => match us, hl with | [_], _ => rfl
abbrev s_tour : Stmt := top 42
theorem sc_tour : FnScope ["gear", "standing", "goals", "found", "order", "k"] ["gear", "standing", "goals"] (defScope s_tour) := ⟨rfl, rfl, rfl, by decide +kernel, rfl, by decide +kernel, by decide +kernel⟩
theorem bo_tour : BindOk "tour" s_tour ["gear", "standing", "goals"] := fun _ _ _ _ _ _ us hl => match us, hl with | [_, _, _], _ => rfl
abbrev s_law_start : Stmt := top 44
theorem sc_law_start : FnScope ["_law_script", "_law_mixed", "_law_cell"] ["_law_script"] (defScope s_law_start) := ⟨rfl, rfl, rfl, by decide +kernel, rfl, by decide +kernel, by decide +kernel⟩
theorem bo_law_start : BindOk "_law_start" s_law_start ["_law_script"] := fun _ _ _ _ _ _ us hl => match us, hl with | [_], _ => rfl
abbrev s_law_drawn : Stmt := top 45
theorem sc_law_drawn : FnScope ["_law_state", "_law_many", "_law_found", "_law_cell"] ["_law_state", "_law_many"] (defScope s_law_drawn) := ⟨rfl, rfl, rfl, by decide +kernel, rfl, by decide +kernel, by decide +kernel⟩
theorem bo_law_drawn : BindOk "_law_drawn" s_law_drawn ["_law_state", "_law_many"] := fun _ _ _ _ _ _ us hl => match us, hl with | [_, _], _ => rfl
abbrev s_law_kind : Stmt := top 46
theorem sc_law_kind : FnScope ["_law_work", "e", "_law_kinds", "_law_words", "_law_word"] ["_law_work"] (defScope s_law_kind) := ⟨rfl, rfl, rfl, by decide +kernel, rfl, by decide +kernel, by decide +kernel⟩
theorem bo_law_kind : BindOk "_law_kind" s_law_kind ["_law_work"] := fun _ _ _ _ _ _ us hl => match us, hl with | [_], _ => rfl
abbrev s_law_far : Stmt := top 47
theorem sc_law_far : FnScope ["_law_state", "_law_least", "_law_most", "_law_far_here"] ["_law_state", "_law_least", "_law_most"] (defScope s_law_far) := ⟨rfl, rfl, rfl, by decide +kernel, rfl, by decide +kernel, by decide +kernel⟩
theorem bo_law_far : BindOk "_law_far" s_law_far ["_law_state", "_law_least", "_law_most"] := fun _ _ _ _ _ _ us hl => match us, hl with | [_, _, _], _ => rfl
abbrev s_law_gear : Stmt := top 48
theorem sc_law_gear : FnScope ["_law_state", "_law_small", "_law_sorts", "_law_around", "_law_play"] ["_law_state", "_law_small"] (defScope s_law_gear) := ⟨rfl, rfl, rfl, by decide +kernel, rfl, by decide +kernel, by decide +kernel⟩
theorem bo_law_gear : BindOk "_law_gear" s_law_gear ["_law_state", "_law_small"] := fun _ _ _ _ _ _ us hl => match us, hl with | [_, _], _ => rfl
abbrev s_law_standing : Stmt := top 49
theorem sc_law_standing : FnScope ["_law_state", "_law_gear_here", "_law_far_here", "_law_motor"] ["_law_state", "_law_gear_here"] (defScope s_law_standing) := ⟨rfl, rfl, rfl, by decide +kernel, rfl, by decide +kernel, by decide +kernel⟩
theorem bo_law_standing : BindOk "_law_standing" s_law_standing ["_law_state", "_law_gear_here"] := fun _ _ _ _ _ _ us hl => match us, hl with | [_, _], _ => rfl
abbrev s_law_moves : Stmt := top 50
theorem sc_law_moves : FnScope ["_law_state", "_law_gear_here", "_law_most", "_law_found", "_law_k", "_law_size"] ["_law_state", "_law_gear_here", "_law_most"] (defScope s_law_moves) := ⟨rfl, rfl, rfl, by decide +kernel, rfl, by decide +kernel, by decide +kernel⟩
theorem bo_law_moves : BindOk "_law_moves" s_law_moves ["_law_state", "_law_gear_here", "_law_most"] := fun _ _ _ _ _ _ us hl => match us, hl with | [_, _, _], _ => rfl
abbrev s_law_behind : Stmt := top 51
theorem sc_law_behind : FnScope ["_law_gear_here", "_law_standing_here", "_law_steps", "_law_motor", "_law_shaft", "_law_free"] ["_law_gear_here", "_law_standing_here", "_law_steps"] (defScope s_law_behind) := ⟨rfl, rfl, rfl, by decide +kernel, rfl, by decide +kernel, by decide +kernel⟩
theorem bo_law_behind : BindOk "_law_behind" s_law_behind ["_law_gear_here", "_law_standing_here", "_law_steps"] := fun _ _ _ _ _ _ us hl => match us, hl with | [_, _, _], _ => rfl
abbrev s_law_of_gears : Stmt := top 52
theorem sc_law_of_gears : FnScope ["_law_gear_here", "_law_standing_here", "_law_moves_here", "_law_goals", "_law_marks", "_law_works"] ["_law_gear_here", "_law_standing_here", "_law_moves_here", "_law_goals", "_law_marks"] (defScope s_law_of_gears) := ⟨rfl, rfl, rfl, by decide +kernel, rfl, by decide +kernel, by decide +kernel⟩
theorem bo_law_of_gears : BindOk "_law_of_gears" s_law_of_gears ["_law_gear_here", "_law_standing_here", "_law_moves_here", "_law_goals", "_law_marks"] := fun _ _ _ _ _ _ us hl => match us, hl with | [_, _, _, _, _], _ => rfl
abbrev s_law_bad : Stmt := top 53
theorem sc_law_bad : FnScope ["_law_state", "_law_gear_here", "_law_standing_here", "_law_far_here", "_law_odd", "_law_beside", "_law_marks"] ["_law_state", "_law_gear_here", "_law_standing_here"] (defScope s_law_bad) := ⟨rfl, rfl, rfl, by decide +kernel, rfl, by decide +kernel, by decide +kernel⟩
theorem bo_law_bad : BindOk "_law_bad" s_law_bad ["_law_state", "_law_gear_here", "_law_standing_here"] := fun _ _ _ _ _ _ us hl => match us, hl with | [_, _, _], _ => rfl
abbrev s_law : Stmt := top 54
theorem sc_law : FnScope ["_law_script", "_law_state", "_law_turn", "_law_gear_here", "_law_standing_here", "_law_odd", "_law_beside", "_law_long", "_law_goals", "_law_marks", "_law_words", "_law_works", "_law_work"] ["_law_script"] (defScope s_law) := ⟨rfl, rfl, rfl, by decide +kernel, rfl, by decide +kernel, by decide +kernel⟩
theorem bo_law : BindOk "law" s_law ["_law_script"] := fun _ _ _ _ _ _ us hl => match us, hl with | [_], _ => rfl
abbrev s_BadText_init : Stmt := inClass (top 9) 0
theorem sc_BadText_init : FnScope ["self", "place"] ["self", "place"] (defScope s_BadText_init) := ⟨rfl, rfl, rfl, by decide +kernel, rfl, by decide +kernel, by decide +kernel⟩
abbrev s_Keeper_init : Stmt := inClass (top 24) 0
theorem sc_Keeper_init : FnScope ["self", "gear", "marks", "standing"] ["self", "gear", "marks", "standing"] (defScope s_Keeper_init) := ⟨rfl, rfl, rfl, by decide +kernel, rfl, by decide +kernel, by decide +kernel⟩
theorem bo_Keeper_init : BindOkQ "__init__" "Keeper.__init__" s_Keeper_init ["self", "gear", "marks", "standing"] := fun _ _ _ _ _ _ us hl => match us, hl with | [_, _, _, _], _ => rfl
abbrev s_Keeper_move : Stmt := inClass (top 24) 1
theorem sc_Keeper_move : FnScope ["self", "steps"] ["self", "steps"] (defScope s_Keeper_move) := ⟨rfl, rfl, rfl, by decide +kernel, rfl, by decide +kernel, by decide +kernel⟩
theorem bo_Keeper_move : BindOkQ "move" "Keeper.move" s_Keeper_move ["self", "steps"] := fun _ _ _ _ _ _ us hl => match us, hl with | [_, _], _ => rfl
abbrev s_Keeper_believed : Stmt := inClass (top 24) 2
theorem sc_Keeper_believed : FnScope ["self"] ["self"] (defScope s_Keeper_believed) := ⟨rfl, rfl, rfl, by decide +kernel, rfl, by decide +kernel, by decide +kernel⟩
theorem bo_Keeper_believed : BindOkQ "believed" "Keeper.believed" s_Keeper_believed ["self"] := fun _ _ _ _ _ _ us hl => match us, hl with | [_], _ => rfl
abbrev s_Keeper_moved_by : Stmt := inClass (top 24) 3
theorem sc_Keeper_moved_by : FnScope ["self", "off"] ["self", "off"] (defScope s_Keeper_moved_by) := ⟨rfl, rfl, rfl, by decide +kernel, rfl, by decide +kernel, by decide +kernel⟩
theorem bo_Keeper_moved_by : BindOkQ "moved_by" "Keeper.moved_by" s_Keeper_moved_by ["self", "off"] := fun _ _ _ _ _ _ us hl => match us, hl with | [_, _], _ => rfl
abbrev s_Keeper_found : Stmt := inClass (top 24) 4
theorem sc_Keeper_found : FnScope ["self", "number"] ["self", "number"] (defScope s_Keeper_found) := ⟨rfl, rfl, rfl, by decide +kernel, rfl, by decide +kernel, by decide +kernel⟩
theorem bo_Keeper_found : BindOkQ "found" "Keeper.found" s_Keeper_found ["self", "number"] := fun _ _ _ _ _ _ us hl => match us, hl with | [_, _], _ => rfl
abbrev s_Keeper_found_any : Stmt := inClass (top 24) 5
theorem sc_Keeper_found_any : FnScope ["self"] ["self"] (defScope s_Keeper_found_any) := ⟨rfl, rfl, rfl, by decide +kernel, rfl, by decide +kernel, by decide +kernel⟩
theorem bo_Keeper_found_any : BindOkQ "found_any" "Keeper.found_any" s_Keeper_found_any ["self"] := fun _ _ _ _ _ _ us hl => match us, hl with | [_], _ => rfl
end Rd

/-! ## texts -/
namespace Rd
open PySem PySem.Spec L2 PyProof.Rows TL
section
variable {K : PySem.W.Frag} {σ : L2.St} {H : Hp} {Q : VK}
def rStrI : List V → Hp → VK → Prop := fun xs H Q => ∃ i, xs = [.int i] ∧ i.natAbs.log2 < 1920 ∧ Q (.str (toString i)) H
theorem kc_str {X : Cx} : CallR X (.type "str") rStrI := call_str_int
theorem r_strI {i : Int} (h : i.natAbs.log2 < 1920) (k : Q (.str (toString i)) H) : rStrI [.int i] H Q := ⟨i, rfl, h, k⟩
def rIntS : List V → Hp → VK → Prop := fun xs H Q => ∃ a n, xs = [.str a] ∧ PySem.intText? a = some n ∧ a.length ≤ 640 ∧ Q (.int n) H
theorem kc_intS {X : Cx} : CallR X (.type "int") rIntS := call_int_str
theorem r_intS {a : Str} {n : Int} (h : PySem.intText? a = some n) (hl : a.length ≤ 640) (k : Q (.int n) H) : rIntS [.str a] H Q := ⟨a, n, rfl, h, hl, k⟩
theorem r_eqS {x y : Str} (k : Q (.bl (decide (x = y))) H) : rEqA K (.str x) (.str y) H Q := .inl ⟨rfl, by
  have e : decide (V.str x = V.str y) = decide (x = y) := by by_cases h : x = y <;> simp [h]
  rw [e]
  exact k⟩
theorem r_neS {x y : Str} (k : Q (.bl (!decide (x = y))) H) : rNeA K (.str x) (.str y) H Q := .inl ⟨rfl, by
  have e : decide (V.str x = V.str y) = decide (x = y) := by by_cases h : x = y <;> simp [h]
  rw [e]
  exact k⟩
theorem r_ixS {z : Str} {i : Int} {c : Nat} (hz : z.length ≤ sizeLine) (e : atI z.cps.toList i = some c) (k : Q (.str ⟨#[c]⟩) H) : rIx K (.str z) (.int i) H Q := .inr (.inr ⟨z, i, c, rfl, rfl, hz, e, k⟩)
theorem r_slS {z : Str} {lo hi : Option Int} (hz : z.length ≤ sizeLine) (k : Q (.str (cutS z lo hi)) H) : rSlAll K (.str z) lo hi H Q := .inr (.inr ⟨z, rfl, hz, k⟩)
theorem r_lenStr {z : Str} (hz : z.length ≤ sizeLine) (k : Q (.int z.length) H) : rLen K [.str z] H Q := .inr ⟨z, rfl, hz, k⟩
theorem r_addS {x y : Str} (hz : x.length + y.length ≤ sizeLine) (k : Q (.str (x ++ y)) H) : rAddA K (.str x) (.str y) H Q := .inr (.inl ⟨x, y, rfl, rfl, hz, k⟩)
theorem inV_strs (x : Str) : ∀ ys : List Str, inV (.str x) (ys.map V.str) = decide (x ∈ ys)
  | [] => by simp [inV]
  | a :: r => by
    have ih := inV_strs x r
    unfold inV at ih ⊢
    rw [List.map_cons, List.any_cons, ih]
    have e : eqV (.str a) (.str x) = decide (x = a) := by
      by_cases c : x = a
      · subst c
        simp [eqV]
      · have c2 : ¬ a = x := fun e => c e.symm
        simp [eqV, c, c2]
    rw [e]
    by_cases c : x = a
    · simp [c]
    · simp [c]
theorem flat_strs9 (ys : List Str) : (ys.map V.str).all flatV = true := by
  rw [List.all_map]
  exact List.all_eq_true.mpr fun _ _ => rfl
theorem r_notInT {a : Addr} {x : Str} {ys : List Str} (h : H a = some (.tup (ys.map V.str))) (k : Q (.bl (!decide (x ∈ ys))) H) : rIn K true (.str x) (.ref a) H Q := ⟨a, _, rfl, .inr (SqT.of h), rfl, flat_strs9 ys, by rw [inV_strs]; exact k⟩
theorem r_inT {a : Addr} {x : Str} {ys : List Str} (h : H a = some (.tup (ys.map V.str))) (k : Q (.bl (decide (x ∈ ys))) H) : rIn K false (.str x) (.ref a) H Q := ⟨a, _, rfl, .inr (SqT.of h), rfl, flat_strs9 ys, by rw [inV_strs]; exact k⟩
def rNSign : R2 := fun x y H Q => ∃ (c : Nat) (z : Str), x = .str ⟨#[c]⟩ ∧ y = .str z ∧ Q (.bl (!decide (c ∈ z.cps.toList))) H
theorem op_nsign {X : Cx} : OpR X (compareOp .NotIn) rNSign := op_notIn_sign
theorem r_nsign {c : Nat} {z : Str} (k : Q (.bl (!decide (c ∈ tl z))) H) : rNSign (.str ⟨#[c]⟩) (.str z) H Q := ⟨c, z, rfl, rfl, k⟩
theorem r_iStr {te : TE} {R : It → Hp → Prop} (k : te σ H fun y H1 => ∃ x, y = .str x ∧ R (Its x) H1) : iStr te σ H R := k
theorem lcw_str {g : TG} {tt : TT} {te : TE} {vs : List Nat} {σw : L2.St} {D : Addr} {H1 : Hp} {z : Str} (Pv : Nat → Hp → Prop) (hw : wipe σ vs = σw) (h0 : Pv 0 (upd H1 D (.lst [])))
    (hs : ∀ i c H, (tl z)[i]? = some c → Pv i H → g (.str ⟨#[c]⟩) σw H fun σ2 H2 => wipe σ2 vs = σw ∧ tt σ2 H2 fun b H3 =>
      if b = true then te σ2 H3 fun y H4 => ∃ acc, H4 D = some (.lst acc) ∧ acc.length < sizeLine ∧ Pv (i + 1) (upd H4 D (.lst (acc ++ [y]))) else Pv (i + 1) H3) (hd : ∀ H, Pv (tl z).length H → Q (.ref D) H) : LcW (Its z) g tt te vs σ Q D H1 := by
  subst hw
  have e : z.cps.size = (tl z).length := len_tl z
  refine lc_it walk_str Pv h0 (fun _ _ _ _ => trivial) (fun i x H H' hi p y => ?_) (fun H p => hd H (by rw [← e]; exact p))
  obtain ⟨rfl, c, hc, rfl⟩ := y
  exact hs i c H' (by rw [Array.getElem?_toList]; exact hc) p
def rJoin (K : PySem.W.Frag) : V → List V → Hp → VK → Prop := fun x xs H Q => ∃ a p, ∃ ys : List Str, x = .str a ∧ xs = [.ref p] ∧ (SqL K H p (ys.map V.str) ∨ SqT K H p (ys.map V.str)) ∧ (ys.map (·.length)).sum + ys.length * a.length ≤ 16777216 ∧ Q (.str (Txt.join a ys)) H
theorem kpe_join {X : Cx} {o e : Expr} {to te : TE} {apos pos : Pos} (h : X.K = K) (ho : PE X o to) (he : PE X e te) (hs : starEach [e] X.env = [(false, eval e X.env)] := by rfl) (hbase : attributeBase o "join" X.env (eval o X.env) = eval o X.env := by rfl) (hline : (apos.endLine == pos.line) = true := by rfl) :
    PE X (.Call (.Attribute o "join" apos) [e] [] pos) (tM1 (rJoin K) to te) := by subst h; exact pe_join ho he hs hbase hline
def rSplit : V → List V → Hp → VK → Prop := fun x xs H Q => ∃ a b, x = .str a ∧ xs = [.str b] ∧ (b.length == 0) = false ∧ a.length + 2 ≤ sizeLine ∧ rNewStrs (Txt.split a b) H Q
theorem kpe_split {X : Cx} {o e : Expr} {to te : TE} {apos pos : Pos} (ho : PE X o to) (he : PE X e te) (hs : starEach [e] X.env = [(false, eval e X.env)] := by rfl) (hbase : attributeBase o "split" X.env (eval o X.env) = eval o X.env := by rfl) (hline : (apos.endLine == pos.line) = true := by rfl) :
    PE X (.Call (.Attribute o "split" apos) [e] [] pos) (tM1 rSplit to te) := pe_split ho he hs hbase hline
theorem r_m1 {r : V → List V → Hp → VK → Prop} {to te : TE} (k : to σ H fun x H1 => (∃ a, x = .str a) ∧ te σ H1 fun y H2 => r x [y] H2 Q) : tM1 r to te σ H Q := k
theorem r_join {a : Str} {p : Addr} {ys : List Str} (h : SqL K H p (ys.map V.str)) (hz : (ys.map (·.length)).sum + ys.length * a.length ≤ 16777216) (k : Q (.str (Txt.join a ys)) H) : rJoin K (.str a) [.ref p] H Q := ⟨a, p, ys, rfl, rfl, .inl h, hz, k⟩
theorem r_split {a b : Str} (hb : (b.length == 0) = false) (hz : a.length + 2 ≤ sizeLine) (k : ∀ p, H p = none → Q (.ref p) (upd H p (.lst ((Txt.split a b).map V.str)))) : rSplit (.str a) [.str b] H Q := ⟨a, b, rfl, rfl, hb, hz, k⟩
/-- a module's text -/
structure CnS (mg : Str → Option Value) (x : Str) (i : Str) : Prop where
  ex : ∃ t, mg x = some (.str i t)
theorem pe_cnS {X : Cx} {x i : Str} {pos : Pos} (h : CnS X.mg x i) (hg : Gl X x) (hd : (x == ("__debug__" : Str)) = false := by decide) : PE X (.Name x pos) (tC (.str i)) := by
  obtain ⟨t, e⟩ := h.ex
  exact pe_glob hg e ⟨t, rfl⟩ hd
end
/-! ### words of moves -/
theorem tl_cut1 (z : Str) : tl (cutS z (some 1) none) = (tl z).drop 1 := by
  unfold cutS
  rw [tl_mk, show (1 : Int) = ((1 : Nat) : Int) from rfl, HT.sIx_nat, HT.sIx_none]
  rw [len_tl]
  by_cases h : 1 ≤ (tl z).length
  · rw [Nat.min_eq_left h, List.take_of_length_le (by rw [List.length_drop]; exact Nat.le_refl _)]
  · rw [Nat.min_eq_right (by omega), Nat.sub_self, List.take_zero, List.drop_of_length_le (by omega)]
theorem tl_cut01 (z : Str) : tl (cutS z none (some 1)) = (tl z).take 1 := by
  unfold cutS
  rw [tl_mk, show (1 : Int) = ((1 : Nat) : Int) from rfl, HT.sIx_nat, HT.sIx_none]
  rw [len_tl, List.drop_zero, Nat.sub_zero]
  by_cases h : 1 ≤ (tl z).length
  · rw [Nat.min_eq_left h]
  · rw [Nat.min_eq_right (by omega), List.take_of_length_le (Nat.le_refl _), List.take_of_length_le (by omega)]
def wordL (k : Int) : List Nat := if k = 0 then [48] else (if 0 < k then 43 else 45) :: numL k.natAbs
def wordS (k : Int) : Str := ⟨(wordL k).toArray⟩
theorem tl_word (k : Int) : tl (wordS k) = wordL k := rfl
def digit (c : Nat) : Bool := decide (48 ≤ c ∧ c ≤ 57)
/-- the move that a word writes -/
def stepsL (l : List Nat) : Option Int :=
  if l = [48] then some 0 else
  if l.take 1 = [43] ∨ l.take 1 = [45] then
    (if 1 ≤ (l.drop 1).length ∧ (l.drop 1).length ≤ 30 ∧ (l.drop 1).head? ≠ some 48 ∧ (l.drop 1).all digit = true then some (if l.take 1 = [43] then (NumText.digitsVal (l.drop 1) : Int) else 0 - (NumText.digitsVal (l.drop 1) : Int)) else none)
  else none
theorem numL_head {n : Nat} (h : 0 < n) : (numL n).head? ≠ some 48 := by
  induction n using Nat.strongRecOn with
  | _ n ih =>
    by_cases c : n < 10
    · rw [numL_lt c]
      show some (48 + n) ≠ some 48
      intro e
      have := Option.some.inj e
      omega
    · have a := ih (n / 10) (by omega) (by omega)
      have b := numL_ne (n / 10)
      rw [numL_step (by omega)]
      cases e : numL (n / 10) with
      | nil => exact absurd e b
      | cons x r =>
        rw [e] at a
        exact a
theorem allDigits_iff (l : List Nat) : l.all digit = true ↔ NumText.AllDigits l := by
  rw [List.all_eq_true]
  exact ⟨fun h c hc => of_decide_eq_true (h c hc), fun h c hc => decide_eq_true (h c hc)⟩
theorem stepsL_word {k : Int} (h : k.natAbs < 10 ^ 30) : stepsL (wordL k) = some k := by
  unfold wordL
  by_cases c : k = 0
  · rw [if_pos c, stepsL, if_pos rfl, c]
  · rw [if_neg c]
    have n0 : 0 < k.natAbs := by omega
    have hne : numL k.natAbs ≠ [] := numL_ne _
    have hl : 1 ≤ (numL k.natAbs).length := List.length_pos_iff.mpr hne
    have h30 : (numL k.natAbs).length ≤ 30 := numL_len (by decide) h
    have hd := (allDigits_iff _).mpr (numL_digits k.natAbs)
    unfold stepsL
    rw [if_neg (fun e => hne (List.cons.inj e).2)]
    by_cases p : 0 < k
    · rw [if_pos p, if_pos (.inl rfl)]
      have cond : 1 ≤ (List.drop 1 (43 :: numL k.natAbs)).length ∧ (List.drop 1 (43 :: numL k.natAbs)).length ≤ 30 ∧ (List.drop 1 (43 :: numL k.natAbs)).head? ≠ some 48 ∧ (List.drop 1 (43 :: numL k.natAbs)).all digit = true := ⟨hl, h30, numL_head n0, hd⟩
      rw [if_pos cond]
      show some (if ([43] : List Nat) = [43] then ((NumText.digitsVal (numL k.natAbs) : Nat) : Int) else 0 - ((NumText.digitsVal (numL k.natAbs) : Nat) : Int)) = _
      rw [if_pos rfl]
      show some ((NumText.digitsVal (numL k.natAbs) : Nat) : Int) = _
      rw [numL_val]
      congr 1
      omega
    · rw [if_neg p, if_pos (.inr rfl)]
      have cond : 1 ≤ (List.drop 1 (45 :: numL k.natAbs)).length ∧ (List.drop 1 (45 :: numL k.natAbs)).length ≤ 30 ∧ (List.drop 1 (45 :: numL k.natAbs)).head? ≠ some 48 ∧ (List.drop 1 (45 :: numL k.natAbs)).all digit = true := ⟨hl, h30, numL_head n0, hd⟩
      rw [if_pos cond]
      show some (if ([45] : List Nat) = [43] then ((NumText.digitsVal (numL k.natAbs) : Nat) : Int) else 0 - ((NumText.digitsVal (numL k.natAbs) : Nat) : Int)) = _
      rw [if_neg (by decide), numL_val]
      congr 1
      omega
theorem word_free (k : Int) : 32 ∉ wordL k := by
  unfold wordL
  split
  · decide
  · intro h
    rcases List.mem_cons.mp h with e | e
    · split at e <;> omega
    · exact numL_free (.inl (by decide)) e
theorem word_len {k : Int} (h : k.natAbs < 10 ^ 30) : (wordS k).length ≤ 31 := by
  rw [len_tl, tl_word, wordL]
  split
  · decide
  · rw [List.length_cons]
    have := numL_len (n := k.natAbs) (k := 30) (by decide) h
    omega
theorem word_ne (k : Int) : wordL k ≠ [] := by
  unfold wordL
  split
  · decide
  · exact List.cons_ne_nil _ _
/-- the text of moves -/
def textS (ms : List Int) : Str := Txt.join ⟨#[32]⟩ (ms.map wordS)
theorem textS_nil : textS [] = ⟨#[]⟩ := by decide +kernel
theorem tl_text (ms : List Int) : tl (textS ms) = joinL [32] (ms.map wordL) := by
  unfold textS
  rw [join_eq, tl_join, List.map_map]
  rfl
theorem split_text {ms : List Int} (h : ms ≠ []) : Txt.split (textS ms) ⟨#[32]⟩ = ms.map wordS := by
  refine split_join (y := ⟨#[32]⟩) (s := 32) (S := []) rfl (by decide +kernel) (fun e => h (List.map_eq_nil_iff.mp e)) fun p hp => ?_
  obtain ⟨k, _, rfl⟩ := List.mem_map.mp hp
  exact word_free k
theorem joinL_ne {ps : List (List Nat)} (h : ps ≠ []) (hp : ∀ p ∈ ps, p ≠ []) : joinL [32] ps ≠ [] := by
  match ps, h with
  | [p], _ => exact hp p List.mem_cons_self
  | p :: q :: r, _ =>
    intro e
    exact hp p List.mem_cons_self (List.append_eq_nil_iff.mp e).1
theorem text_ne {ms : List Int} (h : ms ≠ []) : textS ms ≠ ⟨#[]⟩ := fun e => by
  have := congrArg tl e
  rw [tl_text] at this
  exact joinL_ne (fun z => h (List.map_eq_nil_iff.mp z)) (fun p hp => by
    obtain ⟨k, _, rfl⟩ := List.mem_map.mp hp
    exact word_ne k) this
theorem joinL_len {c : Nat} : ∀ {ps : List (List Nat)}, (∀ p ∈ ps, p.length ≤ c) → (joinL [32] ps).length ≤ ps.length * (c + 1)
  | [], _ => Nat.zero_le _
  | [p], h => by
    have := h p List.mem_cons_self
    show p.length ≤ 1 * (c + 1)
    omega
  | p :: q :: r, h => by
    have a := h p List.mem_cons_self
    have b := joinL_len (ps := q :: r) fun z hz => h z (List.mem_cons_of_mem _ hz)
    show (p ++ ([32] ++ joinL [32] (q :: r))).length ≤ ((q :: r).length + 1) * (c + 1)
    rw [List.length_append, List.length_append, Nat.succ_mul]
    show p.length + (1 + _) ≤ _
    omega
theorem text_len {ms : List Int} (h : ∀ m ∈ ms, m.natAbs < 10 ^ 30) : (textS ms).length ≤ ms.length * 32 := by
  rw [len_tl, tl_text]
  have := joinL_len (c := 31) (ps := ms.map wordL) fun p hp => by
    obtain ⟨k, hk, rfl⟩ := List.mem_map.mp hp
    have := word_len (h k hk)
    rw [len_tl, tl_word] at this
    exact this
  rw [List.length_map] at this
  exact this
end Rd

/-! ## min(xs, key=lambda x: (abs(x), 0 - x)), xs a list of ints -/
namespace Rd
open PySem PySem.Spec L2 PyProof.Rows LamX
/-- the order of the keys (abs(x), 0 - x), as one number -/
def cod (n : Int) : Int := 2 * (n.natAbs : Int) + (if n < 0 then 1 else 0)
theorem cod_lt (n m : Int) : cod n < cod m ↔ (n.natAbs : Int) < m.natAbs ∨ ((n.natAbs : Int) = m.natAbs ∧ 0 - n < 0 - m) := by
  unfold cod
  split <;> split <;> omega
theorem cod_inj {n m : Int} (h : cod n = cod m) : n = m := by
  unfold cod at h
  split at h <;> split at h <;> omega
/-- an address that no frame, no cell and no pin of the context is -/
structure Loose (X : Cx) (pins : List (Addr × Obj)) (b : Addr) : Prop where
  hi : X.s_0.heap.objs.size ≤ b
  nl : b ≠ X.env.locals
  nc : ∀ x c, X.env.cells.lookup x = some c → c ≠ b
  np : ∀ p ∈ X.pn ++ pins, p.1 ≠ b
  nf : b ∉ X.fs
  ns : b ∉ frs X.stack
section
variable {X : Cx} {pins : List (Addr × Obj)} {σ : L2.St} {H : Hp} {s : Shared}
theorem Loose.of (I : Inv X pins σ H s) {b : Addr} (h : s.heap.objs.size ≤ b) : Loose X pins b where
  hi := Nat.le_trans I.sz h
  nl := Nat.ne_of_gt (Nat.lt_of_lt_of_le I.lt h)
  nc := fun x c e z => by
    obtain ⟨v, o, ho, _⟩ := I.cell x c e
    have h1 := Heap.lt_size ho
    rw [z] at h1
    exact Nat.lt_irrefl _ (Nat.lt_of_lt_of_le h1 h)
  np := fun p hp z => by
    have h1 := Heap.lt_size (I.pin p hp).1
    rw [z] at h1
    exact Nat.lt_irrefl _ (Nat.lt_of_lt_of_le h1 h)
  nf := I.nofs h
  ns := fun z => by
    rcases List.mem_cons.mp (I.stkSub _ z) with e | e
    · have h1 := I.lt
      rw [← e] at h1
      exact Nat.lt_irrefl _ (Nat.lt_of_lt_of_le h1 h)
    · exact I.nofs h e
theorem Inv.moved {wr : List Addr} {s' : Shared} (I : Inv X pins σ H s) (hw : ∀ b ∈ wr, Loose X pins b ∧ H b = none) (m : Moved wr (fun a b => b = a) s s') : Inv X pins σ H s' := by
  have nw : ∀ b, (∃ u, H b = some u) → b ∉ wr := fun b ⟨u, e⟩ z => by
    rw [(hw b z).2] at e
    cases e
  have J : Inv X pins σ H { s with heap := s'.heap, gens := s'.gens, drawn := s'.drawn, toks := s'.toks } := by
    refine I.step (ch := wr) (fun b hb => ⟨.inr (hw b hb).1.hi, (hw b hb).1.nl, (hw b hb).1.nc, (hw b hb).1.np⟩) (fun b o _ _ nb e _ => m.heap b o nb e) (fun b o _ _ nb e _ => ⟨o.slots, m.heap b o nb e⟩) (fun b o _ _ e => e)
      (fun b o nb e => ⟨o, m.heap b o nb e⟩) (fun _ _ e => e) (fun _ _ _ e => e) (fun b ps e => ⟨#[], by rw [Array.append_empty]; exact e⟩) (fun mm hn => ?_) (fun b u e => ?_) (by rw [m.gens]; exact I.bare)
    · obtain ⟨ob, es, ep, ho, r⟩ := hn
      exact ⟨ob, es, ep, m.heap _ ob (fun z => (hw _ z).1.nl rfl) ho, r⟩
    · refine (I.hok b u e).stay (fun d v hd q => m.heap d v ?_ q) (fun d q => q) fun d xs q => q
      rcases hd with z | z
      · rw [z]
        exact nw b ⟨u, e⟩
      · exact nw d ⟨_, z⟩
  have e : s' = { s with heap := s'.heap, gens := s'.gens, drawn := s'.drawn, toks := s'.toks } := by
    have := m.os
    cases s'
    cases s
    cases this
    rfl
  rw [e]
  exact J
/-- behind a call, the state itself -/
theorem Inv.behind {s' : Shared} {Q : VK} {u : Value} (I : Inv X pins σ H s) (h : CE X.stack X.prog X.w H s Q u s') : ∃ v H', Inv X pins σ H' s' ∧ Un (frs X.stack) [] H H' s.heap s'.heap ∧ RelV v u ∧ Q v H' := by
  obtain ⟨v, H', os, bare, un, hok, r, q⟩ := h
  obtain ⟨hh, g, d, t, os'⟩ := s'
  obtain rfl : os' = s.os := os
  exact ⟨v, H', I.call (h' := hh) (g' := g) (d' := d) (t' := t) (ch := []) un hok bare (fun b z => absurd z (by simp)), un, r, q⟩
/-- a lambda of one parameter is called -/
theorem lam1_run {P : Program} {w : World} {K : PySem.W.Frag} {mg : Str → Option Value} {base : Heap} {A : Around} {outer : List Env} {H : Hp} {s : Shared} {q a : Str} {f c' : Addr} {pm ctv : Value} {params : Arguments} {body : Expr} {scope : Scope} {k : Nat} {tb : TE} {v : V} {u : Value} {Q : VK}
    (e0 : Env0 P w K mg base A outer s H) (hr : Room (k + 1) A) (S : FnScope [a] [a] scope) (hf : s.heap.get? f = some (PySem.W.kla_obj "<lambda>" q params body scope [] pm c' ctv)) (hc : H c' = some (CodeO c' q))
    (hbind : ∀ u, bindArgs (PySem.W.kla_fn "<lambda>" q params body scope [] pm (.ref c') ctv) ⟨[u], []⟩ = pure [(a, u)])
    (hbody : PE (cxOf L2.CX0 P w K mg base [a] q scope f (.ref c') A outer s H L2.E0) body tb)
    (r : RelV v u) (h : tb [some v] H Q) :
    codeAny (model P w) A (.call (.ref f) ⟨[u], []⟩) (CR L2.CX0 outer P w H s Q L2.E0) s := by
  have lim : s.heap.NoLimit := e0.mod.nolimit.keeps fun b o e => (e0.bs b o e).1
  obtain ⟨⟨oc, vs, t, hoc, hdc, hvc⟩, _, _⟩ := e0.hok c' _ hc
  refine PySem.W.kla_callFunE hr.depth hf rfl S.co S.gen rfl ⟨c', oc, vs, t, rfl, hoc, hdc, hvc⟩ ?_
  rw [hbind]
  refine wpAny_pure ?_
  have hkind : ∀ y ∈ [(a, u)], scope.names.lookup y.1 = some .local ∨ (scope.names.lookup y.1 = some .cell ∧ ((cellsFrom (s.heap.objs.size + 1) scope.names []).lookup y.1).isSome = true) := fun y hy => by
    rw [List.mem_singleton.mp hy]
    rcases S.par a (List.mem_singleton.mpr rfl) with z | z
    · exact .inl z
    · exact .inr ⟨z, PySem.W.cellsFrom_some _ _ _ (.inl z)⟩
  refine wpAny_newFunctionEnv_cells S.kind hkind fun env he s1 x => ?_
  subst he
  refine ⟨lim.keeps x.toInCall.keep, ?_⟩
  have I : Inv (cxOf L2.CX0 P w K mg base [a] q scope f (.ref c') A outer s H L2.E0) [] (L2.start [a] [v]) H s1 := inv_start (us := [u]) S hr.hd e0 rfl (.cons r .nil) x
  refine PySem.W.kla_codeExpr (wpAny_mono (hbody.run [] _ _ H Q I h) (fun v s' hq => ?_) fun e s' hq => hq)
  obtain ⟨w', H', J', rv, q⟩ := hq
  exact ⟨w', H', J'.os, J'.bare, J'.base, J'.hok, rv, q⟩
/-- a list of ints is walked; the list's object may be another at each step -/
theorem walkI {prog : Program} {w : World} {A : Around} (hh : A.handled = none) (I ax : Addr) (hne : ax ≠ I) (ns : List Int) :
    WalksS prog w A I [I, ax] [I] (fun a b => b = a) ns.length (fun i v => ∃ t, v = .int (ns.getD i 0) t) (fun i s => s.heap.IsListIter I ax i ∧ ∃ its : List Value, IntsAre its ns ∧ s.heap.IsList ax its.toArray) where
  sub := fun b hb => by simp at hb; simp [hb]
  grefl := fun _ => rfl
  gtrans := fun _ _ _ h1 h2 => h2.trans h1
  frame := fun i s h' tk st _ hk => ⟨st.1.at fun o e => hk I (by simp) o e, let ⟨its, r, e⟩ := st.2; ⟨its, r, e.at fun o e => hk ax (by simp) o e⟩⟩
  item := fun i s Q E hi st hQ => by
    obtain ⟨its, r, e⟩ := st.2
    have W := (Walks.list (prog := prog) (w := w) hh I ax hne its.toArray).toS
    have hl : its.toArray.size = ns.length := by rw [List.size_toArray]; exact r.length
    refine W.item i s Q E (by omega) ⟨st.1, e⟩ fun v s' hP hst m => ?_
    obtain ⟨t, ht⟩ := r.get i (ns.getD i 0) (by rw [List.getD_eq_getElem?_getD, List.getElem?_eq_getElem hi] <;> rfl)
    refine hQ v s' ⟨t, ?_⟩ ⟨hst.1, its, r, hst.2⟩ m
    have hP' : its[i]? = some v := by simpa using hP
    rw [ht] at hP'
    exact (Option.some.inj hP').symm
  done := fun s Q E st hQ => by
    obtain ⟨its, r, e⟩ := st.2
    have W := (Walks.list (prog := prog) (w := w) hh I ax hne its.toArray).toS
    have hl : its.toArray.size = ns.length := by rw [List.size_toArray]; exact r.length
    refine W.done s Q E ⟨?_, e⟩ hQ
    rw [hl]
    exact st.1
  self := fun i s Q E st hQ => wpAny_pyIter_listiter st.1 hQ
/-- the object of the key of n -/
def KeyOb (o : Obj) (n : Int) : Prop := ∃ t1 t2 c, o.cls = .type "tuple" ∧ o.data = .seq #[.int n.natAbs t1, .int (0 - n) t2] c
theorem keys_lt {A : Around} {s : Shared} {t u : Addr} {ot ou : Obj} {n m : Int} (hu : A.units < cLine) (h1 : s.heap.get? t = some ot) (k1 : KeyOb ot n) (h2 : s.heap.get? u = some ou) (k2 : KeyOb ou m) :
    Ob.RcOp .Lt A s (.ref t) (.ref u) (decide (cod n < cod m)) := by
  obtain ⟨t1, t2, c, hc, hd⟩ := k1
  obtain ⟨u1, u2, c', hc', hd'⟩ := k2
  have beq : ∀ a b : Int, (a == b) = decide (a = b) := fun a b => by
    by_cases q : a = b
    · rw [decide_eq_true q]; exact beq_iff_eq.mpr q
    · rw [decide_eq_false q]; exact beq_eq_false_iff_ne.mpr q
  have R := Ob.RcOp.tuples_lt (A := A) (s := s) (l := t) (b := u) (items := #[.int n.natAbs t1, .int (0 - n) t2]) (items2 := #[.int m.natAbs u1, .int (0 - m) u2])
    (e := fun j => if j = 0 then decide ((n.natAbs : Int) = m.natAbs) else decide (0 - n = 0 - m)) (r := fun j => if j = 0 then decide ((n.natAbs : Int) < m.natAbs) else decide (0 - n < 0 - m)) ⟨ot, h1, hc, c, hd⟩ ⟨ou, h2, hc', c', hd'⟩ hu
    (fun j a b => by
      have hj : j < 2 := a
      match j, hj with
      | 0, _ => rw [if_pos rfl, ← beq]; exact SeqAt.EqAt.int_int _ _ _ _
      | 1, _ => rw [if_neg (by decide), ← beq]; exact SeqAt.EqAt.int_int _ _ _ _)
    (fun j a b _ => by
      have hj : j < 2 := a
      match j, hj with
      | 0, _ => rw [if_pos rfl]; exact Ob.RcOp.lt_int _ _ _ _
      | 1, _ => rw [if_neg (by decide)]; exact Ob.RcOp.lt_int _ _ _ _)
  have e : Ob.lexAt (fun j => if j = 0 then decide ((n.natAbs : Int) = m.natAbs) else decide (0 - n = 0 - m)) (fun j => if j = 0 then decide ((n.natAbs : Int) < m.natAbs) else decide (0 - n < 0 - m)) (decide (2 < 2)) 0 2 = decide (cod n < cod m) := by
    have i := cod_lt n m
    rw [Ob.lexAt_succ, Ob.lexAt_succ, Ob.lexAt_zero]
    simp only [if_true, Nat.zero_add, Nat.succ_ne_zero, if_false, decide_eq_true_eq, Nat.one_ne_zero]
    by_cases a : (n.natAbs : Int) = m.natAbs
    · rw [if_pos a]
      by_cases b : 0 - n = 0 - m
      · rw [if_pos b]
        refine (decide_eq_decide.mpr ?_)
        rw [i]
        omega
      · rw [if_neg b]
        refine (decide_eq_decide.mpr ?_)
        rw [i]
        omega
    · rw [if_neg a]
      refine (decide_eq_decide.mpr ?_)
      rw [i]
      omega
  rw [← e]
  exact R
/-- what the loop of min keeps: the tracked heap has only grown -/
def MkJ (X : Cx) (pins : List (Addr × Obj)) (σ : L2.St) (H : Hp) (l f c' I S : Addr) (q : Str) (fo : Obj) (s : Shared) : Prop := ∃ H', Inv X pins σ H' s ∧ Same H H' ∧ H' I = none ∧ H' S = none ∧ H' f = none ∧ s.heap.get? f = some fo ∧ ∀ b o, H b = none → H' b = some o → ∃ xs, o = .tup xs
/-- f tells the key of the i-th -/
def MkV (X : Cx) (H : Hp) (ns : List Int) (I S : Addr) (i : Nat) (k : Value) (s : Shared) : Prop := ∃ t o, k = .ref t ∧ (H t = none ∧ t ∉ frs X.stack) ∧ t ≠ I ∧ t ≠ S ∧ s.heap.get? t = some o ∧ KeyOb o (ns.getD i 0)
theorem min_key {K : PySem.W.Frag} {k : Nat} {q a : Str} {l f c' : Addr} {pm ctv : Value} {params : Arguments} {body : Expr} {scope : Scope} {ns : List Int} {tb : TE} {Q : VK} (hK : X.K = K) (hcalm : X.calm = true)
    (I : Inv X pins σ H s) (hr : Room (k + 2) X.A) (hl : SqL K H l (ns.map V.int)) (hne : 0 < ns.length) (S : FnScope [a] [a] scope) (hf : s.heap.get? f = some (PySem.W.kla_obj "<lambda>" q params body scope [] pm c' ctv)) (hfn : H f = none) (hfr : f ∉ frs X.stack) (hc : H c' = some (CodeO c' q))
    (hbind : ∀ u, bindArgs (PySem.W.kla_fn "<lambda>" q params body scope [] pm (.ref c') ctv) ⟨[u], []⟩ = pure [(a, u)])
    (hbody : ∀ (A : Around) (outer : List Env) (s : Shared) (H : Hp), PE (cxOf L2.CX0 X.prog X.w X.K X.mg X.base [a] q scope f (.ref c') A outer s H L2.E0) body tb)
    (htb : ∀ (n : Int) (H : Hp) (Q : VK), (∀ t, H t = none → Q (.ref t) (upd H t (.tup [.int n.natAbs, .int (0 - n)]))) → tb [some (.int n)] H Q)
    (h : ∀ m H', m ∈ ns → (∀ y ∈ ns, cod m ≤ cod y) → Same H H' → Q (.int m) H') :
    wpAny (model X.prog X.w) X.A (call (.builtin "min") [.ref l] [(Str.ofString "key", .ref f)]) (EP X pins σ Q) X.xe s := by
  subst hK
  obtain ⟨its, r0, pl, _⟩ := I.list hl
  have hlL : l < s.heap.objs.size := by
    obtain ⟨o, e, _⟩ := pl.isList
    exact Heap.lt_size e
  have hlt : f < s.heap.objs.size := Heap.lt_size hf
  refine call_min_walkK (wpAny_pyIter_list pl.isList ?_)
  have I2 : Inv X pins σ H { s with heap := s.heap.push { cls := .type "list_iterator", data := .fields #[.ref l, .int 0 0] } } := I.kept (t' := s.toks) fun b o e => Heap.get?_push_of_some _ e
  have hsz : (s.heap.push { cls := .type "list_iterator", data := .fields #[.ref l, .int 0 0] }).objs.size = s.heap.objs.size + 1 := Heap.size_push _ _
  have lI : Loose X pins s.heap.objs.size := Loose.of I (Nat.le_refl _)
  have lS : Loose X pins (s.heap.push { cls := .type "list_iterator", data := .fields #[.ref l, .int 0 0] }).objs.size := Loose.of I2 (Nat.le_refl _)
  have nI : H s.heap.objs.size = none := I.hok.fresh (Nat.le_refl _)
  have nS : H (s.heap.push { cls := .type "list_iterator", data := .fields #[.ref l, .int 0 0] }).objs.size = none := I2.hok.fresh (Nat.le_refl _)
  have hIt : (s.heap.push { cls := .type "list_iterator", data := .fields #[.ref l, .int 0 0] }).get? s.heap.objs.size = some { cls := .type "list_iterator", data := .fields #[.ref l, .int 0 0] } := Heap.get?_push_size _ rfl
  have hf2 : (s.heap.push { cls := .type "list_iterator", data := .fields #[.ref l, .int 0 0] }).get? f = some (PySem.W.kla_obj "<lambda>" q params body scope [] pm c' ctv) := Heap.get?_push_of_some _ hf
  have hpl2 : (s.heap.push { cls := .type "list_iterator", data := .fields #[.ref l, .int 0 0] }).IsList l its.toArray := pl.isList.at fun o e => Heap.get?_push_of_some _ e
  generalize hSe : (s.heap.push { cls := .type "list_iterator", data := .fields #[.ref l, .int 0 0] }).objs.size = Sa at lS nS hsz
  have fI : f ≠ s.heap.objs.size := Nat.ne_of_lt hlt
  have fS : f ≠ Sa := by rw [hsz]; exact Nat.ne_of_lt (Nat.lt_succ_of_lt hlt)
  have SI : Sa ≠ s.heap.objs.size := by rw [hsz]; exact Nat.succ_ne_self _
  have lIne : l ≠ s.heap.objs.size := Nat.ne_of_lt hlL
  refine ⟨s.heap.objs.size, [s.heap.objs.size, l], [s.heap.objs.size], fun a b => b = a, ns.length, _, _, MkJ X pins σ H l f c' s.heap.objs.size Sa q (PySem.W.kla_obj "<lambda>" q params body scope [] pm c' ctv), MkV X H ns s.heap.objs.size Sa, fun i j => decide (cod (ns.getD i 0) < cod (ns.getD j 0)), rfl,
    walkI (A := X.A.in1) (I.ok.hd hcalm) s.heap.objs.size l lIne ns, ⟨⟨_, hIt, rfl, rfl⟩, its, Vals.ints r0, hpl2⟩, fun b hb => ?_, hne, ?_, ⟨H, I2, Same.refl _, nI, nS, hfn, hf2, fun b o e1 e2 => by rw [e1] at e2; cases e2⟩, fun v s' hP hJ => ?_⟩
  · show b < Sa
    rw [hsz]
    rcases List.mem_cons.mp hb with e | hb
    · rw [e]
      exact Nat.lt_succ_self _
    · rw [List.mem_singleton.mp hb]
      exact Nat.lt_succ_of_lt hlL
  · refine ⟨fun s1 s2 hJ m => ?_, fun i kx s1 s2 hV m => ?_, fun i v s1 o Q1 E1 hi hP hJ hst hS hQ => ?_, fun i j ki kj s1 Q1 E1 hJ hi hj hQ => ?_⟩
    · obtain ⟨H', I', sm, n1, n2, n3, e, tp⟩ := hJ
      refine ⟨H', Inv.moved I' (fun b hb => ?_) m, sm, n1, n2, n3, m.heap f _ (fun z => ?_) e, tp⟩
      · rcases List.mem_cons.mp hb with e | hb
        · rw [e]
          exact ⟨lS, n2⟩
        · rw [List.mem_singleton.mp hb]
          exact ⟨lI, n1⟩
      · rcases List.mem_cons.mp z with z | z
        · exact fS z
        · exact fI (List.mem_singleton.mp z)
    · obtain ⟨t, o, e, n0, n1, n2, ht, ko⟩ := hV
      refine ⟨t, o, e, n0, n1, n2, m.heap t o (fun z => ?_) ht, ko⟩
      rcases List.mem_cons.mp z with z | z
      · exact n2 z
      · exact n1 (List.mem_singleton.mp z)
    · obtain ⟨H', I', sm, n1, n2, n3, e, tp⟩ := hJ
      obtain ⟨tt, ev⟩ := hP
      have ev : v = .int (ns.getD i 0) tt := ev
      subst ev
      have hx := lam1_run (tb := tb) (v := .int (ns.getD i 0)) (u := .int (ns.getD i 0) tt) (Q := fun v H'' => ∃ t, v = .ref t ∧ H' t = none ∧ H'' t = some (.tup [.int (ns.getD i 0).natAbs, .int (0 - ns.getD i 0)]) ∧ Same H' H'' ∧ ∀ b o, H' b = none → H'' b = some o → ∃ xs, o = .tup xs)
        I'.env0.in1 (show Room (k + 1) X.A.in1 from hr.in1) S e (sm _ _ hc) hbind (hbody _ _ _ _) ⟨tt, rfl⟩ (htb _ _ _ fun t nt => ⟨t, rfl, nt, upd_same, same_new nt, fun b o e1 e2 => by
          by_cases z : b = t
          · rw [z, upd_same] at e2
            exact ⟨_, (Option.some.inj e2).symm⟩
          · rw [upd_ne z, e1] at e2
            cases e2⟩)
      refine wpAny_call (codeAny_mono hx fun r s2 hq => ?_)
      cases r with
      | error e => exact (show False from hq).elim
      | ok fl =>
        cases fl with
        | next => exact False.elim hq
        | brk => exact False.elim hq
        | cont => exact False.elim hq
        | ret u =>
          obtain ⟨v2, H2, I2', un, rv, t, rfl, nt, ht, sm2, tp2⟩ := Inv.behind I' hq
          obtain rfl : u = Value.ref t := rv
          obtain ⟨ob, hot, hct, ⟨c2, hdt⟩⟩ : ∃ ob, s2.heap.get? t = some ob ∧ ob.cls = .type "tuple" ∧ ∃ c, ∃ t1 t2, ob.data = .seq #[.int (ns.getD i 0).natAbs t1, .int (0 - ns.getD i 0) t2] c := by
            obtain ⟨its2, rv2, ⟨ob, h1, h2, c, h3⟩, _⟩ := I2'.tuple (xs := [.int (ns.getD i 0).natAbs, .int (0 - ns.getD i 0)]) (SqT.of ht)
            cases rv2 with
            | cons ra rr =>
              cases rr with
              | cons rb rr =>
                cases rr
                obtain ⟨t1, rfl⟩ := ra
                obtain ⟨t2, rfl⟩ := rb
                exact ⟨ob, h1, h2, c, t1, t2, h3⟩
          obtain ⟨t1, t2, hdt⟩ := hdt
          have keepI : ∀ {b ob}, s1.heap.get? b = some ob → H' b = none → b ∉ frs X.stack → s2.heap.get? b = some ob := fun e1 e2 e3 => un.keep _ _ e1 e2 e3 (by simp)
          obtain ⟨⟨oI, eI, cI, dI⟩, _⟩ := hst
          obtain ⟨its2, rv2, pl2, _⟩ := I2'.list ((sm.trans sm2).seq hl)
          have nI2 : H2 s.heap.objs.size = none := un.free _ _ eI n1 (by simp)
          have nS2 : H2 Sa = none := un.free _ _ hS n2 (by simp)
          refine hQ _ _ ⟨H2, I2', sm.trans sm2, nI2, nS2, un.free _ _ e n3 (by simp), keepI e n3 hfr, fun b o e1 e2 => ?_⟩ ⟨⟨oI, keepI eI n1 lI.ns, cI, dI⟩, its2, Vals.ints rv2, pl2.isList⟩ (keepI hS n2 lS.ns) ⟨t, ob, rfl, ⟨Same.free sm nt, fun z => ?_⟩, fun z => ?_, fun z => ?_, hot, t1, t2, c2, hct, hdt⟩ fun j kj hV => ?_
          · cases q : H' b with
            | none => exact tp2 b o q e2
            | some o' =>
              have e3 := sm2 _ _ q
              rw [e2] at e3
              cases e3
              exact tp b o e1 q
          · have e3 := I2'.stkFree t z
            rw [e3] at ht
            cases ht
          · rw [z, nI2] at ht
            cases ht
          · rw [z, nS2] at ht
            cases ht
          · obtain ⟨tj, oj, ej, ⟨m0, m00⟩, m1, m2, htj, kj⟩ := hV
            cases q : H' tj with
            | none => exact ⟨tj, oj, ej, ⟨m0, m00⟩, m1, m2, keepI htj q m00, kj⟩
            | some o' =>
              obtain ⟨xs, rfl⟩ := tp tj o' m0 q
              obtain ⟨its1, ra1, ⟨ob1, g1, g2, g3, g4⟩, _⟩ := I'.tuple (SqT.of q)
              rw [htj] at g1
              cases g1
              obtain ⟨u1, u2, c3, k1, k2⟩ := kj
              rw [k2] at g4
              obtain ⟨its3, ra3, ⟨ob3, f1, f2, f3, f4⟩, _⟩ := I2'.tuple (SqT.of (un.tups _ _ q))
              have ei : its1 = [.int (ns.getD j 0).natAbs u1, .int (0 - ns.getD j 0) u2] := by
                have z := congrArg (fun d => match d with | Data.seq a _ => a.toList | _ => []) g4
                simpa using z.symm
              subst ei
              cases ra1 with
              | cons ra rr =>
                cases rr with
                | cons rb rr =>
                  cases rr
                  obtain rfl := ra.inj (y := .int (ns.getD j 0).natAbs) ⟨u1, rfl⟩
                  obtain rfl := rb.inj (y := .int (0 - ns.getD j 0)) ⟨u2, rfl⟩
                  cases ra3 with
                  | cons rc rr =>
                    cases rr with
                    | cons rd rr =>
                      cases rr
                      obtain ⟨w1, rfl⟩ := rc
                      obtain ⟨w2, rfl⟩ := rd
                      exact ⟨tj, ob3, ej, ⟨m0, m00⟩, m1, m2, f1, w1, w2, f3, f2, f4⟩
    · obtain ⟨t, o, rfl, _, _, _, ht, ko⟩ := hi
      obtain ⟨u, o2, rfl, _, _, _, hu, ko2⟩ := hj
      exact keys_lt (A := X.A.in1) (hr.in1.units0) ht ko hu ko2 _ _ _ _ hQ
  · obtain ⟨H', I', sm, _⟩ := hJ
    obtain ⟨b1, b2⟩ := argBest_lt (fun i => cod (ns.getD i 0)) (ns.length - 1)
    obtain ⟨t, ht⟩ := hP
    have ht : v = .int (ns.getD (argBest (fun i j => decide (cod (ns.getD i 0) < cod (ns.getD j 0))) (ns.length - 1)) 0) t := ht
    rw [ht]
    refine ⟨.int _, H', I', ⟨t, rfl⟩, h _ _ ?_ (fun y hy => ?_) sm⟩
    · have hb : argBest (fun i j => decide (cod (ns.getD i 0) < cod (ns.getD j 0))) (ns.length - 1) < ns.length := by omega
      rw [List.getD_eq_getElem?_getD, List.getElem?_eq_getElem hb]
      exact List.getElem_mem hb
    · obtain ⟨i, hi, e⟩ := List.mem_iff_getElem.mp hy
      have e2 : ns.getD i 0 = y := by rw [List.getD_eq_getElem?_getD, List.getElem?_eq_getElem hi, ← e] <;> rfl
      rw [← e2]
      exact b2 i (by omega)
end
theorem ExtN.sq {K : PySem.W.Frag} {H H' : Hp} {a : Addr} {xs : List V} (e : ExtN H H') (h : SqL K H a xs) : SqL K H' a xs := by
  rcases h with (h | ⟨o, h⟩) | h
  · exact .inl (.inl (e _ _ h fun ps z => nomatch z))
  · exact .inl (.inr ⟨o, e _ _ h fun ps z => nomatch z⟩)
  · exact .inr h
def rMinKey (K : PySem.W.Frag) (T : List (Addr × Str)) (vs : List V) (H1 : Hp) (Q : VK) : Prop := ∃ (l : Addr) (ns : List Int), vs = [.ref l] ∧ SqL K H1 l (ns.map V.int) ∧ 0 < ns.length ∧ Tabs T H1 ∧
  ∀ m H', m ∈ ns → (∀ y ∈ ns, cod m ≤ cod y) → ExtN H1 H' → Tabs T H' → Q (.int m) H'
def tMinKey (K : PySem.W.Frag) (T : List (Addr × Str)) (te : TE) : TE := fun σ H Q => tCons te tNil σ H fun vs H1 => rMinKey K T vs H1 Q
theorem r_minKey {K : PySem.W.Frag} {T : List (Addr × Str)} {te : TE} {σ : L2.St} {H : Hp} {Q : VK} (k : te σ H fun x H1 => rMinKey K T [x] H1 Q) : tMinKey K T te σ H Q := k
theorem pe_minKey {X : Cx} {K : PySem.W.Frag} {T : List (Addr × Str)} {te tb : TE} {e body : Expr} {params : Arguments} {scope : Scope} {a : Str} {k : Nat} {c P : Addr} {p pos lpos kpos : Pos} (hK : X.K = K) (hg : Gl X "min") (hm : X.mg "min" = none) (he : PE X e te)
    (TB : TabB X.base X.mg c P) (hcode : X.env.code = .ref c) (hmT : (P, X.env.qual ++ "<lambda>") ∈ T) (hu : ∀ p ∈ T, p.1 = P → p.2 = X.env.qual ++ "<lambda>") (hr : Room (k + 2) X.A) (S : FnScope [a] [a] scope) (hclo : cloFrom X.env.cells scope.names [] = [])
    (hdef : defaultsOf params X.env = ([], [])) (hbind : ∀ (q : Str) (pm cv ctv u : Value), bindArgs (PySem.W.kla_fn "<lambda>" q params body scope [] pm cv ctv) ⟨[u], []⟩ = pure [(a, u)])
    (hbody : ∀ (f : Addr) (cd : Value) (A : Around) (outer : List Env) (s : Shared) (H : Hp), PE (cxOf L2.CX0 X.prog X.w X.K X.mg X.base [a] (X.env.qual ++ "<lambda>") scope f cd A outer s H L2.E0) body tb)
    (htb : ∀ (n : Int) (H : Hp) (Q : VK), (∀ t, H t = none → Q (.ref t) (upd H t (.tup [.int n.natAbs, .int (0 - n)]))) → tb [some (.int n)] H Q)
    (hcalm : X.calm = true := by rfl) (na : starEach [e] X.env = (false, eval e X.env) :: starEach [] X.env := by rfl)
    (hs : backTo pos (starEach [e] X.env) = (false, eval e X.env) :: backTo pos (starEach [] X.env) := by rfl) (hpl : (backTo pos (starEach [e] X.env)).any (·.1) = false := by rfl) :
    PE X (.Call (.Name "min" p) [e] [⟨some "key", .Lambda params body scope lpos, kpos⟩] pos) (tMinKey K T te) := by
  subst hK
  refine ⟨fun pins s σ H Q I h => ?_⟩
  have hfree : ∀ y ∈ scope.names, y.2 = .free → ∃ c, X.env.cells.lookup y.1 = some c := fun y hy z => absurd z (S.nofree y hy)
  refine wpAny_Call_Name_kw (ld_blt (u := .builtin "min") I hg hm (by decide +kernel) ?_)
  refine PyProof.Rows.callWith_kw (thn ((pa_cons he pa_nil na).run pos pins s σ H _ I h) fun us s1 ⟨vs, H1, I1, r1, q1⟩ => ?_) hs hpl (by rfl) (by rfl)
  obtain ⟨l, ns, rfl, hl, hne, hT, q1⟩ := q1
  rw [Vals.ref1 r1]
  show wpAny _ _ (evalAll [(do let v ← eval (.Lambda params body scope lpos) X.env; standAt pos; pure v)]) _ _ s1
  refine wpAny_evalAll_cons (wpAny_bind (lam_make2 I1 TB hcode hmT hu hT hdef hfree fun f c' pm ctv H2 s2 I2 eN T2 hf hfn hfr hco => wpAny_bind (wpAny_standAt (wpAny_pure (wpAny_evalAll_nil ?_)))))
  rw [hclo] at hf
  show wpAny _ _ (call (.builtin "min") [.ref l] [(Str.ofString "key", .ref f)]) _ _ s2
  exact min_key rfl hcalm I2 hr (ExtN.sq eN hl) hne S hf hfn hfr hco (fun u => hbind _ _ _ _ u) (fun A outer s H => hbody f (.ref c') A outer s H) htb fun m H' m1 m2 sm => q1 m H' m1 m2 (eN.trans (ExtN.of sm)) (T2.ext sm)
end Rd

/-! ## defs with a table of code objects, and the end of a law with such tables -/
namespace Rd
open PySem PySem.Spec L2 PyProof.Rows LamX
/-- the def st stands at the name x; c is its code object, P that one's table -/
structure FunTab (K : PySem.W.Frag) (mg : Str → Option Value) (x : Str) (st : Stmt) (c P : Addr) : Prop where
  ex : ∃ (f : Addr) (oc : Value) (od an : Option Addr) (kV doc pm ct : Value) (osl : Array (Option Value)),
    K.lookup f = some ⟨oc, od, .func (PySem.W.fnOf x x (defArgs st) (defBody st) (defScope st) .none kV doc pm an (.ref c) ct), osl⟩ ∧ PySem.W.codeIn K (.ref c) x = true ∧ PySem.W.keepIn K (.ref f) = true ∧ mg x = some (.ref f)
section
variable {P : Program} {w : World} {K : PySem.W.Frag} {mg : Str → Option Value} {base : Heap}
theorem FunTab.ok {x : Str} {st : Stmt} {N ps : List Str} {k : Nat} {sp : Sp} {c Pt : Addr} (F : FunTab K mg x st c Pt) (S : FnScope N ps (defScope st)) (bo : BindOk x st ps) (len : ∀ vs H Q E, sp vs H Q E → vs.length = ps.length)
    (hbody : ∀ (f : Addr) (A : Around) (outer : List Env) (s : Shared) (H : Hp) (vs : List V) (Q : VK) (E : XK), Room k (A.deeper (envOfC x (defScope st) s.heap.objs.size f (.ref c))) → sp vs H Q E →
      ∃ t, PSs (cxOf L2.CX0 P w K mg base N x (defScope st) f (.ref c) A outer s H E).nox (defBody st) t ∧ t { nx := fun _ H' => Q .non H', rt := Q } (L2.start N vs) H) : Has P w K mg base L2.CX0 (k + 1) x sp := by
  obtain ⟨f, oc, od, an, kV, doc, pm, ct, osl, lk, hcd, kp, hm⟩ := F.ex
  refine ⟨f, _, ps, fn_of lk hcd S len fun A outer s H vs Q E hr hsp => ?_, hm, kp, Binds.all (bo kV doc pm an (.ref c) ct)⟩
  obtain ⟨t, h, q⟩ := hbody f A outer s H vs Q E hr hsp
  exact ⟨t, h.nox, q⟩
theorem tab_code {K : PySem.W.Frag} {x : Str} {f c Pt : Addr} {oc : Value} {od : Option Addr} {fd : FuncData} {osl : Array (Option Value)} (a : PySem.W.nsIn K mainGlobals x = some (some (.ref f))) (l : K.lookup f = some ⟨oc, od, .func fd, osl⟩) (t : PySem.W.tabIn K x = some (c, Pt)) : fd.code = .ref c := by
  unfold PySem.W.tabIn at t
  rw [a] at t
  dsimp only at t
  rw [l] at t
  dsimp only at t
  split at t
  · rename_i c' hc
    split at t
    · split at t
      · have z := Option.some.inj t
        have z1 : c' = c := congrArg Prod.fst z
        rw [hc, z1]
      · cases t
    · cases t
  · cases t
theorem FunTab.mk' {x : Str} {st : Stmt} {h : Heap} {c Pt : Addr} (X : K.In h) (G : h.Ns mainGlobals mg) {f : Addr} {oc : Value} {od an : Option Addr} {osl : Array (Option Value)} {kV doc pm cdv ct : Value}
    (a : PySem.W.nsIn K mainGlobals x = some (some (.ref f)))
    (l : K.lookup f = some ⟨oc, od, .func (PySem.W.fnOf x x (defArgs st) (defBody st) (defScope st) .none kV doc pm an cdv ct), osl⟩)
    (cc : PySem.W.codeIn K cdv x = true) (k : PySem.W.keepIn K (.ref f) = true) (t : PySem.W.tabIn K x = some (c, Pt)) : FunTab K mg x st c Pt := by
  have e : cdv = .ref c := tab_code a l t
  subst e
  exact ⟨f, oc, od, an, kV, doc, pm, ct, osl, l, cc, k, PySem.W.mg_of X G a⟩
end
/-- what the end knows of the tables of the defs named xs -/
def TabsAt (q : Program) (K : PySem.W.Frag) (h : Heap) : Prop := ∀ (x : Str) (c P : Addr), ((recsOf q).any fun e => e.name == x) = true → PySem.W.tabIn K x = some (c, P) → PySem.W.CodeHd h c P ∧ h.get? P = some { cls := .none, data := .fields #[] }
theorem walk_tabs {l : PySem.W.OpenLaw} {n k : Nat} {q : Program} {loose : List Str} {XP : (Str → Option Value) → Heap → Prop} {YP : World → Heap → Prop} {d : DefRec} {K : Params → PySem.W.Frag} {CX : World → CXT} {x : Str}
    (hn : l.most = some n) (hn2 : n ≤ sizeLine) (hdf : d.params.defaults = []) (hr : Room k callerA) (hY : ∀ (w : World) (h : Heap), YP w h → (K w.params).In h)
    (F : ∀ (w : World) (mg : Str → Option Value) (fa : Addr) (h : Heap), YP w h → (K w.params).In h → h.Ns mainGlobals mg → mg d.name = some (.ref fa) → TabsAt q (K w.params) h → LawAtS l w (K w.params) (CX w) k n x mg fa h)
    (hCX : ∀ (w : World) (H : Hp) (s : Shared) (e : Value) (s' : Shared), CX w [] H s (fun _ _ _ => False) e s' → False) :
    PySem.W.WalkO q loose XP YP l.row.toRowW d [] (fun f vs => PySem.call f vs) := by
  refine Att.attach_callB hn hdf fun w s₀ s₁ mg mb fa o pm cd doc a vs ns G Y ho hd hcd hmg hobj hints hlen hbits hg => ?_
  have KX := hY w _ Y
  have tabs : TabsAt q (K w.params) s₁.heap := fun x c P hrec ht => by
    have hs : ((recsOf q).find? fun e => e.name == x).isSome = true := by rw [List.find?_isSome]; simpa using hrec
    obtain ⟨d', hd'⟩ := Option.isSome_iff_exists.mp hs
    exact PySem.W.tab_of G.T KX hd' ht
  obtain ⟨fd, cs, sp, hT, nT, C, hb, hsp, hF⟩ := F w mg fa _ Y KX G.T.g hmg tabs
  exact law_callTs KX G.T.g G.T.b G.T.builtins G.T.nolimit hg hT nT C G.T.bmain hobj hints (Nat.le_trans hlen hn2) hr hF hb (fun H hH hS => hsp H a ns hlen hbits hH hS) fun H e s' => hCX w H s₁ e s'
/-- the script's list and the tables at the law's start -/
def spLawT (K : PySem.W.Frag) (T : List (Addr × Str)) : Sp := fun vs H Q _ => ∃ (a : Addr) (ns : List Int), vs = [.ref a] ∧ SqL K H a (ns.map V.int) ∧ ns.length ≤ 63 ∧ Tabs T H ∧ ∀ H', Q (.bl true) H'
theorem Tabs.fr {T : List (Addr × Str)} {H H' : Hp} (t : Tabs T H) (R : Fr H H') : Tabs T H' := fun p hp => by
  obtain ⟨ps, h1, h2, h3⟩ := t p hp
  refine ⟨ps, R _ _ h1 (fun _ _ _ _ h => nomatch h), h2, fun pos cv hc => ?_⟩
  obtain ⟨c, e1, e2⟩ := h3 pos cv hc
  exact ⟨c, e1, R _ _ e2 (fun _ _ _ _ h => nomatch h)⟩
theorem ExtN.at_tup {H H' : Hp} {g : Addr} {xs : List V} (e : ExtN H H') (h : H g = some (.tup xs)) : H' g = some (.tup xs) := e _ _ h fun ps z => nomatch z
theorem ExtN.at_lst {H H' : Hp} {g : Addr} {xs : List V} (e : ExtN H H') (h : H g = some (.lst xs)) : H' g = some (.lst xs) := e _ _ h fun ps z => nomatch z
theorem ExtN.st {H H' : Hp} {st a : Addr} (e : ExtN H H') (s : St H st a) : St H' st a := by
  obtain ⟨i, m, r, h, q⟩ := s
  exact ⟨i, m, r, ExtN.at_lst e h, q⟩
/-- all stays but the place of the draws and the tables -/
def FrN (H H' : Hp) : Prop := ∀ b o, H b = some o → NotSt o → (∀ ps, o ≠ .tbl ps) → H' b = some o
theorem FrN.refl (H : Hp) : FrN H H := fun _ _ e _ _ => e
theorem FrN.trans {H H1 H2 : Hp} (a : FrN H H1) (b : FrN H1 H2) : FrN H H2 := fun c o e n t => b c o (a c o e n t) n t
theorem FrN.of {H H' : Hp} (a : Fr H H') : FrN H H' := fun c o e n _ => a c o e n
theorem FrN.ext {H H' : Hp} (a : ExtN H H') : FrN H H' := fun c o e _ t => a c o e t
theorem FrN.sm {H H' : Hp} (a : Same H H') : FrN H H' := fun c o e _ _ => a c o e
theorem FrN.tup {H H' : Hp} (a : FrN H H') {b : Addr} {xs : List V} (e : H b = some (.tup xs)) : H' b = some (.tup xs) := a _ _ e nst_tup fun _ z => nomatch z
theorem FrN.ints {H H' : Hp} (a : FrN H H') {b : Addr} {ns : List Int} (e : H b = some (.lst (ns.map V.int))) : H' b = some (.lst (ns.map V.int)) := a _ _ e nst_ints fun _ z => nomatch z
theorem FrN.sq {K : PySem.W.Frag} {H H' : Hp} (R : FrN H H') {a : Addr} {ns : List Int} (h : SqL K H a (ns.map V.int)) : SqL K H' a (ns.map V.int) := by
  rcases h with (h | ⟨o, h⟩) | h
  · exact .inl (.inl (R.ints h))
  · exact .inl (.inr ⟨o, R _ _ h nst_frz fun _ z => nomatch z⟩)
  · exact .inr h
end Rd

/-! ## list(zip(l1, l2)) -/
namespace ZpL
open PySem PySem.Spec PyProof.Rows
open Sem (wp)
def ZipO (h : Heap) (z TI TO : Addr) (f0 : Value) (f1 : Bool) : Prop :=
  h.get? z = some { cls := .type "zip", dict := none, data := .fields #[f0, .bool f1, .bool false, .ref TI, .ref TO], slots := #[] }
section
variable {prog : Program} {w : World} {A : Around} {E : Value → Shared → Prop} {s : Shared}
/-- the next pair where the last one is held elsewhere -/
theorem next_out {z TI TO i1 i2 l1 l2 T : Addr} {f1 : Bool} {oT : Obj} {k1 k2 : Nat} {xs ys : Array Value} {x y : Value} {Q : Value → Shared → Prop} (D : ZipApart z TI TO i1 i2 l1 l2)
    (hz : ZipO s.heap z TI TO (rawInt T) f1) (hT : s.heap.get? T = some oT) (hTI : IsPair s.heap TI (.ref i1) (.ref i2))
    (h1 : s.heap.IsListIter i1 l1 k1) (h2 : s.heap.IsListIter i2 l2 k2) (hl1 : s.heap.IsList l1 xs) (hl2 : s.heap.IsList l2 ys) (hx : xs[k1]? = some x) (hy : ys[k2]? = some y)
    (hQ : ∀ h', ZipO h' z TI TO (rawInt T) true → h'.IsListIter i1 l1 (k1 + 1) → h'.IsListIter i2 l2 (k2 + 1) → IsPair h' s.heap.objs.size x y → h'.objs.size = s.heap.objs.size + 1 →
      (∀ c o, c ≠ z → c ≠ i1 → c ≠ i2 → s.heap.get? c = some o → h'.get? c = some o) → Q (.ref s.heap.objs.size) { s with heap := h' }) :
    wpAny (model prog w) A (Builtin.«zip.__next__» ⟨[.ref z], []⟩) (fun fin s' => ∃ v, fin = .done (.ret v) ∧ Q v s') E s := by
  show wpAny _ _ (field (.ref z) 2 >>= _) _ _ _
  refine wpAny_bind (wpAny_field hz rfl (x := .bool false) rfl ?_)
  show wpAny _ _ (field (.ref z) 3 >>= _) _ _ _
  refine wpAny_bind (wpAny_field hz rfl (x := .ref TI) rfl ?_)
  refine wpAny_bind (wpAny_seqItems hTI rfl ?_)
  show wpAny _ _ (Builtin.SmallTypes.ownedTupleIsFree (.ref z) >>= _) _ _ _
  refine wpAny_bind ?_
  unfold Builtin.SmallTypes.ownedTupleIsFree
  refine wpAny_bind (wpAny_field hz rfl (x := rawInt T) rfl ?_)
  show wpAny _ _ (loadIfAlive (Int.toNat (T : Int)) >>= _) _ _ _
  refine wpAny_bind (PySem.W.kdx_alive (a := T) hT ?_)
  show wpAny _ _ (field (.ref z) 1 >>= _) _ _ _
  refine wpAny_bind (wpAny_field hz rfl (x := .bool f1) rfl ?_)
  refine wpAny_mono (Q := fun a s' => a = false ∧ ∃ h₁, s' = { s with heap := h₁ } ∧ ZipO h₁ z TI TO (rawInt T) true ∧ h₁.objs.size = s.heap.objs.size ∧ ∀ c o, c ≠ z → s.heap.get? c = some o → h₁.get? c = some o) ?_ (fun a s' hq => ?_) (fun _ _ x => x)
  · cases f1 with
    | true => exact wpAny_pure ⟨rfl, s.heap, rfl, hz, rfl, fun c o _ e => e⟩
    | false =>
      show wpAny _ _ (setField (.ref z) 1 (.bool true) >>= _) _ _ _
      refine wpAny_bind (wpAny_setField_rec hz (by simp) fun h₁ hz₁ hs₁ => ?_)
      exact wpAny_pure ⟨rfl, h₁, rfl, hz₁, hs₁.1, fun c o n e => hs₁.extBut _ _ n e⟩
  · obtain ⟨rfl, h₁, rfl, hz₁, z₁, k₁⟩ := hq
    simp only [List.forIn_toArray, List.forIn_cons, List.forIn_nil, Bool.false_eq_true, if_false]
    refine wpAny_bind (wpAny_bind (wpAny_bind (wpAny_holding ?_)))
    show wpAny _ _ (Builtin.SmallTypes.nextOf (.ref i1) >>= _) _ _ _
    refine wpAny_bind (wpAny_nextOf_list_item (h1.at fun o e => k₁ _ o D.i1z e) (hl1.at fun o e => k₁ _ o D.l1z e) hx fun h₂ h1₂ hs₂ => wpAny_pure ?_)
    refine wpAny_pure ?_
    refine wpAny_bind (wpAny_bind (wpAny_holding ?_))
    show wpAny _ _ (Builtin.SmallTypes.nextOf (.ref i2) >>= _) _ _ _
    have h2₂ : h₂.IsListIter i2 l2 k2 := (h2.at fun o e => k₁ _ o D.i2z e).extBut hs₂.extBut D.i12.symm
    have hl2₂ : h₂.IsList l2 ys := (hl2.at fun o e => k₁ _ o D.l2z e).extBut hs₂.extBut D.l2i1
    refine wpAny_bind (wpAny_nextOf_list_item h2₂ hl2₂ hy fun h₃ h2₃ hs₃ => wpAny_pure ?_)
    refine wpAny_pure (wpAny_pure ?_)
    show wpAny _ _ (newTuple [x, y] >>= _) _ _ _
    refine wpAny_bind (wpAny_newTuple ?_)
    have z₃ : h₃.objs.size = s.heap.objs.size := by rw [hs₃.1, hs₂.1, z₁]
    have k₃ : ∀ c o, c ≠ z → c ≠ i1 → c ≠ i2 → s.heap.get? c = some o → h₃.get? c = some o := fun c o n1 n2 n3 e => hs₃.extBut _ _ n3 (hs₂.extBut _ _ n2 (k₁ _ _ n1 e))
    have hz₃ : ZipO h₃ z TI TO (rawInt T) true := hs₃.extBut _ _ D.i2z.symm (hs₂.extBut _ _ D.i1z.symm hz₁)
    have h1₃ : h₃.IsListIter i1 l1 (k1 + 1) := h1₂.extBut hs₃.extBut D.i12
    have up : ∀ c o, h₃.get? c = some o → (h₃.push { cls := .type "tuple", data := .seq #[x, y] }).get? c = some o := fun c o e => Heap.get?_push_of_some _ e
    refine wpAny_pure ⟨_, rfl, ?_⟩
    show Q (.ref h₃.objs.size) _
    have q := hQ (h₃.push { cls := .type "tuple", data := .seq #[x, y] }) (up _ _ hz₃) (h1₃.at fun o e => up _ o e) (h2₃.at fun o e => up _ o e) (by
      have e := Heap.get?_push_size h₃ (o := { cls := .type "tuple", data := .seq #[x, y] }) rfl
      rw [z₃] at e
      exact e) (by rw [Heap.size_push, z₃]) fun c o n1 n2 n3 e => up _ _ (k₃ c o n1 n2 n3 e)
    rw [z₃]
    exact q
/-- the end where the last pair is held elsewhere -/
theorem end_out {z TI TO i1 i2 l1 l2 T : Addr} {f1 : Bool} {oT : Obj} {k1 : Nat} {xs : Array Value} {Q : Fin → Shared → Prop} (hh : A.handled = none) (D : ZipApart z TI TO i1 i2 l1 l2)
    (hz : ZipO s.heap z TI TO (rawInt T) f1) (hT : s.heap.get? T = some oT) (hTI : IsPair s.heap TI (.ref i1) (.ref i2))
    (h1 : s.heap.IsListIter i1 l1 k1) (hl1 : s.heap.IsList l1 xs) (hx : xs[k1]? = none)
    (hE : ∀ h' e, (∀ c o, c ≠ z → c ≠ i1 → s.heap.get? c = some o → h'.get? c = some o) → (∃ o, h'.get? e = some o ∧ o.cls = .type "StopIteration") → E (.ref e) { s with heap := h' }) :
    wpAny (model prog w) A (Builtin.«zip.__next__» ⟨[.ref z], []⟩) Q E s := by
  show wpAny _ _ (field (.ref z) 2 >>= _) _ _ _
  refine wpAny_bind (wpAny_field hz rfl (x := .bool false) rfl ?_)
  show wpAny _ _ (field (.ref z) 3 >>= _) _ _ _
  refine wpAny_bind (wpAny_field hz rfl (x := .ref TI) rfl ?_)
  refine wpAny_bind (wpAny_seqItems hTI rfl ?_)
  show wpAny _ _ (Builtin.SmallTypes.ownedTupleIsFree (.ref z) >>= _) _ _ _
  refine wpAny_bind ?_
  unfold Builtin.SmallTypes.ownedTupleIsFree
  refine wpAny_bind (wpAny_field hz rfl (x := rawInt T) rfl ?_)
  show wpAny _ _ (loadIfAlive (Int.toNat (T : Int)) >>= _) _ _ _
  refine wpAny_bind (PySem.W.kdx_alive (a := T) hT ?_)
  show wpAny _ _ (field (.ref z) 1 >>= _) _ _ _
  refine wpAny_bind (wpAny_field hz rfl (x := .bool f1) rfl ?_)
  refine wpAny_mono (Q := fun a s' => a = false ∧ ∃ h₁, s' = { s with heap := h₁ } ∧ ZipO h₁ z TI TO (rawInt T) true ∧ h₁.objs.size = s.heap.objs.size ∧ ∀ c o, c ≠ z → s.heap.get? c = some o → h₁.get? c = some o) ?_ (fun a s' hq => ?_) (fun _ _ x => x)
  · cases f1 with
    | true => exact wpAny_pure ⟨rfl, s.heap, rfl, hz, rfl, fun c o _ e => e⟩
    | false =>
      show wpAny _ _ (setField (.ref z) 1 (.bool true) >>= _) _ _ _
      refine wpAny_bind (wpAny_setField_rec hz (by simp) fun h₁ hz₁ hs₁ => ?_)
      exact wpAny_pure ⟨rfl, h₁, rfl, hz₁, hs₁.1, fun c o n e => hs₁.extBut _ _ n e⟩
  · obtain ⟨rfl, h₁, rfl, hz₁, z₁, k₁⟩ := hq
    simp only [List.forIn_toArray, List.forIn_cons, List.forIn_nil, Bool.false_eq_true, if_false]
    refine wpAny_bind (wpAny_bind (wpAny_bind (wpAny_holding ?_)))
    show wpAny _ _ (Builtin.SmallTypes.nextOf (.ref i1) >>= _) _ _ _
    refine wpAny_bind (wpAny_nextOf_list_end hh (h1.at fun o e => k₁ _ o D.i1z e) (hl1.at fun o e => k₁ _ o D.l1z e) hx fun h₂ e hs₂ he => ?_)
    exact hE h₂ e (fun c o n1 n2 e => hs₂ _ _ n2 (k₁ _ _ n1 e)) he
theorem pyNext_out {z TI TO i1 i2 l1 l2 T : Addr} {f1 : Bool} {oT : Obj} {k1 k2 : Nat} {xs ys : Array Value} {x y : Value} {Q : Option Value → Shared → Prop} (D : ZipApart z TI TO i1 i2 l1 l2)
    (hz : ZipO s.heap z TI TO (rawInt T) f1) (hT : s.heap.get? T = some oT) (hTI : IsPair s.heap TI (.ref i1) (.ref i2))
    (h1 : s.heap.IsListIter i1 l1 k1) (h2 : s.heap.IsListIter i2 l2 k2) (hl1 : s.heap.IsList l1 xs) (hl2 : s.heap.IsList l2 ys) (hx : xs[k1]? = some x) (hy : ys[k2]? = some y)
    (hQ : ∀ h', ZipO h' z TI TO (rawInt T) true → h'.IsListIter i1 l1 (k1 + 1) → h'.IsListIter i2 l2 (k2 + 1) → IsPair h' s.heap.objs.size x y → h'.objs.size = s.heap.objs.size + 1 →
      (∀ c o, c ≠ z → c ≠ i1 → c ≠ i2 → s.heap.get? c = some o → h'.get? c = some o) → Q (some (.ref s.heap.objs.size)) { s with heap := h' }) :
    wpAny (model prog w) A (pyNext (.ref z)) Q E s := by
  have hT' : s.TypeIs (.ref z) "zip" := ⟨_, hz, rfl⟩
  unfold pyNext
  exact wpAny_bind (wpAny_attempt (wpAny_callSpecial?_slot (name := Str.ofString "__next__") hT' F.slot_zip_next
    (wpAny_call_entry F.slot_zip_next hT' F.entry_zip_next
      (next_out D hz hT hTI h1 h2 hl1 hl2 hx hy fun h' a1 a2 a3 a4 a5 a6 => wpAny_pure (hQ h' a1 a2 a3 a4 a5 a6)) (F.args_zip_next_1 _))))
theorem pyNext_end {z TI TO i1 i2 l1 l2 T : Addr} {f1 : Bool} {oT : Obj} {k1 : Nat} {xs : Array Value} {Q : Option Value → Shared → Prop} (hh : A.handled = none) (D : ZipApart z TI TO i1 i2 l1 l2)
    (hz : ZipO s.heap z TI TO (rawInt T) f1) (hT : s.heap.get? T = some oT) (hTI : IsPair s.heap TI (.ref i1) (.ref i2))
    (h1 : s.heap.IsListIter i1 l1 k1) (hl1 : s.heap.IsList l1 xs) (hx : xs[k1]? = none)
    (hQ : ∀ h', (∀ c o, c ≠ z → c ≠ i1 → s.heap.get? c = some o → h'.get? c = some o) → Q none { s with heap := h' }) : wpAny (model prog w) A (pyNext (.ref z)) Q E s := by
  have hT' : s.TypeIs (.ref z) "zip" := ⟨_, hz, rfl⟩
  unfold pyNext
  refine wpAny_bind (wpAny_attempt (wpAny_callSpecial?_slot (name := Str.ofString "__next__") hT' F.slot_zip_next
    (wpAny_call_entry F.slot_zip_next hT' F.entry_zip_next (end_out hh D hz hT hTI h1 hl1 hx fun h' e hk he => ?_) (F.args_zip_next_1 _))))
  obtain ⟨o, ho, hc⟩ := he
  refine wpAny_bind (wpAny_isInstance (T := "StopIteration") (b := true) ⟨o, ho, hc⟩ isSubtype_stop ?_)
  exact wpAny_pure (hQ _ hk)
/-- the iterator behind i pairs, while the list at S is filled -/
structure ZSt (h : Heap) (z TI TO i1 i2 l1 l2 : Addr) (xs ys : Array Value) (i : Nat) (S : Addr) : Prop where
  ti : IsPair h TI (.ref i1) (.ref i2)
  it1 : h.IsListIter i1 l1 i
  it2 : h.IsListIter i2 l2 i
  ls1 : h.IsList l1 xs
  ls2 : h.IsList l2 ys
  zip : (i = 0 ∧ ZipO h z TI TO .none false ∧ ∃ a b, IsPair h TO a b) ∨ ∃ (T : Addr) (f1 : Bool) (oT : Obj), ZipO h z TI TO (rawInt T) f1 ∧ h.get? T = some oT ∧ T ≠ z ∧ T ≠ i1 ∧ T ≠ i2 ∧ T ≠ S
theorem ZSt.keep {h h' : Heap} {z TI TO i1 i2 l1 l2 S : Addr} {xs ys : Array Value} {i : Nat} (x : ZSt h z TI TO i1 i2 l1 l2 xs ys i S) (hk : ∀ b o, b ≠ S → h.get? b = some o → h'.get? b = some o)
    (n : z ≠ S ∧ TI ≠ S ∧ TO ≠ S ∧ i1 ≠ S ∧ i2 ≠ S ∧ l1 ≠ S ∧ l2 ≠ S) : ZSt h' z TI TO i1 i2 l1 l2 xs ys i S := by
  obtain ⟨n1, n2, n3, n4, n5, n6, n7⟩ := n
  refine ⟨hk _ _ n2 x.ti, x.it1.at fun o e => hk _ o n4 e, x.it2.at fun o e => hk _ o n5 e, x.ls1.at fun o e => hk _ o n6 e, x.ls2.at fun o e => hk _ o n7 e, ?_⟩
  rcases x.zip with ⟨e, a, b, c, d⟩ | ⟨T, f1, oT, a, b, c, d, e, f⟩
  · exact .inl ⟨e, hk _ _ n1 a, b, c, hk _ _ n3 d⟩
  · exact .inr ⟨T, f1, oT, hk _ _ n1 a, hk _ _ f b, c, d, e, f⟩
theorem zst_item {z TI TO i1 i2 l1 l2 S : Addr} {xs ys : Array Value} {i : Nat} {x y : Value} {Q : Option Value → Shared → Prop} (D : ZipApart z TI TO i1 i2 l1 l2) (hst : ZSt s.heap z TI TO i1 i2 l1 l2 xs ys i S) (hS : S < s.heap.objs.size)
    (hx : xs[i]? = some x) (hy : ys[i]? = some y)
    (hQ : ∀ h', ZSt h' z TI TO i1 i2 l1 l2 xs ys (i + 1) S → IsPair h' s.heap.objs.size x y → h'.objs.size = s.heap.objs.size + 1 →
      (∀ c o, c ≠ z → c ≠ TO → c ≠ i1 → c ≠ i2 → s.heap.get? c = some o → h'.get? c = some o) → Q (some (.ref s.heap.objs.size)) { s with heap := h' }) :
    wpAny (model prog w) A (pyNext (.ref z)) Q E s := by
  have lt : ∀ {c o}, s.heap.get? c = some o → s.heap.objs.size ≠ c := fun e => Nat.ne_of_gt (Heap.lt_size e)
  have l1' : s.heap.objs.size ≠ i1 := by obtain ⟨_, e, _⟩ := hst.it1; exact lt e
  have l2' : s.heap.objs.size ≠ i2 := by obtain ⟨_, e, _⟩ := hst.it2; exact lt e
  rcases hst.zip with ⟨e, a, b, c, d⟩ | ⟨T, f1, oT, a, b, c, d, e, f⟩
  · refine wpAny_pyNext_zip_item D a hst.ti d hst.it1 hst.it2 hst.ls1 hst.ls2 hx hy fun h' q1 q2 q3 q4 q5 q6 q7 => ?_
    refine hQ h' ⟨q7 _ _ D.TIz D.TITO D.TIi1 D.TIi2 hst.ti, q3, q4, hst.ls1.at fun o e => q7 _ o D.l1z D.l1TO D.l1i1 D.l1i2 e, hst.ls2.at fun o e => q7 _ o D.l2z D.l2TO D.l2i1 D.l2i2 e, ?_⟩ q5 q6 q7
    exact .inr ⟨_, false, _, q1, q5, lt a, l1', l2', Nat.ne_of_gt hS⟩
  · refine pyNext_out D a b hst.ti hst.it1 hst.it2 hst.ls1 hst.ls2 hx hy fun h' q1 q3 q4 q5 q6 q7 => ?_
    refine hQ h' ⟨q7 _ _ D.TIz D.TIi1 D.TIi2 hst.ti, q3, q4, hst.ls1.at fun o e => q7 _ o D.l1z D.l1i1 D.l1i2 e, hst.ls2.at fun o e => q7 _ o D.l2z D.l2i1 D.l2i2 e, ?_⟩ q5 q6 fun c o n1 _ n3 n4 e => q7 c o n1 n3 n4 e
    exact .inr ⟨T, true, oT, q1, q7 _ _ c d e b, c, d, e, f⟩
/-- the pairs that are made: new, rising, above lo -/
structure ZG (xs ys : Array Value) (lo : Addr) (h : Heap) (as : List Addr) : Prop where
  rise : as.Pairwise (· < ·)
  above : ∀ a ∈ as, lo < a
  pairs : ∀ (j : Nat) (a : Addr), as[j]? = some a → ∃ x y, xs[j]? = some x ∧ ys[j]? = some y ∧ IsPair h a x y
theorem ZG.there {xs ys : Array Value} {lo : Addr} {h : Heap} {as : List Addr} (g : ZG xs ys lo h as) {a : Addr} (ha : a ∈ as) : a < h.objs.size := by
  obtain ⟨j, hj⟩ := List.mem_iff_getElem?.mp ha
  obtain ⟨_, _, _, _, e⟩ := g.pairs j a hj
  exact Heap.lt_size e
end
section
variable {prog : Program} {w : World} {A : Around} {s : Shared} {R : Result → Shared → Prop}
theorem loop {z TI TO i1 i2 l1 l2 S : Addr} {xs ys : Array Value} (hh : A.handled = none) (D : ZipApart z TI TO i1 i2 l1 l2) (hxy : xs.size = ys.size) (hn0 : 0 < xs.size) (hn : xs.size ≤ sizeLine)
    (n : z ≠ S ∧ TI ≠ S ∧ TO ≠ S ∧ i1 ≠ S ∧ i2 ≠ S ∧ l1 ≠ S ∧ l2 ≠ S) (hlow : z < S ∧ TO < S ∧ i1 < S ∧ i2 < S) (res : Value) {h₁ : Heap}
    (hR : ∀ h' tk acc c as, (∀ b o, b ≠ S → b ≠ z → b ≠ TO → b ≠ i1 → b ≠ i2 → h₁.get? b = some o → h'.get? b = some o) → h'.get? S = some { cls := .type "list", dict := none, data := .seq acc c, slots := #[] } → as.length = xs.size → ZG xs ys S h' as →
      acc.toList = as.map Value.ref → R (.ok (.ret res)) { s with heap := h', toks := tk }) :
    ∀ (k i : Nat) (h : Heap) (tk c : Nat) (acc : Array Value) (as : List Addr), xs.size - i = k → i ≤ xs.size → ZSt h z TI TO i1 i2 l1 l2 xs ys i S → (∀ b o, b ≠ S → b ≠ z → b ≠ TO → b ≠ i1 → b ≠ i2 → h₁.get? b = some o → h.get? b = some o) →
      h.get? S = some { cls := .type "list", dict := none, data := .seq acc c, slots := #[] } → acc.toList = as.map Value.ref → as.length = i → ZG xs ys S h as →
      codeAny (model prog w) A (.builtin "list.extend.loop" ⟨[.ref S, .ref z, res], []⟩) R { s with heap := h, toks := tk } := by
  obtain ⟨n1, n2, n3, n4, n5, n6, n7⟩ := id n
  intro k
  induction k with
  | zero =>
    intro i h tk c acc as hk hi hst hkeep hS hacc hal hG
    have hin : i = xs.size := by omega
    refine codeAny_builtin PySem.F.entry_extend_loop ?_
    rw [Around.under_plainId PySem.F.plain_extend_loop _]
    show wpAny _ A.in1 (pyNext (.ref z) >>= _) _ _ _
    rcases hst.zip with ⟨e, _⟩ | ⟨T, f1, oT, a, b, _, _, _, _⟩
    · omega
    refine wpAny_bind (pyNext_end (s := { s with heap := h, toks := tk }) (A := A.in1) hh D a b hst.ti hst.it1 hst.ls1 (Array.getElem?_eq_none (by omega)) fun h' he => ?_)
    refine wpAny_pure (hR h' tk acc c as (fun b o q1 q2 q3 q4 q5 e => he b o q2 q4 (hkeep b o q1 q2 q3 q4 q5 e)) (he S _ (Ne.symm n1) (Ne.symm n4) hS) (by omega) ⟨hG.rise, hG.above, fun j a hj => ?_⟩ hacc)
    obtain ⟨x, y, e1, e2, e3⟩ := hG.pairs j a hj
    have hb := hG.above a (List.mem_of_getElem? hj)
    exact ⟨x, y, e1, e2, he a _ (Nat.ne_of_gt (Nat.lt_trans hlow.1 hb)) (Nat.ne_of_gt (Nat.lt_trans hlow.2.2.1 hb)) e3⟩
  | succ k ih =>
    intro i h tk c acc as hk hi hst hkeep hS hacc hal hG
    have hlt : i < xs.size := by omega
    obtain ⟨x, hx⟩ : ∃ p, xs[i]? = some p := ⟨xs[i], Array.getElem?_eq_getElem hlt⟩
    obtain ⟨y, hy⟩ : ∃ p, ys[i]? = some p := ⟨ys[i], Array.getElem?_eq_getElem (by omega)⟩
    have hsz : acc.size = i := by rw [← Array.length_toList, hacc, List.length_map, hal]
    have hSl : S < h.objs.size := Heap.lt_size hS
    refine codeAny_builtin PySem.F.entry_extend_loop ?_
    rw [Around.under_plainId PySem.F.plain_extend_loop _]
    show wpAny _ A.in1 (pyNext (.ref z) >>= _) _ _ _
    refine wpAny_bind (zst_item (s := { s with heap := h, toks := tk }) (S := S) D hst hSl hx hy fun h' hst' ht hz hkp => ?_)
    dsimp only at ht hz hkp ⊢
    have hS' := hkp S _ (Ne.symm n1) (Ne.symm n3) (Ne.symm n4) (Ne.symm n5) hS
    have up : ∀ b o, b ≠ S → h'.get? b = some o → (h'.update S (Obj.mapSeq (·.push (Value.ref h.objs.size)))).get? b = some o := fun b o hb e => (Heap.get?_update_other _ _ (Ne.symm hb)).trans e
    show wpAny _ A.in1 (updateSeq S (·.push (Value.ref h.objs.size)) >>= _) _ _ _
    refine wpAny_bind ?_
    refine wpAny_updateSeq hS' rfl (wpAny_pure ⟨plainId_quiet PySem.F.plain_extend_loop _, ih (i + 1) _ tk _ (acc.push (Value.ref h.objs.size)) (as ++ [h.objs.size]) (by omega) hlt (hst'.keep up n)
      (fun b o q1 q2 q3 q4 q5 e => up b o q1 (hkp b o q2 q3 q4 q5 (hkeep b o q1 q2 q3 q4 q5 e))) (Heap.get?_update_self _ hS' rfl) (by rw [Array.toList_push, hacc, List.map_append]; rfl) (by rw [List.length_append, hal]; rfl) ⟨?_, ?_, ?_⟩⟩) (by rw [hsz]; omega) (by show (acc.push (Value.ref h.objs.size)).size ≤ sizeLine + 1; rw [Array.size_push, hsz]; omega)
    · refine List.pairwise_append.mpr ⟨hG.rise, List.pairwise_singleton _ _, fun a ha b hb => ?_⟩
      rw [List.mem_singleton.mp hb]
      exact hG.there ha
    · intro a ha
      rcases List.mem_append.mp ha with ha | ha
      · exact hG.above a ha
      · rw [List.mem_singleton.mp ha]; exact hSl
    · intro j b hj
      rcases Nat.lt_trichotomy j as.length with h1 | h1 | h1
      · rw [List.getElem?_append_left h1] at hj
        obtain ⟨x', y', e1, e2, e3⟩ := hG.pairs j b hj
        have hb := hG.above b (List.mem_of_getElem? hj)
        exact ⟨x', y', e1, e2, up b _ (Nat.ne_of_gt hb) (hkp b _ (Nat.ne_of_gt (Nat.lt_trans hlow.1 hb)) (Nat.ne_of_gt (Nat.lt_trans hlow.2.1 hb)) (Nat.ne_of_gt (Nat.lt_trans hlow.2.2.1 hb)) (Nat.ne_of_gt (Nat.lt_trans hlow.2.2.2 hb)) e3)⟩
      · subst h1
        have hb : h.objs.size = b := by simpa using hj
        subst hb
        exact ⟨x, y, by rw [hal]; exact hx, by rw [hal]; exact hy, up _ _ (Nat.ne_of_gt hSl) ht⟩
      · have hnone : (as ++ [h.objs.size])[j]? = none := List.getElem?_eq_none (by rw [List.length_append, List.length_singleton]; omega)
        rw [hnone] at hj; cases hj
end
theorem zip_len : typeLookup (.type "zip") "__len__" = pure none := by rw [typeLookup_type, builtinLookup_eq_fast]; kernel_rfl
theorem zip_hint : typeLookup (.type "zip") "__length_hint__" = pure none := by rw [typeLookup_type, builtinLookup_eq_fast]; kernel_rfl
section
variable {prog : Program} {w : World} {A : Around} {E : Value → Shared → Prop} {s : Shared}
theorem hint {r : Addr} (hT : s.TypeIs (.ref r) "zip") {Q : Bool → Shared → Prop} (h : Q true s) : wpAny (model prog w) A (Builtin.List.listLengthHint (.ref r)) Q E s := by
  unfold Builtin.List.listLengthHint
  refine wpAny_bind (wpAny_specialOf hT zip_len ?_)
  refine wpAny_bind (wpAny_specialOf hT zip_hint ?_)
  exact wpAny_pure h
end
section
variable {prog : Program} {w : World} {A : Around} {E : Value → Shared → Prop} {s : Shared} {z TI TO i1 i2 l1 l2 : Addr} {xs ys : Array Value}
theorem extend {R : Result → Shared → Prop} {S : Addr} (hh : A.handled = none) (D : ZipApart z TI TO i1 i2 l1 l2) (hxy : xs.size = ys.size) (hn0 : 0 < xs.size) (hn : xs.size ≤ sizeLine)
    (n : z ≠ S ∧ TI ≠ S ∧ TO ≠ S ∧ i1 ≠ S ∧ i2 ≠ S ∧ l1 ≠ S ∧ l2 ≠ S) (hlow : z < S ∧ TO < S ∧ i1 < S ∧ i2 < S) (res : Value) (c₀ : Nat) (hz : ZipO s.heap z TI TO .none false)
    (hst : ZSt s.heap z TI TO i1 i2 l1 l2 xs ys 0 S) (hS : s.heap.get? S = some { cls := .type "list", data := .seq #[] c₀ })
    (hR : ∀ h' tk acc c as, (∀ b o, b ≠ S → b ≠ z → b ≠ TO → b ≠ i1 → b ≠ i2 → s.heap.get? b = some o → h'.get? b = some o) → h'.get? S = some { cls := .type "list", dict := none, data := .seq acc c, slots := #[] } → as.length = xs.size → ZG xs ys S h' as →
      acc.toList = as.map Value.ref → R (.ok (.ret res)) { s with heap := h', toks := tk }) :
    wpAny (model prog w) A.in1 (Builtin.List.listExtendWith (.ref S) (.ref z) res)
      (fun fin s' => match fin with | .done f => R (.ok f) s' | .again c' => c'.quiet = true ∧ codeAny (model prog w) A c' R s') (fun e s' => R (.error e) s') s := by
  have hT : s.TypeIs (.ref z) "zip" := ⟨_, hz, rfl⟩
  have key : ∀ (h : Heap) (c₁ tk : Nat), (∀ b o, b ≠ S → s.heap.get? b = some o → h.get? b = some o) → h.get? S = some { cls := .type "list", data := .seq #[] c₁ } →
      codeAny (model prog w) A (.builtin "list.extend.loop" ⟨[.ref S, .ref z, res], []⟩) R { s with heap := h, toks := tk } := by
    intro h c₁ tk hk hS₁
    refine loop (s := s) (h₁ := s.heap) hh D hxy hn0 hn n hlow res hR xs.size 0 h tk c₁ #[] [] (Nat.sub_zero _) (Nat.zero_le _) (hst.keep hk n) (fun b o q _ _ _ _ e => hk b o q e) hS₁ rfl rfl
      ⟨List.Pairwise.nil, (fun _ ha => nomatch ha), (fun j a hj => by simp at hj)⟩
  unfold Builtin.List.listExtendWith
  refine wpAny_bind (wpAny_typeOf (T := "zip") hT ?_)
  have h1 : Builtin.List.listSameRef (.ref S) (.ref z) = false := by simp [Builtin.List.listSameRef, Ne.symm n.1]
  have h2 : (Value.type "zip" == Value.type "list") = false := by decide
  have h3 : (Value.type "zip" == Value.type "tuple") = false := by decide
  simp only [h1, h2, h3, Bool.or_false, Bool.false_eq_true, if_false]
  refine wpAny_bind (wpAny_pyIter_zip hz ?_)
  refine wpAny_bind (wpAny_holding (hint hT ?_))
  refine wpAny_ite_split (fun _ => ?_) (fun _ => wpAny_pure ⟨plainId_quiet PySem.F.plain_extend_loop _, key _ c₀ _ (fun b o _ e => e) hS⟩)
  refine wpAny_bind (wpAny_rule ?_)
  refine wpAny_bind ?_
  show wpAny _ _ (updateSeq S (·.push .none) >>= fun _ => updateSeq S (·.pop)) _ _ _
  refine wpAny_bind (wpAny_updateSeq hS rfl ?_)
  have hS₂ := Heap.get?_update_self (Obj.mapSeq (·.push Value.none)) hS rfl
  refine wpAny_updateSeq (hz := by seq_fits) hS₂ rfl ?_
  have hS₃ := Heap.get?_update_self (Obj.mapSeq (·.pop)) hS₂ rfl
  refine wpAny_pure ⟨plainId_quiet PySem.F.plain_extend_loop _, key _ _ _ (fun b o hb e => ?_) hS₃⟩
  exact (Heap.get?_update_other _ _ (Ne.symm hb)).trans ((Heap.get?_update_other _ _ (Ne.symm hb)).trans e)
theorem init {R : Result → Shared → Prop} {S : Addr} (hh : A.handled = none) (D : ZipApart z TI TO i1 i2 l1 l2) (hxy : xs.size = ys.size) (hn0 : 0 < xs.size) (hn : xs.size ≤ sizeLine)
    (n : z ≠ S ∧ TI ≠ S ∧ TO ≠ S ∧ i1 ≠ S ∧ i2 ≠ S ∧ l1 ≠ S ∧ l2 ≠ S) (hlow : z < S ∧ TO < S ∧ i1 < S ∧ i2 < S) (hz : ZipO s.heap z TI TO .none false)
    (hst : ZSt s.heap z TI TO i1 i2 l1 l2 xs ys 0 S) (hS : s.heap.get? S = some { cls := .type "list", data := .seq #[] })
    (hR : ∀ h' tk acc c as, (∀ b o, b ≠ S → b ≠ z → b ≠ TO → b ≠ i1 → b ≠ i2 → s.heap.get? b = some o → h'.get? b = some o) → h'.get? S = some { cls := .type "list", dict := none, data := .seq acc c, slots := #[] } → as.length = xs.size → ZG xs ys S h' as →
      acc.toList = as.map Value.ref → R (.ok (.ret .none)) { s with heap := h', toks := tk }) :
    wpAny (model prog w) A.in1 (Builtin.«list.__init__» ⟨[.ref S, .ref z], []⟩)
      (fun fin s' => match fin with | .done f => R (.ok f) s' | .again c' => c'.quiet = true ∧ codeAny (model prog w) A c' R s') (fun e s' => R (.error e) s') s := by
  show wpAny _ _ (do let old ← Builtin.List.listItems (.ref S); Builtin.List.listUpdate (.ref S) (fun _ => #[]); letGo old.toList.reverse; Builtin.List.listExtendWith (.ref S) (.ref z) .none) _ _ s
  refine wpAny_bind ?_
  unfold Builtin.List.listItems
  refine wpAny_bind (wpAny_seqItems hS rfl (wpAny_pure ?_))
  show wpAny _ _ (updateSeq S (fun _ => #[]) >>= fun _ => letGo (#[] : Array Value).toList.reverse >>= fun _ => Builtin.List.listExtendWith (.ref S) (.ref z) .none) _ _ s
  refine wpAny_bind (wpAny_updateSeq hS rfl ?_)
  have hS₂ := Heap.get?_update_self (Obj.mapSeq (fun _ => (#[] : Array Value))) hS rfl
  have oth : ∀ b o, b ≠ S → s.heap.get? b = some o → (s.heap.update S (Obj.mapSeq (fun _ => (#[] : Array Value)))).get? b = some o :=
    fun b o hb e => (Heap.get?_update_other _ _ (Ne.symm hb)).trans e
  refine wpAny_bind (wpAny_letGo ?_)
  exact extend hh D hxy hn0 hn n hlow .none _ (oth _ _ n.1 hz) (hst.keep oth n) hS₂ (fun h' tk acc c as hk hS' hl hG hacc => hR h' tk acc c as (fun b o q1 q2 q3 q4 q5 e => hk b o q1 q2 q3 q4 q5 (oth b o q1 e)) hS' hl hG hacc)
theorem call_list_zip {Q : Value → Shared → Prop} (hh : A.handled = none) (D : ZipApart z TI TO i1 i2 l1 l2) (hxy : xs.size = ys.size) (hn0 : 0 < xs.size) (hn : xs.size ≤ sizeLine) (hz : ZipO s.heap z TI TO .none false)
    (hst : ∀ S, s.heap.objs.size ≤ S → ZSt s.heap z TI TO i1 i2 l1 l2 xs ys 0 S)
    (hQ : ∀ h' tk acc c as, (∀ b o, b ≠ z → b ≠ TO → b ≠ i1 → b ≠ i2 → s.heap.get? b = some o → h'.get? b = some o) → h'.get? s.heap.objs.size = some { cls := .type "list", dict := none, data := .seq acc c, slots := #[] } → as.length = xs.size → ZG xs ys s.heap.objs.size h' as →
      acc.toList = as.map Value.ref → Q (.ref s.heap.objs.size) { s with heap := h', toks := tk }) :
    wpAny (model prog w) A (call (.type "list") [.ref z]) Q E s := by
  refine PySem.callType_codes (Q₁ := fun obj s₁ => obj = .ref s.heap.objs.size ∧ s₁ = { s with heap := s.heap.push { cls := .type "list", data := .seq #[] } }) PySem.F.called_list (PySem.F.typeCall_list_1 _) PySem.F.entry_list_init
    (code_list_new _ ⟨rfl, rfl⟩) fun obj s₁ h₁ => ?_
  obtain ⟨rfl, rfl⟩ := h₁
  have hS : (s.heap.push { cls := .type "list", data := .seq #[] }).get? s.heap.objs.size = some { cls := .type "list", data := .seq #[] } := Heap.get?_push_size _ rfl
  have st := hst s.heap.objs.size (Nat.le_refl _)
  have lz : z < s.heap.objs.size := Heap.lt_size hz
  have lTI : TI < s.heap.objs.size := Heap.lt_size st.ti
  have li1 : i1 < s.heap.objs.size := by obtain ⟨_, e, _⟩ := st.it1; exact Heap.lt_size e
  have li2 : i2 < s.heap.objs.size := by obtain ⟨_, e, _⟩ := st.it2; exact Heap.lt_size e
  have ll1 : l1 < s.heap.objs.size := by obtain ⟨_, e, _⟩ := st.ls1; exact Heap.lt_size e
  have ll2 : l2 < s.heap.objs.size := by obtain ⟨_, e, _⟩ := st.ls2; exact Heap.lt_size e
  have lTO : TO < s.heap.objs.size := by
    rcases st.zip with ⟨_, _, a, b, e⟩ | ⟨T, f1, oT, a, _⟩
    · exact Heap.lt_size e
    · have a' := hz.symm.trans a
      cases a'
  have up : ∀ b o, b ≠ s.heap.objs.size → s.heap.get? b = some o → (s.heap.push { cls := .type "list", data := .seq #[] }).get? b = some o := fun b o _ e => Heap.get?_push_of_some _ e
  have n := (⟨Nat.ne_of_lt lz, Nat.ne_of_lt lTI, Nat.ne_of_lt lTO, Nat.ne_of_lt li1, Nat.ne_of_lt li2, Nat.ne_of_lt ll1, Nat.ne_of_lt ll2⟩ : z ≠ s.heap.objs.size ∧ TI ≠ s.heap.objs.size ∧ TO ≠ s.heap.objs.size ∧ i1 ≠ s.heap.objs.size ∧ i2 ≠ s.heap.objs.size ∧ l1 ≠ s.heap.objs.size ∧ l2 ≠ s.heap.objs.size)
  refine ⟨⟨_, hS, rfl⟩, PySem.F.args_list_init_2 _ _, init (A := A.in1) hh D hxy hn0 hn n ⟨lz, lTO, li1, li2⟩ (Heap.get?_push_of_some _ hz) (st.keep up n) hS (fun h' tk acc c as hk hS' hl hG hacc => ?_)⟩
  exact ⟨rfl, hQ h' tk acc c as (fun b o q1 q2 q3 q4 e => hk b o (Nat.ne_of_lt (Heap.lt_size e)) q1 q2 q3 q4 (Heap.get?_push_of_some _ e)) hS' hl hG hacc⟩
end
end ZpL
namespace Rd
open PySem PySem.Spec PyProof.Rows L2
/-- pairs laid at their addresses -/
def putP : Hp → List Addr → List (V × V) → Hp
  | H, a :: as, p :: ps => putP (upd H a (.tup [p.1, p.2])) as ps
  | H, _, _ => H
theorem putP_off {b : Addr} : ∀ (as : List Addr) (ps : List (V × V)) (H : Hp), b ∉ as → putP H as ps b = H b
  | [], _, _, _ => rfl
  | _ :: _, [], _, _ => rfl
  | a :: as, p :: ps, H, h => by
    show putP (upd H a (.tup [p.1, p.2])) as ps b = H b
    rw [putP_off as ps _ (fun z => h (List.mem_cons_of_mem _ z)), upd_ne (fun z => h (by rw [z]; exact List.mem_cons_self))]
theorem putP_at : ∀ (as : List Addr) (ps : List (V × V)) (H : Hp), as.length = ps.length → as.Nodup → ∀ (i : Nat) (a : Addr) (p : V × V), as[i]? = some a → ps[i]? = some p → putP H as ps a = some (.tup [p.1, p.2])
  | [], _, _, _, _, _, _, _, h1, _ => by simp at h1
  | _ :: _, [], _, _, _, _, _, _, _, h2 => by simp at h2
  | a :: as, q :: ps, H, h, hn, i, b, p, h1, h2 => by
    have hn' := List.nodup_cons.mp hn
    show putP (upd H a (.tup [q.1, q.2])) as ps b = _
    cases i with
    | zero =>
      cases h1
      cases h2
      rw [putP_off as ps _ hn'.1, upd_same]
    | succ i => exact putP_at as ps _ (Nat.succ.inj h) hn'.2 i b p (by simpa using h1) (by simpa using h2)
/-- what list(zip(..)) tells of two lists of one length, not empty -/
def rListZip (K : PySem.W.Frag) : V → V → Hp → VK → Prop := fun x y H Q => ∃ (l1 l2 : Addr) (xs ys : List V), x = .ref l1 ∧ y = .ref l2 ∧ SqL K H l1 xs ∧ SqL K H l2 ys ∧ xs.length = ys.length ∧ 0 < xs.length ∧
  ∀ (H' : Hp) (p : Addr) (ts : List Addr), Same H H' → H p = none → H' p = some (.lst (ts.map V.ref)) → ts.length = xs.length →
    (∀ (i : Nat) (t : Addr) (u v : V), ts[i]? = some t → xs[i]? = some u → ys[i]? = some v → H' t = some (.tup [u, v])) → Q (.ref p) H'
def tListZip (K : PySem.W.Frag) (ta tb : TE) : TE := fun σ H Q => ta σ H fun x H1 => tb σ H1 fun y H2 => rListZip K x y H2 Q
theorem r_listZip {K : PySem.W.Frag} {ta tb : TE} {σ : L2.St} {H : Hp} {Q : VK} (k : ta σ H fun x H1 => tb σ H1 fun y H2 => rListZip K x y H2 Q) : tListZip K ta tb σ H Q := k
section
variable {X : Cx} {e e2 : Expr} {ta tb : TE} {p p2 cpos pos : Pos}
theorem zip_laid {pins : List (Addr × Obj)} {σ : L2.St} {H : Hp} {s : Shared} {h' : Heap} {tk : Nat} {xs ys : List V} {us ws : List Value} {acc : Array Value} {c : Nat} {as : List Addr} {S : Addr} (I : Inv X pins σ H s)
    (rx : Vals xs us) (ry : Vals ys ws) (hxy : xs.length = ys.length) (hz : xs.length ≤ sizeLine) (hk : ∀ b o, s.heap.get? b = some o → h'.get? b = some o) (hlo : s.heap.objs.size ≤ S)
    (hS : h'.get? S = some { cls := .type "list", dict := none, data := .seq acc c, slots := #[] }) (hl : as.length = us.toArray.size) (hG : ZpL.ZG us.toArray ws.toArray S h' as) (hacc : acc.toList = as.map Value.ref) :
    ∃ H' : Hp, Same H H' ∧ H S = none ∧ H' S = some (.lst (as.map V.ref)) ∧ as.length = xs.length ∧ (∀ (i : Nat) (t : Addr) (u v : V), as[i]? = some t → xs[i]? = some u → ys[i]? = some v → H' t = some (.tup [u, v])) ∧ Inv X pins σ H' { s with heap := h', toks := tk } := by
  have lx : xs.length = us.length := Paired.length rx
  have la : as.length = xs.length := by rw [hl, lx]; simp
  have hSn : S ∉ as := fun z => Nat.lt_irrefl _ (hG.above _ z)
  have nd : as.Nodup := List.Pairwise.imp (fun {a b} (h : a < b) => Nat.ne_of_lt h) hG.rise
  have new : ∀ t ∈ as, H t = none := fun t ht => I.hok.fresh (Nat.le_trans hlo (Nat.le_of_lt (hG.above t ht)))
  have newS : H S = none := I.hok.fresh hlo
  have lz : (xs.zip ys).length = xs.length := by rw [List.length_zip]; omega
  have atP := putP_at as (xs.zip ys) (upd H S (.lst (as.map V.ref))) (by omega) nd
  have off : ∀ b, b ∉ as → b ≠ S → putP (upd H S (.lst (as.map V.ref))) as (xs.zip ys) b = H b := fun b h1 h2 => by rw [putP_off as _ _ h1, upd_ne h2]
  have low : ∀ b o, s.heap.get? b = some o → b ∉ as ∧ b ≠ S := fun b o e =>
    ⟨fun z => absurd (Heap.lt_size e) (Nat.not_lt.mpr (Nat.le_trans hlo (Nat.le_of_lt (hG.above b z)))), Nat.ne_of_lt (Nat.lt_of_lt_of_le (Heap.lt_size e) hlo)⟩
  have kp : ∀ b u, H b = some u → (putP (upd H S (.lst (as.map V.ref))) as (xs.zip ys)) b = some u := fun b u e => by
    rw [off b (fun z => by rw [new b z] at e; cases e) (fun z => by rw [z, newS] at e; cases e)]
    exact e
  have eS : putP (upd H S (.lst (as.map V.ref))) as (xs.zip ys) S = some (.lst (as.map V.ref)) := by rw [putP_off as _ _ hSn, upd_same]
  have prs : ∀ (i : Nat) (t : Addr) (u v : V), as[i]? = some t → xs[i]? = some u → ys[i]? = some v → putP (upd H S (.lst (as.map V.ref))) as (xs.zip ys) t = some (.tup [u, v]) := fun i t u v h1 h2 h3 =>
    atP i t (u, v) h1 (by rw [List.getElem?_zip_eq_some]; exact ⟨h2, h3⟩)
  refine ⟨putP (upd H S (.lst (as.map V.ref))) as (xs.zip ys), kp, newS, eS, la, prs, ?_⟩
  refine I.call' (ch := []) rfl ⟨fun b o q _ _ _ => hk b o q, fun b o q _ _ _ => ⟨o.slots, hk b o q⟩, fun b o q n _ => ?_, fun b o q _ => ⟨o, hk b o q⟩, fun b xs q => kp b _ q, fun b o u q => kp b _ q, fun b ps q => ⟨#[], by rw [kp b _ q]; simp⟩⟩ (fun b u q => ?_) I.bare fun b z => by simp at z
  · obtain ⟨z1, z2⟩ := low b o q
    rw [off b z1 z2]
    exact n
  · by_cases hb : b ∈ as
    · obtain ⟨j, ej⟩ := List.mem_iff_getElem?.mp hb
      have hj : j < as.length := (List.getElem?_eq_some_iff.mp ej).1
      have h1 : xs[j]? = some (xs[j]'(by omega)) := List.getElem?_eq_getElem _
      have h2 : ys[j]? = some (ys[j]'(by omega)) := List.getElem?_eq_getElem _
      rw [prs j b _ _ ej h1 h2] at q
      cases q
      obtain ⟨x', y', e1, e2, e3⟩ := hG.pairs j b ej
      obtain ⟨u1, f1, r1⟩ := Vals.get rx h1
      obtain ⟨u2, f2, r2⟩ := Vals.get ry h2
      rw [List.getElem?_toArray] at e1 e2
      rw [f1] at e1
      rw [f2] at e2
      cases e1
      cases e2
      exact ⟨by show 2 ≤ sizeLine; decide, [x', y'], .cons r1 (.cons r2 .nil), ⟨_, e3, rfl, _, rfl⟩⟩
    · by_cases hb2 : b = S
      · rw [hb2] at q ⊢
        rw [eS] at q
        cases q
        refine ⟨by rw [List.length_map]; omega, acc.toList, c, by rw [hacc]; exact LiI.vals_refs as, ?_⟩
        rw [Array.toArray_toList]
        exact hS
      · rw [off b hb hb2] at q
        exact (I.hok b u q).stay (fun d v _ y => hk d v y) (fun d y => kp d _ y) fun d xs y => kp d _ y
theorem zip_apart {n l1 l2 : Nat} (h1 : l1 < n) (h2 : l2 < n) : ZipApart (n + 4) (n + 2) (n + 3) n (n + 1) l1 l2 := by
  constructor <;> (show ¬ ((_ : Nat) = _); omega)
/-- list(zip(a, b)) -/
theorem pe_listZip {K : PySem.W.Frag} (hK : X.K = K) (hc : X.calm = true) (hg : Gl X "list") (hm : X.mg "list" = none) (hg2 : Gl X "zip") (hm2 : X.mg "zip" = none) (ha : PE X e ta) (hb : PE X e2 tb)
    (hs : starEach [.Call (.Name "zip" p2) [e, e2] [] cpos] X.env = (false, eval (.Call (.Name "zip" p2) [e, e2] [] cpos) X.env) :: starEach [] X.env := by rfl)
    (hs2 : starEach [e, e2] X.env = (false, eval e X.env) :: starEach [e2] X.env := by rfl) (hs3 : starEach [e2] X.env = (false, eval e2 X.env) :: starEach [] X.env := by rfl) (hpl : (backTo cpos (starEach [e2] X.env)).any (·.1) = false := by rfl) :
    PE X (.Call (.Name "list" p) [.Call (.Name "zip" p2) [e, e2] [] cpos] [] pos) (tListZip K ta tb) := by
  subst hK
  refine ⟨fun pins s σ H Q I hq => ?_⟩
  refine wpAny_Call_Name_kw (ld_blt (u := .type "list") I hg hm (by decide +kernel) ?_)
  refine PyProof.Rows.callWith_type1 ?_ hs rfl
  rw [hs]
  show wpAny _ _ (spliced ((false, eval (.Call (.Name "zip" p2) [e, e2] [] cpos) X.env) :: backTo pos (starEach [] X.env))) _ _ s
  refine Calls.spliced_cons ?_
  refine wpAny_Call_Name_kw (ld_blt I hg2 hm2 PyProof.Rows.boot_zip ?_)
  refine PyProof.Rows.callWith_type1 ?_ hs2 hpl
  have args : PA X [e, e2] (tCons ta (tCons tb tNil)) := pa_cons ha (pa_cons hb pa_nil hs3) hs2
  refine thn (args.run cpos pins s σ H (fun vs H2 => match vs with | [x, y] => rListZip X.K x y H2 Q | _ => False) I hq) fun us s1 ⟨vs, H1, I1, r1, hv⟩ => ?_
  match vs, r1, hv with
  | [x, y], r1, ⟨l1, l2, xs, ys, ex, ey, h1, h2, hxy, h0, q⟩ =>
    subst ex ey
    cases r1 with
    | cons ra rr =>
      cases rr with
      | cons rb rn =>
        cases rn
        cases ra
        cases rb
        obtain ⟨it1, rv1, p1, z1⟩ := I1.list h1
        obtain ⟨it2, rv2, p2', z2⟩ := I1.list h2
        refine call_zip_2 p1.isList p2'.isList fun h5 a1 a2 a3 a4 a5 a6 a7 => ?_
        refine Calls.spliced_nil ?_
        have ll1 : l1 < s1.heap.objs.size := by obtain ⟨_, e, _⟩ := p1.isList; exact Heap.lt_size e
        have ll2 : l2 < s1.heap.objs.size := by obtain ⟨_, e, _⟩ := p2'.isList; exact Heap.lt_size e
        have D := zip_apart ll1 ll2
        have e1 : it1.toArray.size = xs.length := by rw [List.size_toArray]; exact (Paired.length rv1).symm
        have e2 : it2.toArray.size = ys.length := by rw [List.size_toArray]; exact (Paired.length rv2).symm
        refine ZpL.call_list_zip (s := { s1 with heap := h5 }) (I1.ok.hd hc) D (by rw [e1, e2, hxy]) (by rw [e1]; exact h0) (by rw [e1]; exact z1) a1
          (fun S hS => ⟨a2, a4, a5, p1.isList.at fun o e => a7 _ o e, p2'.isList.at fun o e => a7 _ o e, .inl ⟨rfl, a1, _, _, a3⟩⟩) fun h6 tk acc c as k6 hS6 hl6 hG6 hacc => ?_
        have old : ∀ b o, s1.heap.get? b = some o → h6.get? b = some o := fun b o e => by
          have lt : b < s1.heap.objs.size := Heap.lt_size e
          exact k6 b o (Nat.ne_of_lt (Nat.lt_add_right 4 lt)) (Nat.ne_of_lt (Nat.lt_add_right 3 lt)) (Nat.ne_of_lt lt) (Nat.ne_of_lt (Nat.lt_add_right 1 lt)) (a7 b o e)
        obtain ⟨H', g1, g2, g3, g4, g5, J⟩ := zip_laid (tk := tk) I1 rv1 rv2 hxy z1 old (by show s1.heap.objs.size ≤ h5.objs.size; rw [a6]; exact Nat.le_add_right _ _) hS6 hl6 hG6 hacc
        exact ⟨.ref _, H', J, rfl, q H' _ as g1 g2 g3 g4 g5⟩
end
end Rd

/-! ## dicts whose keys are tuples; while -/
namespace Rd
open PySem PySem.Spec L2 PyProof.Rows
theorem nst_dT {kvs : List (List Key × V)} : NotSt (.dT kvs) := fun _ _ _ _ h => nomatch h
section
variable {κ : Type} [DecidableEq κ]
theorem put_len (c : List (κ × V)) (k : κ) (x : V) : (putK c k x).length ≤ c.length + 1 := by
  unfold putK
  by_cases e : (c.any fun kv => decide (kv.1 = k)) = true
  · rw [if_pos e, List.length_map]
    omega
  · rw [if_neg e, List.length_append]
    simp
theorem put_mem {c : List (κ × V)} {k j : κ} {x : V} : j ∈ (putK c k x).map (·.1) ↔ j = k ∨ j ∈ c.map (·.1) := by
  have h : ∀ (l : List (κ × V)) (i : κ), i ∈ l.map (·.1) ↔ (valV l i).isSome = true := fun l i => by
    cases e : valV l i with
    | none => exact ⟨fun m => absurd m (valV_not e), fun q => (nomatch q)⟩
    | some v => exact ⟨fun _ => rfl, fun _ => valV_in e⟩
  rw [h, h, valV_put]
  by_cases c : j = k
  · rw [if_pos c]
    exact ⟨fun _ => .inl c, fun _ => rfl⟩
  · rw [if_neg c]
    exact ⟨fun q => .inr q, fun q => q.resolve_left c⟩
theorem val_mem {c : List (κ × V)} {k : κ} : (valV c k).isSome = true ↔ k ∈ c.map (·.1) := by
  cases e : valV c k with
  | none => exact ⟨fun q => (nomatch q), fun m => absurd m (valV_not e)⟩
  | some v => exact ⟨fun _ => valV_in e, fun _ => rfl⟩
end
section
variable {K : PySem.W.Frag} {σ : L2.St} {H : Hp} {Q : VK} {nn bb cc : L2.St → Hp → Prop} {rr : VK}
theorem r_dnewT (k : ∀ p, H p = none → Q (.ref p) (upd H p (.dT []))) : tDNewT σ H Q := k
theorem r_dnotin {ty td : TE} (k : ty σ H fun y H1 => td σ H1 fun x H2 => ∃ a o, x = .ref a ∧ DGet H2 a y o ∧ Q (.bl (!o.isSome)) H2) : tDNotIn ty td σ H Q := k
theorem r_dput {td ty tv : TE} (k : tv σ H fun v H1 => td σ H1 fun x H2 => ty σ H2 fun y H3 => ∃ a H4, x = .ref a ∧ DPut H3 a y v H4 ∧ nn σ H4) : sDPut td ty tv ⟨nn, rr, bb, cc⟩ σ H := k
theorem r_putA {a b : Addr} {kvs : List (List Key × V)} {k : List Key} {v : V} {R : Hp → Prop} (h : H a = some (.dT kvs)) (hb : H b = some (.tup (k.map kV))) (hl : kvs.length < sizeLine)
    (q : ∀ H', H' a = some (.dT (putK kvs k v)) → (∀ b o, b ≠ a → H b = some o → H' b = some o) → R H') : ∃ a' H4, V.ref a = .ref a' ∧ DPut H a' (.ref b) v H4 ∧ R H4 :=
  ⟨a, _, rfl, DPut.t h hb hl, q _ upd_same fun _ _ n e => at_wr n e⟩
theorem r_iTup {tl : TE} {R : It → Hp → Prop} (k : tl σ H fun x H1 => ∃ a, x = .ref a ∧ (∃ xs, SqT K H1 a xs) ∧ R (Itt K a) H1) : iTup K tl σ H R := k
def rListDT : List V → Hp → VK → Prop := fun xs H Q => ∃ d kvs, xs = [V.ref d] ∧ L2.Rd H d (.dT kvs) ∧ ∀ p bs, H p = none → IsKeys H kvs bs → Q (.ref p) (upd H p (.lst (bs.map V.ref)))
theorem kc_listDT {X : Cx} (hc : X.calm = true) : CallR X (.type "list") rListDT := call_list_dT hc
theorem r_listDT {d : Addr} {kvs : List (List Key × V)} (h : H d = some (.dT kvs)) (k : ∀ p bs, H p = none → IsKeys H kvs bs → Q (.ref p) (upd H p (.lst (bs.map V.ref)))) : rListDT [.ref d] H Q := ⟨d, kvs, rfl, .inl h, k⟩
theorem r_while {c : TT} {tb : TS} (W : Nat → L2.St → Hp → Prop) (m0 : Nat) (h0 : W m0 σ H)
    (hs : ∀ m σ H, W m σ H → c σ H fun b H1 => if b = true then ∃ N : L2.St → Hp → Prop, (∀ σ' H', N σ' H' → ∃ m', m' < m ∧ W m' σ' H') ∧ tb ⟨N, rr, nn, N⟩ σ H1 else nn σ H1) : tWhile c tb ⟨nn, rr, bb, cc⟩ σ H := ⟨W, ⟨m0, h0⟩, hs⟩
theorem kc_sorted {X : Cx} (h : X.K = K) : CallR X (.builtin "sorted") (rSorted K) := by subst h; exact cr_sorted
theorem r_sorted {a : Addr} {ns : List Int} (h : SqL K H a (ns.map V.int)) (hl : ns.length < 64) (k : ∀ (ns' : List Int) (p : Addr), ns'.Perm ns → ns'.Pairwise (· ≤ ·) → H p = none → Q (.ref p) (upd H p (.lst (ns'.map V.int)))) : rSorted K [.ref a] H Q := ⟨a, ns, rfl, h, hl, k⟩
/-- t + u, two tuples that aren't empty -/
theorem r_addT {a b : Addr} {xs ys : List V} (h1 : H a = some (.tup xs)) (h2 : H b = some (.tup ys)) (n1 : xs ≠ []) (n2 : ys ≠ []) (hl : xs.length + ys.length ≤ sizeLine) (k : ∀ p, H p = none → Q (.ref p) (upd H p (.tup (xs ++ ys)))) : rAddA K (.ref a) (.ref b) H Q :=
  .inr (.inr (.inr ⟨a, b, xs, ys, rfl, rfl, SqT.of h1, SqT.of h2, hl, fun e => absurd e n1, fun _ e => absurd e n2, fun _ _ => k⟩))
end
end Rd

/-! ## set(xs) of ints, xs a list or a tuple; sorted of it -/
namespace Rd
open PySem PySem.Spec L2 PyProof.Rows
/-- an empty set, as it is made -/
abbrev mtSet (w : World) : Obj := ⟨.type "set", none, .set #[] 0 (.fresh 0 0 (!w.params.followText "set-order")), #[]⟩
section
variable {P : Program} {w : World} {A : Around} {E : Value → Shared → Prop} {s : Shared}
set_option maxRecDepth 100000 in
set_option maxHeartbeats 3200000 in
theorem setL_raw {l : Addr} {its : Array Value} (ns : List Int) {Q : Value → Shared → Prop} (hh : A.handled = none) (pl : s.heap.IsList l its) (iv : IntsAre its.toList ns) (few : ns.length + 1 < scanBound)
    (q : ∀ (h2 : Heap) (tk c : Nat), SetR w h2 s.heap.objs.size (fun j => decide (j ∈ ns)) c → c ≤ ns.length → (∀ b o, s.heap.get? b = some o → h2.get? b = some o) → Q (.ref s.heap.objs.size) { s with heap := h2, toks := tk }) :
    wpAny (model P w) A (call (.type "set") [.ref l]) Q E s := by
  have many : its.size = ns.length := by have z := iv.length; rwa [Array.length_toList] at z
  obtain ⟨cc, tl, hmro⟩ := F.called_set.mro
  have g1 := F.called_set.made
  have g2 := F.called_set.sub
  refine wpAny_call (codeAny_of_tree ?_)
  show wpAny _ _ (callAny (.type "set") _) _ _ _
  refine wpAny_pure ⟨Code.quiet_builtin _ (by decide +kernel), codeAny_builtin F.entry_type_call ?_⟩
  rw [Around.under_plain (weight_type_call_type "set" [.ref l] []) rfl]
  have g3 := F.called_set.notType
  have g4 := F.called_set.canCreate
  have g5 := F.typeCall_set_1 (.ref l)
  repeat (any_goals (first | assumption | wp_step))
  refine codeAny_mono (code_set_led1 (.ref l) (E := E) (Q₁ := fun ob s₁ => ob = .ref s.heap.objs.size ∧ s₁ = { s with heap := s.heap.push (mtSet w) }) ⟨rfl, rfl⟩) fun r s₁ hr => ?_
  cases r with
  | error e => exact hr
  | ok fl =>
    cases fl with
    | ret ob =>
      obtain ⟨rfl, rfl⟩ := hr
      have at0 : (s.heap.push (mtSet w)).get? s.heap.objs.size = some (mtSet w) := Heap.get?_push_size _ rfl
      have ty0 : Shared.TypeIs { s with heap := s.heap.push (mtSet w) } (.ref s.heap.objs.size) "set" := ⟨_, at0, rfl⟩
      have g6 := F.called_set.init.lookup
      have g7 := F.called_set.init.bind (.ref s.heap.objs.size)
      repeat (any_goals (first | assumption | wp_step))
      refine codeAny_mono (codeAny_call_builtin (R := wants (fun r s₂ => r = .none ∧ ∃ h2 tk c, s₂ = { s with heap := h2, toks := tk } ∧ SetR w h2 s.heap.objs.size (fun j => decide (j ∈ ns)) c ∧ c ≤ ns.length ∧
          (∀ b o, s.heap.get? b = some o → h2.get? b = some o)) E) F.called_set.init.plain F.entry_set_init (check_set_init_1 ty0 ?_)) fun r₂ s₂ hr₂ => ?_
      · obtain ⟨ol, hol, hcl, nl, hdl⟩ := pl
        obtain ⟨ocls, odict, odata, oslots⟩ := ol
        simp only at hcl hdl
        subst hcl; subst hdl
        have pl1 : (s.heap.push (mtSet w)).IsList l its := ⟨_, Heap.get?_push_of_some _ hol, rfl, nl, rfl⟩
        have hol1 : (s.heap.push (mtSet w)).get? l = some ⟨.type "list", odict, .seq its nl, oslots⟩ := Heap.get?_push_of_some _ hol
        have k1 := F.sub_list_set
        have k2 := F.sub_list_frozenset
        have k3 : (Value.type "list" == Value.type "dict") = false := by decide
        unfold Builtin.«set.__init__» noKeywords Builtin.Frozenset.updateFrom
        generalize hPI : pyIter = PI
        wp_walk
        subst hPI
        refine wpAny_pyIter_list pl1 (wpAny_bind (wpAny_runValue ?_))
        have lt : l < s.heap.objs.size := Heap.lt_size hol
        have hh3 : A.in1.in1.in1.handled = none := by simp [hh]
        have sz : (s.heap.push (mtSet w)).objs.size = s.heap.objs.size + 1 := Heap.size_push ..
        have ne1 : l ≠ (s.heap.push (mtSet w)).objs.size := by
          rw [sz]
          exact Nat.ne_of_lt (Nat.lt_succ_of_lt lt)
        have out : s.heap.objs.size ∉ [(s.heap.push (mtSet w)).objs.size, l] := by
          rw [sz]
          simp only [List.mem_cons, List.not_mem_nil, or_false, not_or]
          exact ⟨Nat.ne_of_lt (Nat.lt_succ_self _), Nat.ne_of_gt lt⟩
        refine set_update_ints ((Walks.list hh3 _ l ne1 its).toS) s.heap.objs.size out ns many few (fun i v hv => ?_) (its.size - 0) 0 _ (by omega) (Nat.zero_le _)
          ⟨⟨_, Heap.get?_push_size _ rfl, rfl, rfl⟩, (pl1.push _)⟩ ⟨0, Nat.le_refl 0, setR_new_at (Heap.get?_push_of_some _ at0)⟩ fun s3 c3 mv le3 S3 => ?_
        · have hi : i < ns.length := by rw [← many]; exact (Array.getElem?_eq_some_iff.mp hv).1
          obtain ⟨t, e⟩ := iv.int_at i v (by rw [Array.getElem?_toList]; exact hv)
          exact ⟨ns[i], t, List.getElem?_eq_getElem hi, by rw [e, List.getD_eq_getElem?_getD, List.getElem?_eq_getElem hi] <;> rfl⟩
        · obtain ⟨h3, gg, dd, tt, oo⟩ := s3
          obtain rfl : gg = s.gens := mv.gens
          obtain rfl : dd = s.drawn := mv.drawn
          obtain rfl : oo = s.os := mv.os
          rw [many] at le3
          show wpAny _ _ _ _ _ _
          refine wpAny_pure ?_
          show wpAny _ _ (ret Value.none) _ _ _
          refine wpAny_pure ⟨rfl, h3, tt, c3, rfl, S3, le3, fun b o e => ?_⟩
          have b0 : b < s.heap.objs.size := Heap.lt_size e
          refine mv.heap b o ?_ (Heap.get?_push_of_some _ (Heap.get?_push_of_some _ e))
          rw [sz]
          simp only [List.mem_cons, List.not_mem_nil, or_false, not_or]
          exact ⟨Nat.ne_of_lt b0, Nat.ne_of_lt (Nat.lt_succ_of_lt b0)⟩
      · cases r₂ with
        | error e => exact hr₂
        | ok fl₂ =>
          cases fl₂ with
          | ret r =>
            obtain ⟨rfl, h3, tk, c3, rfl, S3, le3, kp⟩ := hr₂
            repeat (any_goals (first | assumption | wp_step))
            exact q _ _ _ S3 le3 kp
          | _ => exact hr₂.elim
    | _ => exact hr.elim
end
def rSetI (K : PySem.W.Frag) (w : World) : List V → Hp → VK → Prop := fun xs H Q => ∃ (l : Addr) (ns : List Int), xs = [.ref l] ∧ (SqL K H l (ns.map V.int) ∨ SqT K H l (ns.map V.int)) ∧ ns.length ≤ 1000 ∧
  ∀ (p : Addr) (c : Nat), H p = none → c ≤ ns.length → Q (.ref p) (upd H p (SetO w p (fun j => decide (j ∈ ns)) c))
theorem cr_setI {X : Cx} (hc : X.calm = true) : CallR X (.type "set") (rSetI X.K X.w) := by
  intro pins s σ H xs us Q I r h
  obtain ⟨l, ns, rfl, hq, hl, q⟩ := h
  rw [Vals.ref1 r]
  have few : ns.length + 1 < scanBound := by unfold scanBound; omega
  rcases hq with hq | hq
  · obtain ⟨its, rv, pl, hz⟩ := I.list hq
    refine setL_raw ns (I.ok.hd hc) pl.isList (by simpa using rv.ints) few fun h2 tk c hS le kp => ?_
    exact ⟨.ref s.heap.objs.size, _, I.laid (t' := tk) kp (Nat.le_refl _) (setO_new hS), rfl, q _ _ (I.hok.fresh (Nat.le_refl _)) le⟩
  · obtain ⟨its, rv, pl, hz⟩ := I.tuple hq
    refine call_set_tupI ns (I.ok.hd hc) pl (by simpa using rv.ints) few fun h2 tk c hS le kp => ?_
    exact ⟨.ref s.heap.objs.size, _, I.laid (t' := tk) kp (Nat.le_refl _) (setO_new hS), rfl, q _ _ (I.hok.fresh (Nat.le_refl _)) le⟩
section
variable {X : Cx} {K : PySem.W.Frag} {w : World} {H : Hp} {Q : VK}
theorem kc_setI (h : X.K = K) (hw : X.w = w) (hc : X.calm = true) : CallR X (.type "set") (rSetI K w) := by subst h; subst hw; exact cr_setI hc
theorem r_setI {l : Addr} {ns : List Int} (h : SqL K H l (ns.map V.int) ∨ SqT K H l (ns.map V.int)) (hl : ns.length ≤ 1000) (k : ∀ (p : Addr) (c : Nat), H p = none → c ≤ ns.length → Q (.ref p) (upd H p (SetO w p (fun j => decide (j ∈ ns)) c))) : rSetI K w [.ref l] H Q := ⟨l, ns, rfl, h, hl, k⟩
theorem kc_sortedS (hw : X.w = w) (hc : X.calm = true) : CallR X (.builtin "sorted") (rSortedSet w) := by subst hw; exact cr_sortedSet hc
/-- sorted(set(ns)): rising, the same members -/
theorem r_sortedS {a : Addr} {ns : List Int} {c : Nat} (h : H a = some (SetO w a (fun j => decide (j ∈ ns)) c)) (hc : c < 64) (k : ∀ (ms : List Int) (p : Addr), ms.Pairwise (· < ·) → (∀ i, i ∈ ms ↔ i ∈ ns) → ms.length = c → H p = none → Q (.ref p) (upd H p (.lst (ms.map V.int)))) : rSortedSet w [.ref a] H Q :=
  ⟨a, _, c, rfl, h, hc, fun ms p h1 h2 h3 h4 => k ms p h1 (fun i => by rw [h2]; exact decide_eq_true_iff) h3 h4⟩
end
end Rd

/-! ## an own class: its methods by name, its making -/
namespace Rd
open PySem PySem.Spec PyProof.Rows L2
/-- the method m of the class at C keeps the promise sp -/
structure HasM (P : Program) (w : World) (K : PySem.W.Frag) (mg : Str → Option Value) (base : Heap) (CX : CXT) (C : Addr) (k : Nat) (m : Str) (sp : Sp) : Prop where
  ex : ∃ (f : Addr) (fd : FuncData) (ps : List Str), FnOk P w K mg base CX k f fd ps sp ∧ Meth K C m f ∧ Binds K fd ps []
/-- the class at C is made by an __init__ that keeps the promise sp -/
structure HasMk (P : Program) (w : World) (K : PySem.W.Frag) (mg : Str → Option Value) (base : Heap) (CX : CXT) (C : Addr) (k : Nat) (x : Str) (sp : Sp) : Prop where
  ex : ∃ (f : Addr) (fd : FuncData) (ps : List Str), FnOk P w K mg base CX k f fd ps sp ∧ Mk K C f ∧ Binds K fd ps [] ∧ mg x = some (.ref C)
/-- the def st of the class's text stands at its name m -/
structure MethAt (K : PySem.W.Frag) (C : Addr) (m q : Str) (st : Stmt) : Prop where
  ex : ∃ (f : Addr) (fd : FuncData), Fun K m q st f fd ∧ PySem.W.findIn K (.ref C) m = some (some (.ref f)) ∧ PySem.W.isFn K (.ref f) = true
/-- c is the code object of the method, Pt that one's table -/
structure MethTab (K : PySem.W.Frag) (C : Addr) (m q : Str) (st : Stmt) (c Pt : Addr) : Prop where
  ex : ∃ (f : Addr) (oc : Value) (od an : Option Addr) (kV doc pm ct : Value) (osl : Array (Option Value)),
    K.lookup f = some ⟨oc, od, .func (PySem.W.fnOf m q (defArgs st) (defBody st) (defScope st) .none kV doc pm an (.ref c) ct), osl⟩ ∧ PySem.W.codeIn K (.ref c) q = true ∧ Meth K C m f
section
variable {P : Program} {w : World} {K : PySem.W.Frag} {mg : Str → Option Value} {base : Heap}
theorem HasM.mono {CX : CXT} {C : Addr} {m : Str} {sp : Sp} {j k : Nat} (h : HasM P w K mg base CX C j m sp) (i : j ≤ k) : HasM P w K mg base CX C k m sp := by
  obtain ⟨f, fd, ps, F, r⟩ := h.ex
  exact ⟨f, fd, ps, F.mono i, r⟩
theorem MethAt.ok {C : Addr} {m q : Str} {st : Stmt} {N ps : List Str} {k : Nat} {sp : Sp} (F : MethAt K C m q st) (S : FnScope N ps (defScope st)) (bo : BindOkQ m q st ps) (len : ∀ vs H Q E, sp vs H Q E → vs.length = ps.length)
    (hbody : ∀ (f : Addr) (cdv : Value) (A : Around) (outer : List Env) (s : Shared) (H : Hp) (vs : List V) (Q : VK) (E : XK), Room k (A.deeper (envOfC q (defScope st) s.heap.objs.size f cdv)) → sp vs H Q E →
      ∃ t, PSs (cxOf CX0 P w K mg base N q (defScope st) f cdv A outer s H E).nox (defBody st) t ∧ t { nx := fun _ H' => Q .non H', rt := Q } (start N vs) H) : HasM P w K mg base CX0 C (k + 1) m sp := by
  obtain ⟨f, fd, F, at_, fn⟩ := F.ex
  exact ⟨f, fd, ps, F.ok S len fun cdv A outer s H vs Q E hr h => hbody f cdv A outer s H vs Q E hr h, ⟨at_, fn, F.kp⟩, F.binds bo⟩
theorem MethAt.make {C : Addr} {q : Str} {x : Str} {st : Stmt} {N ps : List Str} {k : Nat} {sp : Sp} (F : MethAt K C "__init__" q st) (hm : mg x = some (.ref C)) (mk : PySem.W.makesIn K C = true) (kC : PySem.W.keepIn K (.ref C) = true) (S : FnScope N ps (defScope st)) (bo : BindOkQ "__init__" q st ps) (len : ∀ vs H Q E, sp vs H Q E → vs.length = ps.length)
    (hbody : ∀ (f : Addr) (cdv : Value) (A : Around) (outer : List Env) (s : Shared) (H : Hp) (vs : List V) (Q : VK) (E : XK), Room k (A.deeper (envOfC q (defScope st) s.heap.objs.size f cdv)) → sp vs H Q E →
      ∃ t, PSs (cxOf CX0 P w K mg base N q (defScope st) f cdv A outer s H E).nox (defBody st) t ∧ t { nx := fun _ H' => Q .non H', rt := Q } (start N vs) H) : HasMk P w K mg base CX0 C (k + 1) x sp := by
  obtain ⟨f, fd, F, at_, fn⟩ := F.ex
  exact ⟨f, fd, ps, F.ok S len fun cdv A outer s H vs Q E hr h => hbody f cdv A outer s H vs Q E hr h, ⟨mk, at_, fn, kC⟩, F.binds bo, hm⟩
theorem MethTab.ok {C : Addr} {m q : Str} {st : Stmt} {N ps : List Str} {k : Nat} {sp : Sp} {c Pt : Addr} (F : MethTab K C m q st c Pt) (S : FnScope N ps (defScope st)) (bo : BindOkQ m q st ps) (len : ∀ vs H Q E, sp vs H Q E → vs.length = ps.length)
    (hbody : ∀ (f : Addr) (A : Around) (outer : List Env) (s : Shared) (H : Hp) (vs : List V) (Q : VK) (E : XK), Room k (A.deeper (envOfC q (defScope st) s.heap.objs.size f (.ref c))) → sp vs H Q E →
      ∃ t, PSs (cxOf L2.CX0 P w K mg base N q (defScope st) f (.ref c) A outer s H E).nox (defBody st) t ∧ t { nx := fun _ H' => Q .non H', rt := Q } (L2.start N vs) H) : HasM P w K mg base L2.CX0 C (k + 1) m sp := by
  obtain ⟨f, oc, od, an, kV, doc, pm, ct, osl, lk, hcd, hm⟩ := F.ex
  refine ⟨f, _, ps, fn_of lk hcd S len fun A outer s H vs Q E hr hsp => ?_, hm, Binds.all (bo kV doc pm an (.ref c) ct)⟩
  obtain ⟨t, h, q⟩ := hbody f A outer s H vs Q E hr hsp
  exact ⟨t, h.nox, q⟩
theorem MethAt.mk' {C f : Addr} {m q : Str} {st : Stmt} {oc : Value} {od an : Option Addr} {osl : Array (Option Value)} {kV doc pm cdv ct : Value} (a : PySem.W.findIn K (.ref C) m = some (some (.ref f))) (i : PySem.W.isFn K (.ref f) = true)
    (l : K.lookup f = some ⟨oc, od, .func (PySem.W.fnOf m q (defArgs st) (defBody st) (defScope st) .none kV doc pm an cdv ct), osl⟩) (c : PySem.W.codeIn K cdv q = true) (k : PySem.W.keepIn K (.ref f) = true) : MethAt K C m q st := ⟨f, _, fun_mk l c k, a, i⟩
/-- an address; a function's data; a record's row -/
def asRef : Value → Option Addr
  | .ref a => some a
  | _ => none
def asFn (o : Obj) : Option FuncData := match o.data with
  | .func d => some d
  | _ => none
def asRow (o : Obj) : Array Value := match o.data with
  | .fields r => r
  | _ => #[]
theorem asRef_some {v : Value} {a : Addr} (h : asRef v = some a) : v = .ref a := by
  cases v <;> simp [asRef] at h
  rw [h]
/-- the code object of the def at f, and its table -/
def tabFn (K : PySem.W.Frag) (f : Addr) : Option (Addr × Addr) :=
  ((K.lookup f).bind asFn).bind fun d => (asRef d.code).bind fun c => ((K.lookup c).bind fun o => (asRow o)[11]?.bind asRef).map fun t => (c, t)
theorem tabFn_code {K : PySem.W.Frag} {f c Pt : Addr} {oc : Value} {od : Option Addr} {fd : FuncData} {osl : Array (Option Value)} (l : K.lookup f = some ⟨oc, od, .func fd, osl⟩) (t : tabFn K f = some (c, Pt)) : fd.code = .ref c := by
  obtain ⟨d, hd, h1⟩ := Option.bind_eq_some_iff.mp t
  rw [l] at hd
  obtain ⟨k, hk, h2⟩ := Option.bind_eq_some_iff.mp h1
  obtain ⟨_, _, e⟩ := Option.map_eq_some_iff.mp h2
  have ek : k = c := congrArg Prod.fst e
  cases (show some fd = some d from hd)
  rw [asRef_some hk, ek]
theorem MethTab.mk' {C f c Pt : Addr} {m q : Str} {st : Stmt} {oc : Value} {od an : Option Addr} {osl : Array (Option Value)} {kV doc pm cdv ct : Value} (a : PySem.W.findIn K (.ref C) m = some (some (.ref f))) (i : PySem.W.isFn K (.ref f) = true)
    (l : K.lookup f = some ⟨oc, od, .func (PySem.W.fnOf m q (defArgs st) (defBody st) (defScope st) .none kV doc pm an cdv ct), osl⟩) (cc : PySem.W.codeIn K cdv q = true) (k : PySem.W.keepIn K (.ref f) = true) (t : tabFn K f = some (c, Pt)) : MethTab K C m q st c Pt := by
  have e : cdv = .ref c := tabFn_code l t
  subst e
  exact ⟨f, oc, od, an, kV, doc, pm, ct, osl, l, cc, a, i, k⟩
end
section
variable {X : Cx} {CX : CXT} {k j : Nat} {C : Addr} {sp : Sp} {E : XK} {m x : Str} {p pos apos : Pos} {o e : Expr} {es : List Expr} {to : TE} {t : TA} {pl : Sem Bool}
theorem pe_hasM (h : HasM X.prog X.w X.K X.mg X.base CX C k m sp) (cl : Cls X.K C) (hr : Room j X.A) (hk : k ≤ j) (ho : PE X o to) (hx : Passes CX X E) (ha : PA X (e :: es) t)
    (hst : starEach (e :: es) X.env = (false, eval e X.env) :: starEach es X.env := by rfl) (hpl : (backTo pos (starEach es X.env)).any (·.1) = false := by rfl)
    (ht : eval (.Call (.Attribute o m apos) (e :: es) [] pos) X.env = (do
      let ov ← eval o X.env
      standAt apos.atName
      let (f, first) ← holding [ov] (getMethod ov m pl)
      callWith pos f first (backTo pos (starEach (e :: es) X.env)) (backToKw pos (keywordEach [] X.env))) := by rfl) :
    PE X (.Call (.Attribute o m apos) (e :: es) [] pos) (tMeth C m sp [] E to t) := by
  obtain ⟨f, fd, ps, F, hm, b⟩ := h.ex
  exact pe_meth ho cl hm F (hr.mono hk) b .nil hx ha hst hpl ht
theorem pe_hasM0 (h : HasM X.prog X.w X.K X.mg X.base CX C k m sp) (cl : Cls X.K C) (hr : Room j X.A) (hk : k ≤ j) (ho : PE X o to) (hx : Passes CX X E)
    (ht : eval (.Call (.Attribute o m apos) [] [] pos) X.env = (do
      let ov ← eval o X.env
      standAt apos.atName
      let (f, first) ← holding [ov] (getMethod ov m pl)
      callWith pos f first (backTo pos (starEach [] X.env)) (backToKw pos (keywordEach [] X.env))) := by rfl) :
    PE X (.Call (.Attribute o m apos) [] [] pos) (tMeth C m sp [] E to tNil) := by
  obtain ⟨f, fd, ps, F, hm, b⟩ := h.ex
  exact pe_meth0 ho cl hm F (hr.mono hk) b .nil hx ht
theorem pe_hasMk (h : HasMk X.prog X.w X.K X.mg X.base CX C k x sp) (hr : Room j X.A) (hk : k + 1 ≤ j) (hg : Gl X x) (hx : Passes CX X E) (ha : PA X (e :: es) t)
    (hdb : (x == ("__debug__" : Str)) = false := by decide) (he : starEach (e :: es) X.env = (false, eval e X.env) :: starEach es X.env := by rfl) (hpl : (backTo pos (starEach es X.env)).any (·.1) = false := by rfl) :
    PE X (.Call (.Name x p) (e :: es) [] pos) (tMake C sp [] E t) := by
  obtain ⟨f, fd, ps, F, M, b, hm⟩ := h.ex
  exact pe_make M F (hr.mono hk) hg hm b .nil hx ha hdb he hpl
theorem kpe_fld {K : PySem.W.Frag} {f : Str} (hK : X.K = K) (he : PE X e to) (hb : attributeBase e f X.env (eval e X.env) = eval e X.env := by rfl) : PE X (.Attribute e f pos) (tFld K to f) := by subst hK; exact pe_fld he hb
theorem kps_fld {K : PySem.W.Frag} {f : Str} {value : Expr} {tv : TE} {pos' : Pos} (hK : X.K = K) (ha : PE X o to) (hv : PE X value tv) (hs : swapsWith value (some (.Attribute o f pos')) pos.line X.env = pure false := by rfl) : PS X (.Assign [.Attribute o f pos'] value pos) (sFld K to tv f) := by subst hK; exact ps_fld ha hv hs
end
section
variable {K : PySem.W.Frag} {σ : L2.St} {H : Hp} {Q : VK} {nn bb cc : L2.St → Hp → Prop} {rr : VK} {C : Addr} {sp : Sp} {E : XK} {m f : Str} {to tv : TE} {t : TA}
theorem r_meth (k : to σ H fun x H1 => ∃ a dx fs, x = .ref a ∧ H1 a = some (.ins C dx fs) ∧ fs.lookup m = none ∧ t σ H1 fun vs H2 => sp (x :: vs) H2 Q E) : tMeth C m sp [] E to t σ H Q := by
  have e : (fun x (H1 : Hp) => ∃ a dx fs, x = V.ref a ∧ H1 a = some (.ins C dx fs) ∧ fs.lookup m = none ∧ t σ H1 fun vs H2 => sp (x :: (vs ++ [])) H2 Q E) = fun x H1 => ∃ a dx fs, x = V.ref a ∧ H1 a = some (.ins C dx fs) ∧ fs.lookup m = none ∧ t σ H1 fun vs H2 => sp (x :: vs) H2 Q E := by
    funext x H1
    simp only [List.append_nil]
  show to σ H fun x H1 => ∃ a dx fs, x = V.ref a ∧ H1 a = some (.ins C dx fs) ∧ fs.lookup m = none ∧ t σ H1 fun vs H2 => sp (x :: (vs ++ [])) H2 Q E
  rw [e]
  exact k
theorem r_make (k : t σ H fun vs H1 => ∀ x dx, H1 x = none → H1 dx = none → dx ≠ x → sp (.ref x :: vs) (upd (upd H1 dx (.own x)) x (.ins C dx [])) (fun v H2 => v = .non ∧ Q (.ref x) H2) E) : tMake C sp [] E t σ H Q := by
  have e : (fun vs (H1 : Hp) => ∀ x dx, H1 x = none → H1 dx = none → dx ≠ x → sp (.ref x :: (vs ++ [])) (upd (upd H1 dx (.own x)) x (.ins C dx [])) (fun v H2 => v = .non ∧ Q (.ref x) H2) E) = fun vs H1 => ∀ x dx, H1 x = none → H1 dx = none → dx ≠ x → sp (.ref x :: vs) (upd (upd H1 dx (.own x)) x (.ins C dx [])) (fun v H2 => v = .non ∧ Q (.ref x) H2) E := by
    funext vs H1
    simp only [List.append_nil]
  show t σ H fun vs H1 => ∀ x dx, H1 x = none → H1 dx = none → dx ≠ x → sp (.ref x :: (vs ++ [])) (upd (upd H1 dx (.own x)) x (.ins C dx [])) (fun v H2 => v = .non ∧ Q (.ref x) H2) E
  rw [e]
  exact k
theorem r_fld (k : to σ H fun x H1 => ∃ a C dx fs v, x = .ref a ∧ H1 a = some (.ins C dx fs) ∧ Cls K C ∧ NoAttr K C f ∧ fs.lookup f = some v ∧ Q v H1) : tFld K to f σ H Q := k
theorem r_setFld (k : tv σ H fun y H1 => to σ H1 fun x H2 => ∃ a C dx fs, x = .ref a ∧ H2 a = some (.ins C dx fs) ∧ Cls K C ∧ NoAttr K C f ∧ fs.length < 1000 ∧ nn σ (upd H2 a (.ins C dx (putF f y fs)))) : sFld K to tv f ⟨nn, rr, bb, cc⟩ σ H := k
theorem inV_bls (n : Bool) : ∀ ns : List Bool, inV (.bl n) (ns.map V.bl) = decide (n ∈ ns)
  | [] => by simp [inV]
  | a :: r => by
    have ih := inV_bls n r
    unfold inV at ih ⊢
    rw [List.map_cons, List.any_cons, ih]
    have e : eqV (.bl a) (.bl n) = decide (n = a) := by cases a <;> cases n <;> rfl
    simp [e, List.mem_cons]
theorem flat_bls (ns : List Bool) : (ns.map V.bl).all flatV = true := by
  rw [List.all_map]
  exact List.all_eq_true.mpr fun _ _ => rfl
theorem r_notInB {a : Addr} {n : Bool} {ns : List Bool} (h : SqL K H a (ns.map V.bl)) (k : Q (.bl (!decide (n ∈ ns))) H) : rIn K true (.bl n) (.ref a) H Q := ⟨a, _, rfl, .inl h, rfl, flat_bls ns, by rw [inV_bls]; exact k⟩
end
section
variable {g : TG} {tt : TT} {te : TE} {vs : List Nat} {σ σw : L2.St} {Q : VK} {D : Addr} {H1 : Hp}
theorem lcw_tup {K : PySem.W.Frag} {a : Addr} {xs : List V} (Pv : Nat → Hp → Prop) (hw : wipe σ vs = σw) (h0 : Pv 0 (upd H1 D (.lst []))) (hl : ∀ i H, i ≤ xs.length → Pv i H → SqT K H a xs)
    (hs : ∀ i x H, xs[i]? = some x → Pv i H → g x σw H fun σ2 H2 => wipe σ2 vs = σw ∧ tt σ2 H2 fun b H3 =>
      if b = true then te σ2 H3 fun y H4 => ∃ acc, H4 D = some (.lst acc) ∧ acc.length < sizeLine ∧ Pv (i + 1) (upd H4 D (.lst (acc ++ [y]))) else Pv (i + 1) H3) (hd : ∀ H, Pv xs.length H → Q (.ref D) H) : LcW (Itt K a) g tt te vs σ Q D H1 := by
  subst hw
  exact lc_tup Pv h0 hl hs hd
end
end Rd

/-! ## max of a list of lists of ints, min of a list of (int, list of ints) -/
namespace Rd
open PySem PySem.Spec L2 PyProof.Rows
/-- lists as they ascend -/
def ltL : List Int → List Int → Bool
  | [], [] => false
  | [], _ :: _ => true
  | _ :: _, [] => false
  | x :: xs, y :: ys => if x = y then ltL xs ys else decide (x < y)
theorem ltL_irrefl : ∀ a : List Int, ltL a a = false
  | [] => rfl
  | x :: xs => by
    rw [ltL, if_pos rfl]
    exact ltL_irrefl xs
theorem ltL_asym : ∀ a b : List Int, ltL a b = true → ltL b a = false
  | [], [], h => by cases h
  | [], _ :: _, _ => rfl
  | _ :: _, [], h => by cases h
  | x :: xs, y :: ys, h => by
    rw [ltL] at h ⊢
    by_cases e : x = y
    · rw [if_pos e] at h
      rw [if_pos e.symm]
      exact ltL_asym xs ys h
    · rw [if_neg e] at h
      rw [if_neg (Ne.symm e)]
      have := of_decide_eq_true h
      exact decide_eq_false (by omega)
theorem ltL_tri : ∀ a b : List Int, ltL a b = false → ltL b a = false → a = b
  | [], [], _, _ => rfl
  | [], _ :: _, h, _ => by cases h
  | _ :: _, [], _, h => by cases h
  | x :: xs, y :: ys, h, k => by
    rw [ltL] at h k
    by_cases e : x = y
    · rw [if_pos e] at h
      rw [if_pos e.symm] at k
      rw [e, ltL_tri xs ys h k]
    · rw [if_neg e] at h
      rw [if_neg (Ne.symm e)] at k
      have a := of_decide_eq_false h
      have b := of_decide_eq_false k
      omega
theorem ltL_trans : ∀ a b c : List Int, ltL a b = true → ltL b c = true → ltL a c = true
  | [], [], _, h, _ => by cases h
  | [], _ :: _, [], _, k => by cases k
  | [], _ :: _, _ :: _, _, _ => rfl
  | _ :: _, [], _, h, _ => by cases h
  | _ :: _, _ :: _, [], _, k => by cases k
  | x :: xs, y :: ys, z :: zs, h, k => by
    rw [ltL] at h k ⊢
    by_cases e : x = y
    · rw [if_pos e] at h
      by_cases f : y = z
      · rw [if_pos f] at k
        rw [if_pos (e.trans f)]
        exact ltL_trans xs ys zs h k
      · rw [if_neg f] at k
        rw [if_neg (by rw [e]; exact f), e]
        exact k
    · rw [if_neg e] at h
      have a := of_decide_eq_true h
      by_cases f : y = z
      · rw [if_neg (by rw [← f]; exact e), ← f]
        exact h
      · rw [if_neg f] at k
        have b := of_decide_eq_true k
        rw [if_neg (by omega)]
        exact decide_eq_true (by omega)
/-- not less, turned around, goes on -/
theorem ltL_le_trans {a b c : List Int} (h : ltL b a = false) (k : ltL c b = false) : ltL c a = false := by
  cases e : ltL c a with
  | false => rfl
  | true =>
    cases f : ltL a b with
    | true => rw [ltL_trans c a b e f] at k; cases k
    | false =>
      rw [ltL_tri a b f h] at e
      rw [e] at k
      cases k
theorem firstLt_map (e r : Nat → Bool) (fin : Bool) (f : Nat → Nat) : ∀ l : List Nat, SeqAt.firstLt e r fin (l.map f) = SeqAt.firstLt (fun j => e (f j)) (fun j => r (f j)) fin l
  | [] => rfl
  | j :: t => by
    rw [List.map_cons, SeqAt.firstLt, SeqAt.firstLt, firstLt_map e r fin f t]
theorem firstLt_gt : ∀ a b : List Int, SeqAt.firstLt (fun j => decide (a.getD j 0 = b.getD j 0)) (fun j => decide (b.getD j 0 < a.getD j 0)) (decide (a.length > b.length)) (List.range (min a.length b.length)) = ltL b a
  | [], [] => rfl
  | [], _ :: _ => rfl
  | _ :: xs, [] => by
    rw [ltL]
    show decide (xs.length + 1 > 0) = true
    exact decide_eq_true (Nat.succ_pos _)
  | x :: xs, y :: ys => by
    have ih := firstLt_gt xs ys
    rw [ltL]
    rw [List.length_cons, List.length_cons, Nat.succ_min_succ, List.range_succ_eq_map, SeqAt.firstLt]
    rw [firstLt_map]
    show (if decide (x = y) = true then SeqAt.firstLt (fun j => decide (xs.getD j 0 = ys.getD j 0)) (fun j => decide (ys.getD j 0 < xs.getD j 0)) (decide (xs.length + 1 > ys.length + 1)) (List.range (min xs.length ys.length)) else decide (y < x)) = _
    rw [show decide (xs.length + 1 > ys.length + 1) = decide (xs.length > ys.length) from decide_eq_decide.mpr (by omega), ih]
    by_cases e : x = y
    · rw [if_pos (decide_eq_true e), if_pos e.symm]
    · rw [if_neg (by rw [decide_eq_true_eq]; exact e), if_neg (Ne.symm e)]
theorem firstLt_lt (a b : List Int) : SeqAt.firstLt (fun j => decide (a.getD j 0 = b.getD j 0)) (fun j => decide (a.getD j 0 < b.getD j 0)) (decide (a.length < b.length)) (List.range (min a.length b.length)) = ltL a b := by
  have h := firstLt_gt b a
  rw [Nat.min_comm, ← h]
  congr 1
  funext j
  exact decide_eq_decide.mpr ⟨Eq.symm, Eq.symm⟩
theorem beq_dec (a b : Int) : (a == b) = decide (a = b) := by
  by_cases q : a = b
  · rw [decide_eq_true q]; exact beq_iff_eq.mpr q
  · rw [decide_eq_false q]; exact beq_eq_false_iff_ne.mpr q
section
variable {A : Around} {s : Shared} {t u : Addr} {its its2 : List Value} {a b : List Int}
theorem ints_gt (hl : s.heap.IsList t its.toArray) (hb : s.heap.IsList u its2.toArray) (i1 : IntsAre its a) (i2 : IntsAre its2 b) (hu : A.units < cLine) : SeqAt.RcOp .Gt A s (.ref t) (.ref u) (ltL b a) := by
  have e1 : its.toArray.size = a.length := by rw [List.size_toArray]; exact i1.length
  have e2 : its2.toArray.size = b.length := by rw [List.size_toArray]; exact i2.length
  have at1 : ∀ j (h1 : j < its.toArray.size), ∃ t, its.toArray[j] = .int (a.getD j 0) t := fun j h1 => PyProof.Rows.IntsAre.int_at i1 _ _ (by simp at h1; simp [h1])
  have at2 : ∀ j (h1 : j < its2.toArray.size), ∃ t, its2.toArray[j] = .int (b.getD j 0) t := fun j h1 => PyProof.Rows.IntsAre.int_at i2 _ _ (by simp at h1; simp [h1])
  have R := SeqAt.RcOp.lists_gt (A := A) (s := s) (e := fun j => decide (a.getD j 0 = b.getD j 0)) (r := fun j => decide (b.getD j 0 < a.getD j 0)) hl hb hu (fun j h1 h2 => by
    obtain ⟨t, et⟩ := at1 j h1
    obtain ⟨t', et'⟩ := at2 j h2
    rw [et, et', ← beq_dec]
    exact SeqAt.EqAt.int_int _ _ _ _) (fun j h1 h2 _ => by
    obtain ⟨t, et⟩ := at1 j h1
    obtain ⟨t', et'⟩ := at2 j h2
    rw [et, et']
    exact fun _ _ _ _ h => PyProof.Rows.gt_int h)
  rw [e1, e2, firstLt_gt] at R
  exact R
theorem ints_lt (hl : s.heap.IsList t its.toArray) (hb : s.heap.IsList u its2.toArray) (i1 : IntsAre its a) (i2 : IntsAre its2 b) (hu : A.units < cLine) : SeqAt.RcLt A s (.ref t) (.ref u) (ltL a b) := by
  have e1 : its.toArray.size = a.length := by rw [List.size_toArray]; exact i1.length
  have e2 : its2.toArray.size = b.length := by rw [List.size_toArray]; exact i2.length
  have at1 : ∀ j (h1 : j < its.toArray.size), ∃ t, its.toArray[j] = .int (a.getD j 0) t := fun j h1 => PyProof.Rows.IntsAre.int_at i1 _ _ (by simp at h1; simp [h1])
  have at2 : ∀ j (h1 : j < its2.toArray.size), ∃ t, its2.toArray[j] = .int (b.getD j 0) t := fun j h1 => PyProof.Rows.IntsAre.int_at i2 _ _ (by simp at h1; simp [h1])
  have R := SeqAt.RcLt.lists (A := A) (s := s) (e := fun j => decide (a.getD j 0 = b.getD j 0)) (r := fun j => decide (a.getD j 0 < b.getD j 0)) hl hb hu (fun j h1 h2 => by
    obtain ⟨t, et⟩ := at1 j h1
    obtain ⟨t', et'⟩ := at2 j h2
    rw [et, et', ← beq_dec]
    exact SeqAt.EqAt.int_int _ _ _ _) (fun j h1 h2 _ => by
    obtain ⟨t, et⟩ := at1 j h1
    obtain ⟨t', et'⟩ := at2 j h2
    rw [et, et']
    exact fun _ _ _ _ h => PyProof.Rows.lt_int h)
  rw [e1, e2, firstLt_lt] at R
  exact R
end
/-- the first of the best by an order whose «not less» goes on -/
theorem argBest_le {lt : Nat → Nat → Bool} (as : ∀ i j, lt i j = true → lt j i = false) (tr : ∀ i j k, lt j i = false → lt k j = false → lt k i = false) : ∀ k, argBest lt k ≤ k ∧ ∀ j, j ≤ k → lt j (argBest lt k) = false
  | 0 => ⟨Nat.le_refl _, fun j hj => by
    have e : j = 0 := by omega
    subst e
    cases h : lt 0 0 with
    | false => exact h
    | true => exact absurd (as 0 0 h) (by rw [h]; exact Bool.noConfusion)⟩
  | k + 1 => by
    obtain ⟨h1, h2⟩ := argBest_le as tr k
    simp only [argBest]
    have self : ∀ i, lt i i = false := fun i => by
      cases h : lt i i with
      | false => rfl
      | true => rw [as i i h] at h; cases h
    cases hc : lt (k + 1) (argBest lt k) with
    | true =>
      rw [if_pos rfl]
      refine ⟨Nat.le_refl _, fun j hj => ?_⟩
      rcases Nat.lt_or_ge j (k + 1) with hlt | hge
      · exact tr _ _ _ (as _ _ hc) (h2 j (by omega))
      · have : j = k + 1 := by omega
        rw [this]
        exact self _
    | false =>
      rw [if_neg Bool.false_ne_true]
      refine ⟨by omega, fun j hj => ?_⟩
      rcases Nat.lt_or_ge j (k + 1) with hlt | hge
      · exact h2 j (by omega)
      · have : j = k + 1 := by omega
        rw [this]
        exact hc
/-! ### the rules -/
/-- lists of ints at the addresses as, by number -/
def Rows (H : Hp) (as : List Addr) (rows : List (List Int)) : Prop := as.length = rows.length ∧ ∀ (i : Nat) (a : Addr) (row : List Int), as[i]? = some a → rows[i]? = some row → H a = some (.lst (row.map V.int))
def rMaxLL (K : PySem.W.Frag) (vs : List V) (H : Hp) (Q : VK) : Prop := ∃ (l : Addr) (as : List Addr) (rows : List (List Int)), vs = [.ref l] ∧ SqL K H l (as.map V.ref) ∧ Rows H as rows ∧ 0 < rows.length ∧
  ∀ (i : Nat) (a : Addr) (row : List Int), as[i]? = some a → rows[i]? = some row → (∀ r ∈ rows, ltL row r = false) → Q (.ref a) H
/-- pairs of a number and a list of ints at the addresses ts -/
def NRows (H : Hp) (ts : List Addr) (as : List Addr) (rows : List (Int × List Int)) : Prop := ts.length = rows.length ∧ as.length = rows.length ∧ ∀ (i : Nat) (t a : Addr) (row : Int × List Int), ts[i]? = some t → as[i]? = some a → rows[i]? = some row →
  H t = some (.tup [.int row.1, .ref a]) ∧ H a = some (.lst (row.2.map V.int))
def rMinTL (K : PySem.W.Frag) (vs : List V) (H : Hp) (Q : VK) : Prop := ∃ (l : Addr) (ts as : List Addr) (rows : List (Int × List Int)), vs = [.ref l] ∧ SqL K H l (ts.map V.ref) ∧ NRows H ts as rows ∧ 0 < rows.length ∧
  ∀ (i : Nat) (t : Addr) (row : Int × List Int), ts[i]? = some t → rows[i]? = some row → (∀ r ∈ rows, ltL (r.1 :: r.2) (row.1 :: row.2) = false) → Q (.ref t) H
theorem map_ref_at {as : List Addr} {its : List Value} {i : Nat} {a : Addr} (r : Vals (as.map V.ref) its) (h : as[i]? = some a) : its[i]? = some (.ref a) := by
  obtain ⟨u, h1, h2⟩ := Vals.get r (i := i) (x := .ref a) (by rw [List.getElem?_map, h] <;> rfl)
  rw [h1, show u = Value.ref a from h2]
theorem eqv_ints : ∀ a b : List Int, PyData.eqv (dInts a) (dInts b) = decide (a = b) := by
  intro a b
  have e : PyData.eqvAll (a.map PyData.int) (b.map PyData.int) = decide (a = b) := by
    induction a generalizing b with
    | nil =>
      cases b with
      | nil => rfl
      | cons y ys => rfl
    | cons x xs ih =>
      cases b with
      | nil => rfl
      | cons y ys =>
        rw [List.map_cons, List.map_cons, PyData.eqvAll, ih ys]
        simp only [PyData.eqv, List.cons.injEq]
        rw [beq_dec]
        by_cases h1 : x = y
        · by_cases h2 : xs = ys
          · simp [h1, h2]
          · simp [h1, h2]
        · simp [h1]
  unfold dInts
  rw [PyData.eqv]
  exact e
section
variable {X : Cx}
theorem cr_maxLL (hc : X.calm = true) (hu : X.A.units + 64 < cLine) : CallR X (.builtin "max") (rMaxLL X.K) := by
  intro pins s σ H xs us Q I r h
  obtain ⟨l, as, rows, rfl, hl, hR, h0, q⟩ := h
  obtain ⟨hlen, hR⟩ := hR
  rw [Vals.ref1 r]
  obtain ⟨its, rv, pl, _⟩ := I.list hl
  have hn : its.toArray.size = rows.length := by rw [List.size_toArray, ← rv.length, List.length_map]; exact hlen
  have item : ∀ (i : Nat) (v : Value), its.toArray[i]? = some v → ∃ a row iA, as[i]? = some a ∧ rows[i]? = some row ∧ v = .ref a ∧ IntsAre iA row ∧ s.heap.IsList a iA.toArray := fun i v hv => by
    have hi : i < rows.length := by
      rw [← hn]
      exact (Array.getElem?_eq_some_iff.mp hv).1
    obtain ⟨a, ha⟩ : ∃ a, as[i]? = some a := ⟨_, List.getElem?_eq_getElem (by omega)⟩
    obtain ⟨row, hrow⟩ : ∃ row, rows[i]? = some row := ⟨_, List.getElem?_eq_getElem hi⟩
    obtain ⟨iA, ra, pa, _⟩ := I.list (SqL.of (hR i a row ha hrow))
    have hv' : its[i]? = some v := by simpa using hv
    rw [map_ref_at rv ha] at hv'
    exact ⟨a, row, iA, ha, hrow, (Option.some.inj hv').symm, Vals.ints ra, pa.isList⟩
  refine call_max_walkH (PySem.W.iter_listW (A := X.A.in1) (I.ok.hd hc) pl.isList fun s₂ e W st hfp hw hk => ?_)
  refine ⟨_, _, _, _, _, _, _, s.heap, fun i j => ltL (rows.getD j []) (rows.getD i []), rfl, W, st, hfp, by omega, hw, hk, fun i j vi vj s' Q' E' hk' hi hj hq => ?_, fun v s' hP m => ?_⟩
  · obtain ⟨a, ra, iA, _, h2, rfl, h4, h5⟩ := item i vi hi
    obtain ⟨b, rb, iB, _, g2, rfl, g4, g5⟩ := item j vj hj
    have e1 : rows.getD i [] = ra := by rw [List.getD_eq_getElem?_getD, h2] <;> rfl
    have e2 : rows.getD j [] = rb := by rw [List.getD_eq_getElem?_getD, g2] <;> rfl
    dsimp only at hq
    rw [e1, e2] at hq
    exact ints_gt (A := X.A.in1) (h5.at fun o e => hk' _ _ e) (g5.at fun o e => hk' _ _ e) h4 g4 (show X.A.units + 1 < cLine by omega) _ _ _ _ hq
  · obtain ⟨h', tk, rfl, hk'⟩ := PySem.W.moved_old e rfl m
    obtain ⟨a, row, iA, h1, h2, rfl, _, _⟩ := item _ v hP
    obtain ⟨b1, b2⟩ := argBest_le (lt := fun i j => ltL (rows.getD j []) (rows.getD i [])) (fun i j => ltL_asym _ _) (fun i j k h h' => ltL_le_trans h' h) (its.toArray.size - 1)
    refine ⟨.ref a, H, I.kept (t' := tk) hk', rfl, q _ a row h1 h2 fun r hr => ?_⟩
    obtain ⟨j, hj, ej⟩ := List.mem_iff_getElem.mp hr
    have := b2 j (by omega)
    have e1 : rows.getD j [] = r := by rw [List.getD_eq_getElem?_getD, List.getElem?_eq_getElem hj, ← ej] <;> rfl
    have e2 : rows.getD (argBest (fun i j => ltL (rows.getD j []) (rows.getD i [])) (its.toArray.size - 1)) [] = row := by rw [List.getD_eq_getElem?_getD, h2] <;> rfl
    rw [← e1, ← e2]
    exact this
theorem cr_minTL (hc : X.calm = true) (hu : X.A.units + 64 < cLine) : CallR X (.builtin "min") (rMinTL X.K) := by
  intro pins s σ H xs us Q I r h
  obtain ⟨l, ts, as, rows, rfl, hl, hR, h0, q⟩ := h
  obtain ⟨hlen, hlenA, hR⟩ := hR
  rw [Vals.ref1 r]
  obtain ⟨its, rv, pl, _⟩ := I.list hl
  have hn : its.toArray.size = rows.length := by rw [List.size_toArray, ← rv.length, List.length_map]; exact hlen
  have item : ∀ (i : Nat) (v : Value), its.toArray[i]? = some v → ∃ t row a tk iA rs, ts[i]? = some t ∧ rows[i]? = some row ∧ v = .ref t ∧ s.heap.IsTuple t #[.int row.1 tk, .ref a] ∧ IntsAre iA row.2 ∧ s.heap.IsList a iA.toArray ∧ Reads s.heap (.ref a) (dInts row.2) rs := fun i v hv => by
    have hi : i < rows.length := by
      rw [← hn]
      exact (Array.getElem?_eq_some_iff.mp hv).1
    obtain ⟨t, ht⟩ : ∃ t, ts[i]? = some t := ⟨_, List.getElem?_eq_getElem (by omega)⟩
    obtain ⟨a, ha⟩ : ∃ a, as[i]? = some a := ⟨_, List.getElem?_eq_getElem (by omega)⟩
    obtain ⟨row, hrow⟩ : ∃ row, rows[i]? = some row := ⟨_, List.getElem?_eq_getElem hi⟩
    obtain ⟨e1, e2⟩ := hR i t a row ht ha hrow
    obtain ⟨iA, ra, pa, _⟩ := I.list (SqL.of e2)
    obtain ⟨iT, rT, pT, _⟩ := I.tuple (SqT.of e1)
    obtain ⟨rs, hrs⟩ := Dp.reads I _ _ (.ref a) (Is.dp (K := X.K) _ _ (Is.ints e2)) rfl
    have hv' : its[i]? = some v := by simpa using hv
    rw [map_ref_at rv ht] at hv'
    cases rT with
    | cons r1 rr =>
      cases rr with
      | cons r2 rr =>
        cases rr
        obtain ⟨tk, rfl⟩ := r1
        obtain rfl := r2
        exact ⟨t, row, a, tk, iA, rs, ht, hrow, (Option.some.inj hv').symm, pT, Vals.ints ra, pa.isList, hrs⟩
  refine call_min_walkH (PySem.W.iter_listW (A := X.A.in1) (I.ok.hd hc) pl.isList fun s₂ e W st hfp hw hk => ?_)
  refine ⟨_, _, _, _, _, _, _, s.heap, fun i j => ltL ((rows.getD i (0, [])).1 :: (rows.getD i (0, [])).2) ((rows.getD j (0, [])).1 :: (rows.getD j (0, [])).2), rfl, W, st, hfp, by omega, hw, hk, fun i j vi vj s' Q' E' hk' hi hj hq => ?_, fun v s' hP m => ?_⟩
  · obtain ⟨t, ra, a, k1, iA, rs, _, h2, rfl, h4, h5, h6, h7⟩ := item i vi hi
    obtain ⟨u, rb, b, k2, iB, rs2, _, g2, rfl, g4, g5, g6, g7⟩ := item j vj hj
    have e1 : rows.getD i (0, []) = ra := by rw [List.getD_eq_getElem?_getD, h2] <;> rfl
    have e2 : rows.getD j (0, []) = rb := by rw [List.getD_eq_getElem?_getD, g2] <;> rfl
    dsimp only at hq
    rw [e1, e2] at hq
    have R := SeqAt.RcLt.tuples (A := X.A.in1) (s := s') (e := fun j => if j = 0 then decide (ra.1 = rb.1) else decide (ra.2 = rb.2)) (r := fun j => if j = 0 then decide (ra.1 < rb.1) else ltL ra.2 rb.2) (h4.at fun o e => hk' _ _ e) (g4.at fun o e => hk' _ _ e) (show X.A.units + 1 < cLine by omega)
      (fun j p1 p2 => by
        have hj : j < 2 := p1
        match j, hj with
        | 0, _ => rw [if_pos rfl, ← beq_dec]; exact SeqAt.EqAt.int_int _ _ _ _
        | 1, _ =>
          rw [if_neg (by decide), ← eqv_ints]
          exact SeqAt.eqAt_reads _ _ _ _ _ _ _ _ (PySem.W.reads_keeps hk' h7) (PySem.W.reads_keeps hk' g7) (Fl.ints 0 _).1 (Fl.ints 0 _).1 (by
            have := (Fl.ints 0 ra.2).2
            have := Nat.min_le_left (dInts ra.2).depth (dInts rb.2).depth
            show X.A.units + 1 + 1 + _ < cLine
            omega))
      (fun j p1 p2 _ => by
        have hj : j < 2 := p1
        match j, hj with
        | 0, _ => rw [if_pos rfl]; exact fun _ _ _ _ h => PyProof.Rows.lt_int h
        | 1, _ => rw [if_neg (by decide)]; exact ints_lt (A := X.A.in1.in1) (h6.at fun o e => hk' _ _ e) (g6.at fun o e => hk' _ _ e) h5 g5 (show X.A.units + 1 + 1 < cLine by omega))
    have eR : SeqAt.firstLt (fun j => if j = 0 then decide (ra.1 = rb.1) else decide (ra.2 = rb.2)) (fun j => if j = 0 then decide (ra.1 < rb.1) else ltL ra.2 rb.2) (decide (2 < 2)) (List.range (min 2 2)) = ltL (ra.1 :: ra.2) (rb.1 :: rb.2) := by
      show (if decide (ra.1 = rb.1) = true then (if decide (ra.2 = rb.2) = true then false else ltL ra.2 rb.2) else decide (ra.1 < rb.1)) = _
      rw [ltL]
      by_cases c : ra.1 = rb.1
      · rw [if_pos (decide_eq_true c), if_pos c]
        by_cases d : ra.2 = rb.2
        · rw [if_pos (decide_eq_true d), d, ltL_irrefl]
        · rw [if_neg (by rw [decide_eq_true_eq]; exact d)]
      · rw [if_neg (by rw [decide_eq_true_eq]; exact c), if_neg c]
    have R2 : SeqAt.RcLt X.A.in1 s' (.ref t) (.ref u) (SeqAt.firstLt (fun j => if j = 0 then decide (ra.1 = rb.1) else decide (ra.2 = rb.2)) (fun j => if j = 0 then decide (ra.1 < rb.1) else ltL ra.2 rb.2) (decide (2 < 2)) (List.range (min 2 2))) := R
    rw [eR] at R2
    exact R2 _ _ _ _ hq
  · obtain ⟨h', tk, rfl, hk'⟩ := PySem.W.moved_old e rfl m
    obtain ⟨t, row, a, _, _, _, h1, h2, rfl, _⟩ := item _ v hP
    obtain ⟨b1, b2⟩ := argBest_le (lt := fun i j => ltL ((rows.getD i (0, [])).1 :: (rows.getD i (0, [])).2) ((rows.getD j (0, [])).1 :: (rows.getD j (0, [])).2)) (fun i j => ltL_asym _ _) (fun i j k h h' => ltL_le_trans h h') (its.toArray.size - 1)
    refine ⟨.ref t, H, I.kept (t' := tk) hk', rfl, q _ t row h1 h2 fun r hr => ?_⟩
    obtain ⟨j, hj, ej⟩ := List.mem_iff_getElem.mp hr
    have := b2 j (by omega)
    have e1 : rows.getD j (0, []) = r := by rw [List.getD_eq_getElem?_getD, List.getElem?_eq_getElem hj, ← ej] <;> rfl
    have e2 : rows.getD (argBest (fun i j => ltL ((rows.getD i (0, [])).1 :: (rows.getD i (0, [])).2) ((rows.getD j (0, [])).1 :: (rows.getD j (0, [])).2)) (its.toArray.size - 1)) (0, []) = row := by rw [List.getD_eq_getElem?_getD, h2] <;> rfl
    rw [e1, e2] at this
    exact this
end
section
variable {X : Cx} {K : PySem.W.Frag}
theorem kc_maxLL (h : X.K = K) (hc : X.calm = true) (hu : X.A.units + 64 < cLine) : CallR X (.builtin "max") (rMaxLL K) := by subst h; exact cr_maxLL hc hu
theorem kc_minTL (h : X.K = K) (hc : X.calm = true) (hu : X.A.units + 64 < cLine) : CallR X (.builtin "min") (rMinTL K) := by subst h; exact cr_minTL hc hu
theorem kop_notIn (h : X.K = K) : OpR X (compareOp .NotIn) (rIn K true) := by subst h; exact op_notIn_seq
theorem kop_in (h : X.K = K) : OpR X (compareOp .In) (rIn K false) := by subst h; exact op_in_seq
end
section
variable {K : PySem.W.Frag} {H : Hp} {Q : VK}
theorem inV_ints (n : Int) : ∀ ns : List Int, inV (.int n) (ns.map V.int) = decide (n ∈ ns) := by
  intro ns
  induction ns with
  | nil => rfl
  | cons k r ih =>
    have e : inV (.int n) (V.int k :: r.map V.int) = (decide (n = k) || inV (.int n) (r.map V.int)) := by
      unfold inV
      rw [List.any_cons]
      congr 1
      first
        | rfl
        | (simp [eqV]; done)
        | (by_cases q : n = k
           · simp [eqV, q]
           · simp [eqV, q, Ne.symm q])
    rw [List.map_cons, e, ih]
    by_cases c : n = k
    · simp [c]
    · simp [c]
theorem flat_ints (ns : List Int) : (ns.map V.int).all flatV = true := by
  rw [List.all_map, List.all_eq_true]
  intro x _
  rfl
theorem r_notIn {a : Addr} {n : Int} {ns : List Int} (h : SqL K H a (ns.map V.int) ∨ SqT K H a (ns.map V.int)) (k : Q (.bl (!decide (n ∈ ns))) H) : rIn K true (.int n) (.ref a) H Q := by
  refine ⟨a, _, rfl, h, rfl, flat_ints ns, ?_⟩
  rw [if_pos rfl, inV_ints]
  exact k
theorem r_extend {l b : Addr} {xs zs : List V} (h : H l = some (.lst xs)) (hb : H b = some (.lst zs)) (hz : xs.length + zs.length ≤ sizeLine) (k : ∀ H', H' l = some (.lst (xs ++ zs)) → (∀ b o, b ≠ l → H b = some o → H' b = some o) → Q .non H') : rExtend (.ref l) [.ref b] H Q :=
  ⟨l, b, xs, zs, rfl, rfl, h, hb, hz, k _ upd_same fun b o n q => at_wr n q⟩
/-- xs == [], xs a list of ints -/
theorem r_eqNil {a b : Addr} {ns : List Int} (h : H a = some (.lst (ns.map V.int))) (h2 : H b = some (.lst [])) (k : Q (.bl (decide (ns = []))) H) : rEqA K (.ref a) (.ref b) H Q := by
  refine .inr ⟨dInts ns, .list [], Is.dp _ _ (Is.ints h), Is.dp _ _ (.lst h2 .nil), (Fl.ints 0 ns).shaped (by decide), (Fl.list (n := 0) (ds := []) (by simp)).shaped (by decide), ?_⟩
  have e : PyData.eqv (dInts ns) (.list []) = decide (ns = []) := by
    cases ns with
    | nil => simp [dInts, PyData.eqv, PyData.eqvAll]
    | cons n r => simp [dInts, PyData.eqv, PyData.eqvAll]
  rw [e]
  exact k
theorem NRows.mono {H' : Hp} {ts as : List Addr} {rows : List (Int × List Int)} (h : NRows H ts as rows) (R : ∀ b o, H b = some o → (∃ i : Nat, ts[i]? = some b ∨ as[i]? = some b) → H' b = some o) : NRows H' ts as rows :=
  ⟨h.1, h.2.1, fun i t a row h1 h2 h3 => ⟨R _ _ (h.2.2 i t a row h1 h2 h3).1 ⟨i, .inl h1⟩, R _ _ (h.2.2 i t a row h1 h2 h3).2 ⟨i, .inr h2⟩⟩⟩
theorem NRows.nil : NRows H [] [] [] := ⟨rfl, rfl, fun i t a row h => by simp at h⟩
theorem at_snoc {α : Type} {l : List α} {x y : α} {i : Nat} (h : (l ++ [x])[i]? = some y) : l[i]? = some y ∧ i < l.length ∨ i = l.length ∧ y = x := by
  rw [List.getElem?_append] at h
  by_cases c : i < l.length
  · rw [if_pos c] at h
    exact .inl ⟨h, c⟩
  · rw [if_neg c] at h
    have : i - l.length = 0 := by
      cases e : i - l.length with
      | zero => rfl
      | succ n => rw [e] at h; simp at h
    rw [this] at h
    exact .inr ⟨by omega, by simpa using h.symm⟩
theorem NRows.snoc {ts as : List Addr} {rows : List (Int × List Int)} {t a : Addr} {row : Int × List Int} (h : NRows H ts as rows) (h1 : H t = some (.tup [.int row.1, .ref a])) (h2 : H a = some (.lst (row.2.map V.int))) : NRows H (ts ++ [t]) (as ++ [a]) (rows ++ [row]) := by
  obtain ⟨l1, l2, at_⟩ := h
  refine ⟨by simp [l1], by simp [l2], fun i t' a' row' e1 e2 e3 => ?_⟩
  rcases at_snoc e1 with ⟨f1, g1⟩ | ⟨f1, rfl⟩
  · rcases at_snoc e2 with ⟨f2, g2⟩ | ⟨f2, rfl⟩
    · rcases at_snoc e3 with ⟨f3, g3⟩ | ⟨f3, rfl⟩
      · exact at_ i _ _ _ f1 f2 f3
      · omega
    · omega
  · rcases at_snoc e2 with ⟨f2, g2⟩ | ⟨f2, rfl⟩
    · omega
    · rcases at_snoc e3 with ⟨f3, g3⟩ | ⟨f3, rfl⟩
      · omega
      · exact ⟨h1, h2⟩
end
end Rd

/-! ## own errors: raised, caught, asked for their kind -/
namespace Rd
open PySem PySem.Spec PyProof.Rows L2 LamX
/-! ### list.count of bools -/
theorem vals_bls : ∀ {bs : List Bool} {us : List Value}, Vals (bs.map V.bl) us → us = bs.map Value.bool
  | [], _, .nil => rfl
  | b :: bs, _, .cons r k => by
    have e := vals_bls k
    have e2 : _ = Value.bool b := r
    rw [e2, e]
    rfl
theorem count_bls (k : Bool) : ∀ bs : List Bool, (bs.map Value.bool).countP (isBoolOf k) = bs.count k
  | [] => rfl
  | b :: bs => by
    rw [List.map_cons, List.countP_cons, List.count_cons, count_bls k bs]
    rfl
def rCountB (K : PySem.W.Frag) : V → List V → Hp → VK → Prop := fun x xs H Q => ∃ (a : Addr) (bs : List Bool) (k : Bool), x = V.ref a ∧ xs = [.bl k] ∧ SqL K H a (bs.map V.bl) ∧ Q (.int (bs.count k : Nat)) H
theorem mt_countB {X : Cx} : MtR X "list.count" (rCountB X.K) := by
  intro pins s σ H x xs v us Q I rx rxs h
  obtain ⟨a, bs, k, rfl, rfl, hs, q⟩ := h
  cases rx
  cases rxs with
  | cons ry rt =>
    cases rt
    cases ry
    obtain ⟨its, rv, ⟨⟨cls, dd, data, sl⟩, n, ho, hc, hdn, hd⟩, hlen⟩ := I.list hs
    simp only at hc hd
    subst hc hd
    have e := vals_bls rv
    subst e
    refine call_meets PySem.F.slot_list_count ⟨_, ho, rfl⟩ PySem.F.entry_list_count (PySem.F.args_list_count_2 _ _) (SeqAt.list_countAt a (bs.map Value.bool).toArray n dd sl (.bool k) (isBoolOf k)) ⟨ho, fun y hy => ?_, ?_⟩
    · have hy' : y ∈ bs.map Value.bool := by simpa using hy
      obtain ⟨b, _, rfl⟩ := List.mem_map.mp hy'
      exact SeqAt.EqAt.bool_bool b k
    · have e2 : (bs.map Value.bool).toArray.toList = bs.map Value.bool := rfl
      rw [e2, count_bls]
      exact ⟨.int (bs.count k : Nat), H, I.tok _, ⟨_, rfl⟩, q⟩
theorem kmt_countB {X : Cx} {K : PySem.W.Frag} (h : X.K = K) : MtR X "list.count" (rCountB K) := by subst h; exact mt_countB
theorem kmt_index {X : Cx} {K : PySem.W.Frag} (h : X.K = K) : MtR X "list.index" (rIndex K) := by subst h; exact mt_index
section
variable {K : PySem.W.Frag} {σ : L2.St} {H : Hp} {Q : VK}
theorem r_countB {a : Addr} {bs : List Bool} {k : Bool} (h : SqL K H a (bs.map V.bl)) (q : Q (.int (bs.count k : Nat)) H) : rCountB K (.ref a) [.bl k] H Q := ⟨a, bs, k, rfl, rfl, h, q⟩
theorem r_indexB {a : Addr} {bs : List Bool} {j : Nat} (h : SqL K H a (bs.map V.bl)) (hj : bs[j]? = some true) (hn : ∀ m, m < j → bs[m]? = some false) (q : Q (.int (j : Nat)) H) : rIndex K (.ref a) [.bl true] H Q :=
  ⟨a, _, .bl true, j, .bl true, rfl, rfl, h, rfl, flat_bls bs, by rw [List.getElem?_map, hj]; rfl, rfl, fun m z hm hz => by
    rw [List.getElem?_map, hn m hm] at hz
    cases hz
    rfl, q⟩
end
/-! ### classes of errors -/
/-- the name x stands for the class at c -/
structure ClsG (mg : Str → Option Value) (x : Str) (c : Addr) : Prop where
  g : mg x = some (.ref c)
theorem pe_clsG {X : Cx} {x : Str} {c : Addr} {pos : Pos} (h : ClsG X.mg x c) (hg : Gl X x) (hd : (x == ("__debug__" : Str)) = false := by decide) : PE X (.Name x pos) (tC (.ref c)) := pe_glob hg h.g rfl hd
/-- the class at c may be raised: its maker is ValueError's -/
structure ErrR (K : PySem.W.Frag) (c : Addr) : Prop where
  ex : PySem.W.excIn K c [.type "ValueError", .type "Exception", .type "BaseException", .type "object"] "ValueError.__new__" = true
  k : PySem.W.keepIn K (.ref c) = true
  sub : PySem.W.subIn K (.ref c) (.type "BaseException") = some true
  ty : PySem.W.typeIn K (.ref c) = some (.type "type")
def tRaiseC (c : Addr) (W : WX) : TS := fun _ σ H => W (.ref c) none σ H
theorem ps_raiseC {X : Cx} {W : WX} {x m : Str} {c : Addr} {j : Nat} {p p2 pos pos2 : Pos} (hc : X.calm = true) (tk : Takes X W) (G : ClsG X.mg x c) (R : ErrR X.K c) (hg : Gl X x := by rfl) (hdb : (x == ("__debug__" : Str)) = false := by decide) :
    PS X (.Raise (some (.Call (.Name x p) [.Constant (.str m) j p2] [] pos)) none pos2) (tRaiseC c W) := ps_raise hc tk (pmk_own PySem.F.excBase_ValueError R.ex G.g R.k (raises_own R.sub R.ty) hg hdb)
theorem r_raiseC {c : Addr} {W : WX} {σ : L2.St} {H : Hp} {D : Ends} (k : W (.ref c) none σ H) : tRaiseC c W D σ H := k
/-- never read -/
theorem pe_no {X : Cx} {e : Expr} : PE X e (fun _ _ _ => False) := ⟨fun _ _ _ _ _ _ h => h.elim⟩
/-- isinstance(e, c), e the error that the suite holds -/
def rIsX (K : PySem.W.Frag) (a : Addr) (cls : Value) (d : Option Addr) : List V → Hp → VK → Prop := fun xs H Q => ∃ (D : Addr) (c : V) (cv : Value) (b : Bool), cls = .ref D ∧ d = none ∧ ExcC K D ∧ xs = [.ref a, c] ∧ (∀ u, RelV c u → u = cv) ∧ PySem.W.kitOne K (.ref D) cv = some b ∧ Q (.bl b) H
theorem kc_isX {X : Cx} {K : PySem.W.Frag} {a : Addr} {oe : Obj} {cls : Value} {d : Option Addr} {pn : List (Addr × Obj)} (hK : X.K = K) (hz : Zc cls d oe) (hf : ∃ vs, oe.data = .fields vs) : CallR (X.suite a ((a, oe) :: pn)) (.builtin "isinstance") (rIsX K a cls d) := by
  subst hK
  intro pins s σ H xs us Q I r h
  obtain ⟨D, c, cv, b, rfl, rfl, C, rfl, hcv, e, q⟩ := h
  exact call_isE C hz hf pins s σ H _ us Q I r ⟨c, cv, b, rfl, hcv, e, q⟩
section
variable {K : PySem.W.Frag} {H : Hp} {Q : VK}
theorem r_isXc {a D c : Addr} {b : Bool} (C : ExcC K D) (e : PySem.W.kitOne K (.ref D) (.ref c) = some b) (q : Q (.bl b) H) : rIsX K a (.ref D) none [.ref a, .ref c] H Q := ⟨D, .ref c, .ref c, b, rfl, rfl, C, rfl, fun _ r => r, e, q⟩
theorem r_isXt {a D : Addr} {n : String} {b : Bool} (C : ExcC K D) (e : PySem.W.kitOne K (.ref D) (.type n) = some b) (q : Q (.bl b) H) : rIsX K a (.ref D) none [.ref a, .ty n] H Q := ⟨D, .ty n, .type n, b, rfl, rfl, C, rfl, fun _ r => r, e, q⟩
end
/-- the error class at D: the i-th of the kinds at cs, over the class at G, a ValueError -/
structure KindOf (K : PySem.W.Frag) (G : Addr) (cs : Nat → Addr) (D : Addr) (i : Nat) : Prop where
  c : ExcC K D
  g : PySem.W.exmOne K (.ref D) (.ref G) = some true
  v : PySem.W.kitOne K (.ref D) (.type "ValueError") = some true
  is : ∀ j, j < 7 → PySem.W.kitOne K (.ref D) (.ref (cs j)) = some (decide (j = i))
/-- the words of the kinds -/
def kindW (i : Nat) : Str := (["BadGear", "BadStanding", "BadMoves", "BadGoal", "BadMarks", "BadMark", "BadText"] : List Str).getD i ""
/-- _law_kind(work): the work's end; of an error its word -/
def TTKind (K : PySem.W.Frag) (G : Addr) (cs : Nat → Addr) : (XK → Hp → VK → Prop) → Hp → VK → Prop := fun tl H Q =>
  tl (fun cls d H' => ∃ D i, cls = .ref D ∧ d = none ∧ KindOf K G cs D i ∧ i < 6 ∧ ∀ H'', Same H' H'' → Q (.str (kindW i)) H'') H Q
/-! ### defs and methods that raise; a lambda handed to a def -/
section
variable {P : Program} {w : World} {K : PySem.W.Frag} {mg : Str → Option Value} {base : Heap}
theorem MethAt.okX {C : Addr} {m q : Str} {st : Stmt} {N ps : List Str} {k : Nat} {sp : Sp} (F : MethAt K C m q st) (S : FnScope N ps (defScope st)) (bo : BindOkQ m q st ps) (len : ∀ vs H Q E, sp vs H Q E → vs.length = ps.length)
    (hbody : ∀ (f : Addr) (cdv : Value) (A : Around) (outer : List Env) (s : Shared) (H : Hp) (vs : List V) (Q : VK) (E : XK), Room k (A.deeper (envOfC q (defScope st) s.heap.objs.size f cdv)) → sp vs H Q E →
      ∃ t, PSs (cxOf (L2.CX P w) P w K mg base N q (defScope st) f cdv A outer s H E) (defBody st) t ∧ t { nx := fun _ H' => Q .non H', rt := Q } (start N vs) H) : HasM P w K mg base (L2.CX P w) C (k + 1) m sp := by
  obtain ⟨f, fd, F, at_, fn⟩ := F.ex
  exact ⟨f, fd, ps, F.okX S len fun cdv A outer s H vs Q E hr h => hbody f cdv A outer s H vs Q E hr h, ⟨at_, fn, F.kp⟩, F.binds bo⟩
theorem FunAt.okX {x : Str} {st : Stmt} {N ps : List Str} {k : Nat} {sp : Sp} (F : FunAt K mg x st) (S : FnScope N ps (defScope st)) (bo : BindOk x st ps) (len : ∀ vs H Q E, sp vs H Q E → vs.length = ps.length)
    (hbody : ∀ (f : Addr) (cdv : Value) (A : Around) (outer : List Env) (s : Shared) (H : Hp) (vs : List V) (Q : VK) (E : XK), Room k (A.deeper (envOfC x (defScope st) s.heap.objs.size f cdv)) → sp vs H Q E →
      ∃ t, PSs (cxOf (L2.CX P w) P w K mg base N x (defScope st) f cdv A outer s H E) (defBody st) t ∧ t { nx := fun _ H' => Q .non H', rt := Q } (start N vs) H) : Has P w K mg base (L2.CX P w) (k + 1) x sp := by
  obtain ⟨f, fd, F, hm⟩ := F.ex
  exact ⟨f, fd, ps, F.okX S len fun cdv A outer s H vs Q E hr h => hbody f cdv A outer s H vs Q E hr h, hm, F.kp, F.binds bo⟩
end
/-- x(lambda: body), x a def that calls what it is handed -/
theorem pe_kindL {X : Cx} {T : List (Addr × Str)} {TT : (XK → Hp → VK → Prop) → Hp → VK → Prop} {x a : Str} {st : Stmt} {c P : Addr} {k : Nat} {Ng : List Str}
    {params : Arguments} {body : Expr} {scope : Scope} {t : XK → TE} {p lpos pos : Pos} (F : FunAt X.K X.mg x st) (Sg : FnScope Ng [a] (defScope st)) (bo : BindOk x st [a]) (hg : Gl X x) (hNg : Ng[0]? = some a) (hva : Vis (defScope st) a)
    (hG : ∀ (g : Addr) (cdg : Value), GivesTo X Ng x (defScope st) g cdg (defBody st) a (X.env.qual ++ "<lambda>") TT)
    (TB : TabB X.base X.mg c P) (hcode : X.env.code = .ref c) (hmT : (P, X.env.qual ++ "<lambda>") ∈ T) (hu : ∀ p ∈ T, p.1 = P → p.2 = X.env.qual ++ "<lambda>") (hr : Room (k + 2) X.A) (L : LamS X.env.scope scope) (hdef : defaultsOf params X.env = ([], []))
    (hbind : ∀ (q : Str) (cl : List (Str × Addr)) (pm cv ctv : Value), bindArgs (PySem.W.kla_fn "<lambda>" q params body scope cl pm cv ctv) ⟨[], []⟩ = pure [])
    (hbody : ∀ (A : Around) (outer : List Env) (s : Shared) (H : Hp) (E : XK) (f c' : Addr), Room k (A.deeper (lamEnv X scope s.heap.objs.size f c')) → PE (lamCx X A outer s H E scope f c') body (t E))
    (hdb : (x == ("__debug__" : Str)) = false := by decide) (hd : (a == ("__debug__" : Str)) = false := by decide) (hcd : (a == ("__classdict__" : Str)) = false := by decide) :
    PE X (.Call (.Name x p) [.Lambda params body scope lpos] [] pos) (tLam T TT t) := by
  obtain ⟨f, fd, F, hm⟩ := F.ex
  obtain ⟨oc, od, kV, doc, pm, an, cdv, ct, osl, rfl, lk, hcd'⟩ := F.ex
  exact pe_lamcall hg hm F.kp lk hcd' (Binds.all (bo kV doc pm an cdv ct)) Sg hNg hva (hG f cdv) TB hcode hmT hu hr L hdef hbind hbody hdb hd hcd
theorem r_lam {T : List (Addr × Str)} {TT : (XK → Hp → VK → Prop) → Hp → VK → Prop} {t : XK → TE} {σ : L2.St} {H : Hp} {Q : VK} (hT : Tabs T H) (k : ∀ H1, ExtN H H1 → Tabs T H1 → TT (fun E H' Q' => t E σ H' Q') H1 Q) : tLam T TT t σ H Q := ⟨hT, k⟩
/-- what a lambda's callee lets out is let out by the lambda -/
theorem passLam {X : Cx} {A : Around} {outer : List Env} {s : Shared} {H : Hp} {E : XK} {scope : Scope} {f c' : Addr} : Passes (L2.CX (lamCx X A outer s H E scope f c').prog (lamCx X A outer s H E scope f c').w) (lamCx X A outer s H E scope f c') E :=
  passes_call (W := fun cls d _ H => E cls d H) (takes_of rfl rfl rfl rfl) fun _ _ _ _ h => h
theorem kp_gives {K : PySem.W.Frag} {G : Addr} {cs : Nat → Addr} {Ng : List Str} {x a e q : Str} {X : Cx} {sg : Scope} {g : Addr} {cdg : Value} {b₀ : Stmt} {suite : List Stmt} {nE : Str} {p1 p2 p3 np pos pos' : Pos} {ts : Addr → Value → Option Addr → TS}
    (hK : X.K = K) (hge : sg.names.lookup nE = some .globalImplicit) (hme : ClsG X.mg nE G) (hde : (nE == ("__debug__" : Str)) = false) (h0 : ∀ f : Addr, (L2.start Ng [V.ref f])[0]? = some (some (V.ref f))) (hN : Ng.Nodup) (h1 : Ng[1]? = some e) (hl : sg.names.lookup e = some .local)
    (hsu : ∀ (s : Shared) (H : Hp) (a : Addr) (oe : Obj) (cls : Value) (d : Option Addr) (pn : List (Addr × Obj)), Zc cls d oe → (∃ vs, oe.data = .fields vs) → PSs ((cxOf C8.CX0 X.prog X.w X.K X.mg X.base Ng x sg g cdg X.A X.stack s H C8.E0).nox.suite a ((a, oe) :: pn)) (b₀ :: suite) (ts a cls d))
    (hts : ∀ (D : Addr) (i : Nat) (ea : Addr) (σ : L2.St) (H' : Hp) (En : Ends), KindOf K G cs D i → i < 6 → H' ea = none → σ.length = Ng.length → (∀ H'', Same H' H'' → En.rt (.str (kindW i)) H'') → ts ea (.ref D) none En (σ.set 1 (some (.ref ea))) H') :
    GivesTo X Ng x sg g cdg [.Try [.Return (some (.Call (.Name a p1) [] [] p2)) p3] [.ExceptHandler (some (.Name nE np)) (some e) (b₀ :: suite) pos'] [] [] pos] a q (TTKind K G cs) := by
  intro f c' s H Q tl act hc h
  have hgl : Gl (cxOf C8.CX0 X.prog X.w X.K X.mg X.base Ng x sg g cdg X.A X.stack s H C8.E0).nox nE := hge
  refine ⟨_, pss_one (ps_try_as (X := (cxOf C8.CX0 X.prog X.w X.K X.mg X.base Ng x sg g cdg X.A X.stack s H C8.E0).nox) (i := 1) (c := .ref G) (Wout := fun _ _ _ _ => False) (ts := ts)
      (tb := fun W D σ H => ∃ Ech : XK, (∀ cls d σ' H', σ'.length = Ng.length → Ech cls d H' → W cls d σ' H') ∧ σ[0]? = some (some (.ref f)) ∧ H c' = some (CodeO c' q) ∧ tl Ech H D.rt)
      rfl rfl hN h1 hl ⟨hgl, hde, .inl hme.g⟩ L2.takes0 (fun W pn xe tk _ => ?_) (fun ea oe cls d pn hz hf => hsu s H ea oe cls d pn hz hf)), ?_⟩
  · refine ⟨fun pins s' σ H' D I h' => ?_⟩
    obtain ⟨Ech, hW, h1, h2, h3⟩ := h'
    have tk' : Takes ((cxOf C8.CX0 X.prog X.w X.K X.mg X.base Ng x sg g cdg X.A X.stack s H C8.E0).tr pn xe) (fun cls d σ' H' => σ'.length = Ng.length → W cls d σ' H') := fun u s' ⟨a, B, sI, pins, σ', H', cls, d, e1, I', nb, up, sky, na, os, ag, w⟩ => tk u s' ⟨a, B, sI, pins, σ', H', cls, d, e1, I', nb, up, sky, na, os, ag, w I'.len⟩
    have hp := act _ pn xe Ech p1 p2 tk' fun cls d σ' H' e hl => hW cls d σ' H' hl e
    have hq := pss_one (ps_ret (pos := p3) hp)
    exact hq.run pins s' σ H' D I ⟨h1, h2, h3⟩
  · subst hK
    exact ⟨fun cls d H' => ∃ D i, cls = .ref D ∧ d = none ∧ KindOf X.K G cs D i ∧ i < 6 ∧ ∀ H'', Same H' H'' → Q (.str (kindW i)) H'', fun cls d σ' H' hl ⟨D, i, e1, e2, hk, hi, e3⟩ => ⟨true, by rw [e1]; exact hk.g, fun _ ea na => by rw [e1, e2]; exact hts D i ea σ' H' _ hk hi na hl e3, fun z => nomatch z⟩, h0 f, hc, h⟩
end Rd
namespace Rd
open PySem PySem.Spec PyProof.Rows L2 LamX
theorem r_kind {K : PySem.W.Frag} {G : Addr} {cs : Nat → Addr} {tl : XK → Hp → VK → Prop} {H : Hp} {Q : VK} (k : tl (fun cls d H' => ∃ D i, cls = .ref D ∧ d = none ∧ KindOf K G cs D i ∧ i < 6 ∧ ∀ H'', Same H' H'' → Q (.str (kindW i)) H'') H Q) : TTKind K G cs tl H Q := k
theorem kpg_lst {X : Cx} {K : PySem.W.Frag} {es : List Expr} {k : Nat} {t : TGs} {n : Nat} {pos : Pos} (hK : X.K = K) (hc : X.calm = true) (h : PGs X es t)
    (hn : (assignEach es X.env).length = n := by rfl) (hst : (assignEach es X.env).findIdx? (·.1) = none := by rfl) : PG X (.Tuple es k pos) (gLst K n t) := by subst hK; exact pg_lst hc h hn hst
theorem r_gLst {K : PySem.W.Frag} {n : Nat} {t : TGs} {a : Addr} {xs : List V} {σ : L2.St} {H : Hp} {Q : L2.St → Hp → Prop} (h : SqL K H a xs) (hl : xs.length = n) (k : t xs σ H Q) : gLst K n t (.ref a) σ H Q := ⟨a, xs, rfl, h, hl, k⟩
theorem kc_sortedPO {X : Cx} {K : PySem.W.Frag} (h : X.K = K) : CallR X (.builtin "sorted") (rSortedPO K) := by subst h; exact cr_sortedPO
def csL (a b c d e f g : Addr) : Nat → Addr := fun i => [a, b, c, d, e, f, g].getD i 0
theorem count_kind : ∀ i < 7, ([decide (0 = i), decide (1 = i), decide (2 = i), decide (3 = i), decide (4 = i), decide (5 = i), decide (6 = i)] : List Bool).count true = 1 := by decide
theorem index_kind : ∀ i < 7, ([decide (0 = i), decide (1 = i), decide (2 = i), decide (3 = i), decide (4 = i), decide (5 = i), decide (6 = i)] : List Bool)[i]? = some true := by decide
theorem index_kind2 : ∀ i < 7, ∀ m, m < i → ([decide (0 = i), decide (1 = i), decide (2 = i), decide (3 = i), decide (4 = i), decide (5 = i), decide (6 = i)] : List Bool)[m]? = some false := by decide
theorem kindW_ne : ∀ i < 6, ¬ kindW i = "BadText" := by decide +kernel
theorem kindW_at {i : Nat} (h : i < 7) : (((["BadGear", "BadStanding", "BadMoves", "BadGoal", "BadMarks", "BadMark", "BadText"] : List Str)).map V.str)[i]? = some (.str (kindW i)) := by
  rw [List.getElem?_map]
  unfold kindW
  rw [List.getD_eq_getElem?_getD, List.getElem?_eq_getElem (by exact h)]
  rfl
end Rd
namespace Rd
open PySem PySem.W
theorem kit_self {K : Frag} {t : Value} : kitOne K t t = some true := by
  have h : (t == t) = true := beq_self_eq_true t
  unfold kitOne
  rw [if_pos h]
theorem kit_ref {K : Frag} {D C : Addr} {b : Bool} (hd : hasDictIn K C = true) (ht : typeIn K (.ref C) = some (.type "type")) (hs : subIn K (.ref D) (.ref C) = some b) (ne : D ≠ C) : kitOne K (.ref D) (.ref C) = some b := by
  obtain ⟨cd, hc, _⟩ := any_some hd
  have h : ¬ (Value.ref D == Value.ref C) = true := fun z => ne (Value.ref.inj (eq_of_beq z))
  unfold kitOne
  rw [if_neg h]
  show (if ((clsIn K C).isSome && typeIn K (.ref C) == some (.type "type")) = true then subIn K (.ref D) (.ref C) else none) = some b
  rw [hc, ht]
  exact hs
theorem kit_type {K : Frag} {D : Addr} {T : String} {b : Bool} (hm : kitMeta T = true) (hs : subIn K (.ref D) (.type T) = some b) : kitOne K (.ref D) (.type T) = some b := by
  have h : ¬ (Value.ref D == Value.type T) = true := fun z => by cases eq_of_beq z
  unfold kitOne
  rw [if_neg h]
  show (if kitMeta T = true then subIn K (.ref D) (.type T) else none) = some b
  rw [if_pos hm]
  exact hs
end Rd

/-! ## lambdas that outlive their makers -/
namespace Rd
open PySem PySem.Spec PyProof.Rows L2 LamX NdefX
/-- a lambda's words, the cells that it captured, its code object -/
structure LF where
  qual : Str
  params : Arguments
  body : Expr
  scope : Scope
  cl : List (Str × Addr)
  c : Addr
abbrev LF.nf (F : LF) : NF := ⟨"<lambda>", F.qual, F.params, [], F.scope, F.cl, F.c⟩
abbrev LF.ob (F : LF) (pm ctv : Value) : Obj := PySem.W.kla_obj "<lambda>" F.qual F.params F.body F.scope F.cl pm F.c ctv
/-- the object at f is the lambda F -/
def LamO (f : Addr) (F : LF) : HO := .ext fun h => ∃ pm ctv, h.get? f = some (F.ob pm ctv)
/-- the object at c is the cell o -/
def CellO (c : Addr) (o : Obj) : HO := .frz o (.own c)
theorem lamO_ne {f : Addr} {F : LF} (ps : Array Value) : LamO f F ≠ .tbl ps := fun z => by
  unfold LamO at z
  cases z
section
variable {P : Program} {w : World} {H : Hp} {h : Heap}
theorem lamO_at {f : Addr} {F : LF} (hok : HOk P w H h) (e : H f = some (LamO f F)) : ∃ pm ctv, h.get? f = some (F.ob pm ctv) := (hok f _ e).1
theorem cellO_at {c : Addr} {o : Obj} (hok : HOk P w H h) (e : H c = some (CellO c o)) : h.get? c = some o := (hok c _ e).1
theorem cellO_ok {c : Addr} {o : Obj} (H' : Hp) (e : h.get? c = some o) : ObjOk P w H' h c (CellO c o) := ⟨e, ⟨o, e⟩⟩
end
section
variable {X : Cx} {pins : List (Addr × Obj)} {σ : L2.St} {H : Hp} {s : Shared}
theorem inv_lam {F : LF} {o : Obj} {t' : Nat} {pm ctv : Value} (I : Inv X pins σ H s) (ho : o = F.ob pm ctv) : Inv X pins σ (upd H s.heap.objs.size (LamO s.heap.objs.size F)) { s with heap := s.heap.push o, toks := t' } := by
  subst ho
  have e : (s.heap.push (F.ob pm ctv)).get? s.heap.objs.size = some (F.ob pm ctv) := Heap.get?_push_size _ rfl
  exact I.laid (a := s.heap.objs.size) (fun b u e => Heap.get?_push_of_some _ e) (Nat.le_refl _) ⟨⟨pm, ctv, e⟩, ⟨_, e⟩, fun h1 h2 ⟨p, t, z⟩ st => ⟨p, t, st _ z⟩⟩
end
/-- the reading of a lambda that is kept: it is known from now on -/
def tLamT (T : List (Addr × Str)) (mk : Addr → LF) : TE := fun _ H Q => Tabs T H ∧ ∀ (f c' : Addr) (H1 : Hp), ExtN H H1 → (∀ b, H1 b = none → H b = none) → Tabs T H1 → H f = none → H1 f = some (LamO f (mk c')) → H1 c' = some (CodeO c' (mk c').qual) → Q (.ref f) H1
/-- nothing that was tracked is gone, but for the tables' growth -/
structure Adds (T : List (Addr × Str)) (H H' : Hp) : Prop where
  ext : ExtN H H'
  tabs : Tabs T H'
  old : ∀ b, H' b = none → H b = none
theorem Adds.put {T : List (Addr × Str)} {H H1 : Hp} {a : Addr} {o : HO} (A : Adds T H H1) (n : H1 a = none) : Adds T H (upd H1 a o) := by
  have sm : ∀ b u, H1 b = some u → upd H1 a o b = some u := fun b u e => (upd_ne (ne_of_none e n)).trans e
  exact ⟨A.ext.trans (ExtN.of sm), A.tabs.ext sm, fun b e => A.old b (upd_none e)⟩
/-- the table at P gets a row for the new code object at k -/
theorem Adds.row {T : List (Addr × Str)} {H : Hp} {P k : Addr} {q : Str} {pos : Pos} {ps : Array Value} (t : Tabs T H) (one : ∀ p ∈ T, p.1 = P → p.2 = q) (at_ : H P = some (.tbl ps)) (tri : TriplesOk ps.toList) (cod : ∀ (p : Pos) (v : Value), codeAmong p ps.toList = some v → ∃ d, v = .ref d ∧ H d = some (CodeO d q)) (n : H k = none) :
    Adds T H (upd (upd H P (.tbl (ps ++ #[rawInt pos.line, rawInt pos.col, .ref k]))) k (CodeO k q)) := by
  generalize hN : upd (upd H P (.tbl (ps ++ #[rawInt pos.line, rawInt pos.col, .ref k]))) k (CodeO k q) = N
  have hk : N k = some (CodeO k q) := by rw [← hN]; exact upd_same
  have out : ∀ b, b ≠ k → b ≠ P → N b = H b := fun b h1 h2 => by rw [← hN, upd_ne h1, upd_ne h2]
  have hp : N P = some (.tbl (ps ++ #[rawInt pos.line, rawInt pos.col, .ref k])) := by rw [← hN, upd_ne (ne_of_none at_ n)]; exact upd_same
  have grow : ExtN H N := fun b u e nt => by
    have h2 : b ≠ P := by
      rintro rfl
      exact nt ps (Option.some.inj (e.symm.trans at_))
    rw [out b (ne_of_none e n) h2, e]
  have lst : (ps ++ #[rawInt pos.line, rawInt pos.col, .ref k]).toList = ps.toList ++ [rawInt pos.line, rawInt pos.col, .ref k] := by rw [Array.toList_append]
  refine ⟨grow, fun p hpT => ?_, fun b e => ?_⟩
  · by_cases h : p.1 = P
    · rw [h, one p hpT h]
      exact ⟨_, hp, lst ▸ PySem.TriplesOk_snoc _ _ _ _ tri, fun p' v hv => (among_app _ tri (lst ▸ hv)).elim (fun z => (cod p' v z).imp fun d hd => ⟨hd.1, grow _ _ hd.2 codeO_ne⟩) fun z => ⟨k, z, hk⟩⟩
    · obtain ⟨rs, q1, q2, q3⟩ := t p hpT
      exact ⟨rs, (out _ (ne_of_none q1 n) h).trans q1, q2, fun p' v hv => (q3 p' v hv).imp fun d hd => ⟨hd.1, grow _ _ hd.2 codeO_ne⟩⟩
  · by_cases h1 : b = k
    · rw [h1]
      exact n
    · by_cases h2 : b = P
      · rw [h2, hp] at e
        cases e
      · rw [← out b h1 h2]
        exact e
/-- the lambda's object is made, its code object at k known -/
theorem lam_known {X : Cx} {pins : List (Addr × Obj)} {σ : L2.St} {H H1 : Hp} {s s1 : Shared} {T : List (Addr × Str)} {F : LF} {Q : VK} {t' : Nat} {pm ctv : Value} (I : Inv X pins σ H s) (big : s.heap.objs.size ≤ s1.heap.objs.size) (I1 : Inv X pins σ H1 s1) (A : Adds T H H1) (hk : H1 F.c = some (CodeO F.c F.qual))
    (h : ∀ (f : Addr) (H2 : Hp), ExtN H H2 → (∀ b, H2 b = none → H b = none) → Tabs T H2 → H f = none → H2 f = some (LamO f F) → H2 F.c = some (CodeO F.c F.qual) → Q (.ref f) H2) : EP X pins σ Q (.ref s1.heap.objs.size) { s1 with heap := s1.heap.push (F.ob pm ctv), toks := t' } := by
  have n := I1.hok.fresh (Nat.le_refl s1.heap.objs.size)
  have A2 := A.put (o := LamO s1.heap.objs.size F) n
  exact ⟨.ref s1.heap.objs.size, _, inv_lam (F := F) I1 rfl, rfl, h _ _ A2.ext A2.old A2.tabs (I.hok.fresh big) upd_same ((upd_ne (ne_of_none hk n)).trans hk)⟩
theorem pe_lamT {X : Cx} {T : List (Addr × Str)} {c P : Addr} {params : Arguments} {body : Expr} {scope : Scope} {pos : Pos} (TB : TabB X.base X.mg c P) (hcode : X.env.code = .ref c) (hm : (P, X.env.qual ++ "<lambda>") ∈ T) (hu : ∀ p ∈ T, p.1 = P → p.2 = X.env.qual ++ "<lambda>")
    (L : LamS X.env.scope scope) (hdef : defaultsOf params X.env = ([], [])) : PE X (.Lambda params body scope pos) (tLamT T fun c' => ⟨X.env.qual ++ "<lambda>", params, body, scope, cloFrom X.env.cells scope.names [], c'⟩) := by
  constructor
  rintro pins s σ H Q I ⟨tabs, wish⟩
  obtain ⟨ps, atP, tri, cod⟩ := tabs _ hm
  have G := I.mod.glob.keeps I.bk
  have D := TB.code.keeps I.bk
  have Bt := TB.bm.keeps I.bk
  have clo := closure_ok (L.has I.ok)
  refine PySem.W.kla_eval hdef ?_
  rcases hc : codeAmong pos ps.toList with _ | v
  · refine PySem.W.kla_makeFunction (mg := X.mg) clo I.ok.glob G hcode D (I.hok P _ atP) tri hc TB.gP Bt fun k ctv hp tk kept lo hi ⟨_, oc, vs, tq, ek, o1, o2, o3⟩ row => ?_
    cases ek
    have J := inv_table (t' := tk) (more := #[rawInt pos.line, rawInt pos.col, .ref k]) (q := X.env.qual ++ "<lambda>") I atP kept row lo ⟨oc, vs, tq, o1, o2, o3⟩
    exact lam_known (F := ⟨X.env.qual ++ "<lambda>", params, body, scope, cloFrom X.env.cells scope.names [], k⟩) I (Nat.le_trans lo (Nat.le_of_lt hi)) J (Adds.row tabs hu atP tri cod (I.hok.fresh lo)) upd_same fun f H2 a b c d e g => wish f k H2 a b c d e g
  · obtain ⟨k, rfl, hk⟩ := cod pos v hc
    refine PySem.W.kla_makeFunctionHit (mg := X.mg) clo I.ok.glob G hcode D (I.hok P _ atP) tri hc Bt fun ctv hp tk kept big => ?_
    have J : Inv X pins σ H { s with heap := hp, toks := tk } := I.kept kept
    exact lam_known (F := ⟨X.env.qual ++ "<lambda>", params, body, scope, cloFrom X.env.cells scope.names [], k⟩) I big J ⟨ExtN.refl H, tabs, fun _ e => e⟩ hk fun f H2 a b c d e g => wish f k H2 a b c d e g
/-! ### cells put aside, and brought back -/
def hideC (cs : List Addr) (H : Hp) : Hp := fun b => if b ∈ cs then none else H b
def backC (cs : List Addr) (H H' : Hp) : Hp := fun b => if b ∈ cs then H b else H' b
def CellsAll (cs : List Addr) (H : Hp) : Prop := ∀ c ∈ cs, ∃ o u, H c = some (CellO c o) ∧ o.data = .cell (some u)
theorem hide_out {cs : List Addr} {H : Hp} {b : Addr} (h : b ∉ cs) : hideC cs H b = H b := if_neg h
theorem hide_in {cs : List Addr} {H : Hp} {b : Addr} (h : b ∈ cs) : hideC cs H b = none := if_pos h
theorem back_out {cs : List Addr} {H H' : Hp} {b : Addr} (h : b ∉ cs) : backC cs H H' b = H' b := if_neg h
theorem back_in {cs : List Addr} {H H' : Hp} {b : Addr} (h : b ∈ cs) : backC cs H H' b = H b := if_pos h
theorem CellsAll.no {cs : List Addr} {H : Hp} (C : CellsAll cs H) {b : Addr} {o : HO} (e : H b = some o) (n : ∀ ob x, o ≠ .frz ob (.own x)) : b ∉ cs := fun z => by
  obtain ⟨ob, u, q, _⟩ := C b z
  rw [e] at q
  exact n _ _ (Option.some.inj q)
theorem CellsAll.no0 {cs : List Addr} {H : Hp} (C : CellsAll cs H) {b : Addr} (e : H b = none) : b ∉ cs := fun z => by
  obtain ⟨ob, u, q, _⟩ := C b z
  rw [e] at q
  cases q
section
variable {P : Program} {w : World} {K : PySem.W.Frag} {mg : Str → Option Value} {base : Heap} {A : Around} {outer : List Env} {s s' : Shared} {H : Hp} {cs : List Addr}
theorem hide_hok {h : Heap} (x : HOk P w H h) (C : CellsAll cs H) : HOk P w (hideC cs H) h := fun b o e => by
  by_cases hb : b ∈ cs
  · rw [hide_in hb] at e
    cases e
  · rw [hide_out hb] at e
    exact (x b o e).stay (fun _ _ _ q => q) (fun d q => by rw [hide_out (C.no q fun _ _ z => nomatch z)]; exact q) fun d xs q => by rw [hide_out (C.no q fun _ _ z => nomatch z)]; exact q
theorem env0_hide (e0 : Env0 P w K mg base A outer s H) (C : CellsAll cs H) : Env0 P w K mg base A outer s (hideC cs H) :=
  ⟨e0.frames, e0.mod, fun b o e => ⟨(e0.bs b o e).1, by rw [hide_out (C.no0 (e0.bs b o e).2)]; exact (e0.bs b o e).2⟩, e0.bsz, e0.funs, fun b hb => by rw [hide_out (C.no0 (e0.frf b hb))]; exact e0.frf b hb, hide_hok e0.hok C, e0.bare⟩
/-- the heap behind: the cells' objects are as they were -/
theorem back_hok {H' : Hp} {h h' : Heap} (x : HOk P w H h) (x' : HOk P w H' h') (C : CellsAll cs H) (n : ∀ c ∈ cs, H' c = none) (k : ∀ c ∈ cs, ∀ o, h.get? c = some o → h'.get? c = some o) : HOk P w (backC cs H H') h' := fun b o e => by
  by_cases hb : b ∈ cs
  · rw [back_in hb] at e
    obtain ⟨ob, u, q, _⟩ := C b hb
    rw [e] at q
    cases q
    exact cellO_ok _ (k b hb ob (cellO_at x e))
  · rw [back_out hb] at e
    have no : ∀ d u, H' d = some u → d ∉ cs := fun d u q z => by rw [n d z] at q; cases q
    exact (x' b o e).stay (fun _ _ _ q => q) (fun d q => by rw [back_out (no d _ q)]; exact q) fun d xs q => by rw [back_out (no d _ q)]; exact q
theorem ce_back {Q : VK} {u : Value} (e0 : Env0 P w K mg base A outer s H) (C : CellsAll cs H) (h : CE outer P w (hideC cs H) s (fun v H' => (∀ c ∈ cs, H' c = none) → Q v (backC cs H H')) u s') : CE outer P w H s Q u s' := by
  obtain ⟨v, H', os, bare, un, hok, r, q⟩ := h
  have nf : ∀ c ∈ cs, c ∉ frs outer := fun c hc z => C.no0 (e0.frf c z) hc
  have cell : ∀ c ∈ cs, ∃ o, s.heap.get? c = some o := fun c hc => by
    obtain ⟨o, u, e, _⟩ := C c hc
    exact ⟨o, cellO_at e0.hok e⟩
  have n : ∀ c ∈ cs, H' c = none := fun c hc => by
    obtain ⟨o, e1⟩ := cell c hc
    exact un.free c o e1 (hide_in hc) (by simp)
  refine ⟨v, backC cs H H', os, bare, ⟨fun b o e1 e2 e3 e4 => un.keep b o e1 (by rw [hide_out (C.no0 e2)]; exact e2) e3 e4, fun b o e1 e2 e3 e4 => un.slot b o e1 (by rw [hide_out (C.no0 e2)]; exact e2) e3 e4,
    fun b o e1 e2 e3 => by rw [back_out (C.no0 e2)]; exact un.free b o e1 (by rw [hide_out (C.no0 e2)]; exact e2) e3, un.there, fun b xs e => ?_, fun b o xs e => ?_, fun b ps e => ?_⟩,
    back_hok e0.hok hok C n fun c hc o e => un.keep c o e (hide_in hc) (nf c hc) (by simp), r, q n⟩
  · have hb := C.no e fun _ _ z => nomatch z
    rw [back_out hb]
    exact un.tups b xs (by rw [hide_out hb]; exact e)
  · by_cases hb : b ∈ cs
    · rw [back_in hb]
      exact e
    · rw [back_out hb]
      exact un.frzs b o xs (by rw [hide_out hb]; exact e)
  · have hb := C.no e fun _ _ z => nomatch z
    rw [back_out hb]
    exact un.tbls b ps (by rw [hide_out hb]; exact e)
theorem cx_back {E : XK} {u : Value} (e0 : Env0 P w K mg base A outer s H) (C : CellsAll cs H) (h : L2.CX P w outer (hideC cs H) s (fun cls d H' => (∀ c ∈ cs, H' c = none) → E cls d (backC cs H H')) u s') : L2.CX P w outer H s E u s' := by
  obtain ⟨a, B, H', cls, d, eu, fl, hok, ub, na, os, bare, q⟩ := h
  have nf : ∀ c ∈ cs, c ∉ frs outer := fun c hc z => C.no0 (e0.frf c z) hc
  have cell : ∀ c ∈ cs, ∃ o, s.heap.get? c = some o := fun c hc => by
    obtain ⟨o, u, e, _⟩ := C c hc
    exact ⟨o, cellO_at e0.hok e⟩
  have n : ∀ c ∈ cs, H' c = none := fun c hc => by
    obtain ⟨o, e1⟩ := cell c hc
    exact ub.free c o e1 (hide_in hc)
  have aN : a ∉ cs := fun z => by
    obtain ⟨o, e1⟩ := cell a z
    have e2 := ub.keep a o e1 (hide_in z) (nf a z)
    rw [fl.2.1] at e2
    cases e2
  refine ⟨a, B, backC cs H H', cls, d, eu, fl, back_hok e0.hok hok C n fun c hc o e => ub.keep c o e (hide_in hc) (nf c hc), ⟨fun b o e1 e2 e3 => ub.keep b o e1 (by rw [hide_out (C.no0 e2)]; exact e2) e3, ub.slot,
    fun b o e1 e2 => by rw [back_out (C.no0 e2)]; exact ub.free b o e1 (by rw [hide_out (C.no0 e2)]; exact e2), ub.there, fun b xs e => ?_, fun b o xs e => ?_, fun b ps e => ?_⟩, by rw [back_out aN]; exact na, os, bare, q n⟩
  · have hb := C.no e fun _ _ z => nomatch z
    rw [back_out hb]
    exact ub.tups b xs (by rw [hide_out hb]; exact e)
  · by_cases hb : b ∈ cs
    · rw [back_in hb]
      exact e
    · rw [back_out hb]
      exact ub.frzs b o xs (by rw [hide_out hb]; exact e)
  · have hb := C.no e fun _ _ z => nomatch z
    rw [back_out hb]
    exact ub.tbls b ps (by rw [hide_out hb]; exact e)
theorem cr_back {Q : VK} {E : XK} {r : Result} (e0 : Env0 P w K mg base A outer s H) (C : CellsAll cs H) (h : CR (L2.CX P w) outer P w (hideC cs H) s (fun v H' => (∀ c ∈ cs, H' c = none) → Q v (backC cs H H')) (fun cls d H' => (∀ c ∈ cs, H' c = none) → E cls d (backC cs H H')) r s') : CR (L2.CX P w) outer P w H s Q E r s' := by
  cases r with
  | error e => exact cx_back e0 C h
  | ok fl =>
    cases fl with
    | ret u => exact ce_back e0 C h
    | next => exact False.elim h
    | brk => exact False.elim h
    | cont => exact False.elim h
/-! ### a lambda that is known is called -/
/-- what is known of a closure whose maker is gone: each of its cells, and what it holds -/
structure CellsIn (cl : List (Str × Addr)) (fr : List Str) (ws : List V) (H : Hp) : Prop where
  len : ws.length = fr.length
  all : CellsAll (cl.map (·.2)) H
  inj : ∀ x y c, cl.lookup x = some c → cl.lookup y = some c → x = y
  has : ∀ (i : Nat) (y : Str), fr[i]? = some y → ∃ c, cl.lookup y = some c ∧ ∀ v, ws[i]? = some v → ∃ o u, L2.RelV v u ∧ H c = some (CellO c o) ∧ o.data = .cell (some u)
theorem CellsIn.at_ {cl : List (Str × Addr)} {fr : List Str} {ws : List V} {h : Heap} (C : CellsIn cl fr ws H) (hok : HOk P w H h) : CellsAt cl fr (ws.map some) h (hideC (cl.map (·.2)) H) := by
  have mem : ∀ y c, cl.lookup y = some c → c ∈ cl.map (·.2) := fun y c e => List.mem_map.mpr ⟨(y, c), PySem.mem_of_lookup e, rfl⟩
  refine ⟨by rw [List.length_map]; exact C.len, fun y c e => ⟨hide_in (mem y c e), ?_⟩, C.inj, fun i y e => ?_⟩
  · obtain ⟨o, u, q, d⟩ := C.all c (mem y c e)
    exact ⟨some u, o, cellO_at hok q, d⟩
  · obtain ⟨c, hc, hv⟩ := C.has i y e
    refine ⟨c, hc, fun v ev => ?_⟩
    rw [List.getElem?_map] at ev
    cases ew : ws[i]? with
    | none =>
      rw [ew] at ev
      cases ev
    | some v' =>
      rw [ew] at ev
      cases ev
      obtain ⟨o, u, r, q, d⟩ := hv v ew
      exact ⟨u, r, o, cellO_at hok q, d⟩
theorem run_lamL {F : LF} {f : Addr} {fr : List Str} {ws : List (Option V)} {tb : XK → TE} {k : Nat} (S : NScope fr [] fr F.scope) (hbind : ∀ pm ctv, bindArgs (PySem.W.kla_fn "<lambda>" F.qual F.params F.body F.scope F.cl pm (.ref F.c) ctv) ⟨[], []⟩ = pure [])
    (hbody : ∀ (A : Around) (outer : List Env) (s : Shared) (H : Hp) (E : XK), Room k (A.deeper (envF F.nf f s.heap.objs.size)) → PE (ncx (L2.CX P w) P w K mg base fr F.nf f A outer s H E) F.body (tb E)) {Q : VK} {E : XK} (hr : Room (k + 1) A) (e0 : Env0 P w K mg base A outer s H)
    (hf : H f = some (LamO f F)) (hc : H F.c = some (CodeO F.c F.qual)) (C : CellsAt F.cl fr ws s.heap H) (h : tb E (startF fr [] ws) H Q) : codeAny (model P w) A (.call (.ref f) ⟨[], []⟩) (CR (L2.CX P w) outer P w H s Q E) s := by
  have lim : s.heap.NoLimit := e0.mod.nolimit.keeps fun b o e => (e0.bs b o e).1
  obtain ⟨pm, ctv, of⟩ := lamO_at e0.hok hf
  refine PySem.W.kla_callFunE hr.depth of rfl S.co S.gen rfl (codeO_at e0.hok hc) ?_
  rw [hbind]
  refine wpAny_pure (wpAny_newFunctionEnv S.nocell (fun y hy => absurd hy (by simp)) (fun h₁ hns hsb => ⟨lim.fresh _ hsb, ?_⟩) S.kind)
  show codeAny _ _ (.expr F.body (envF F.nf f s.heap.objs.size)) _ _
  have kp : ∀ b o, s.heap.get? b = some o → h₁.get? b = some o := fun b o e => hsb.extBut b o (Nat.ne_of_lt (Heap.lt_size e)) (Heap.get?_push_of_some _ e)
  have J : Inv (ncx (L2.CX P w) P w K mg base fr F.nf f A outer s H E) [] (startF fr [] ws) H { s with heap := h₁, toks := s.toks + ([] : List (Str × Value)).length } :=
    inv_startN (F := F.nf) (us := []) (vs := []) (ps := []) S hr.hd e0 rfl .nil C hns kp
  refine PySem.W.kla_codeExpr (wpAny_mono ((hbody A outer s H E (hr.deeper _)).run [] _ _ H Q J h) (fun v s' hq => ?_) fun e s' hq => hq)
  obtain ⟨v', H', J', rv, q⟩ := hq
  exact ⟨v', H', J'.os, J'.bare, J'.base, J'.hok, rv, q⟩
end
/-- what the call of the lambda at f does -/
structure LamOk (P : Program) (w : World) (K : PySem.W.Frag) (mg : Str → Option Value) (base : Heap) (k : Nat) (f : Addr) (tl : XK → Hp → VK → Prop) : Prop where
  fn : ∀ E H Q, tl E H Q → ∃ F, H f = some (LamO f F)
  run : ∀ (A : Around) (outer : List Env) (s : Shared) (H : Hp) (Q : VK) (E : XK), Room k A → Env0 P w K mg base A outer s H → tl E H Q → codeAny (model P w) A (.call (.ref f) ⟨[], []⟩) (CR (L2.CX P w) outer P w H s Q E) s
/-- the reading of a lambda whose maker is gone -/
def tDead (f : Addr) (F : LF) (fr : List Str) (ws : List V) (tb : XK → TE) : XK → Hp → VK → Prop := fun E H Q => H f = some (LamO f F) ∧ H F.c = some (CodeO F.c F.qual) ∧ CellsIn F.cl fr ws H ∧
  tb (fun cls d H' => (∀ c ∈ F.cl.map (·.2), H' c = none) → E cls d (backC (F.cl.map (·.2)) H H')) (startF fr [] (ws.map some)) (hideC (F.cl.map (·.2)) H) fun v H' => (∀ c ∈ F.cl.map (·.2), H' c = none) → Q v (backC (F.cl.map (·.2)) H H')
section
variable {P : Program} {w : World} {K : PySem.W.Frag} {mg : Str → Option Value} {base : Heap}
theorem lam_notcell {H : Hp} {cs : List Addr} {f : Addr} {F : LF} (C : CellsAll cs H) (hf : H f = some (LamO f F)) : f ∉ cs := C.no hf fun _ _ z => nomatch z
theorem code_notcell {H : Hp} {cs : List Addr} {c : Addr} {q : Str} (C : CellsAll cs H) (hf : H c = some (CodeO c q)) : c ∉ cs := C.no hf fun _ _ z => nomatch z
theorem lamOk_dead {F : LF} {f : Addr} {fr : List Str} {ws : List V} {tb : XK → TE} {k : Nat} (S : NScope fr [] fr F.scope) (hbind : ∀ pm ctv, bindArgs (PySem.W.kla_fn "<lambda>" F.qual F.params F.body F.scope F.cl pm (.ref F.c) ctv) ⟨[], []⟩ = pure [])
    (hbody : ∀ (A : Around) (outer : List Env) (s : Shared) (H : Hp) (E : XK), Room k (A.deeper (envF F.nf f s.heap.objs.size)) → PE (ncx (L2.CX P w) P w K mg base fr F.nf f A outer s H E) F.body (tb E)) : LamOk P w K mg base (k + 1) f (tDead f F fr ws tb) := by
  refine ⟨fun E H Q h => ⟨F, h.1⟩, fun A outer s H Q E hr e0 h => ?_⟩
  obtain ⟨hf, hc, C, ht⟩ := h
  have e1 := env0_hide e0 C.all
  have r := run_lamL (Q := fun v H' => (∀ c ∈ F.cl.map (·.2), H' c = none) → Q v (backC (F.cl.map (·.2)) H H')) (E := fun cls d H' => (∀ c ∈ F.cl.map (·.2), H' c = none) → E cls d (backC (F.cl.map (·.2)) H H')) S hbind hbody hr e1 (by rw [hide_out (lam_notcell C.all hf)]; exact hf) (by rw [hide_out (code_notcell C.all hc)]; exact hc) (C.at_ e0.hok) ht
  exact codeAny_mono r fun r s' hq => cr_back e0 C.all hq
end
/-! ### handed to a def that calls it -/
/-- the def's frame, while it calls what it was handed -/
abbrev inner (X : Cx) (CXg : CXT) (Eg : XK) (Ng : List Str) (qg : Str) (sg : Scope) (g : Addr) (cdg : Value) (s : Shared) (H : Hp) (pn : List (Addr × Obj)) (xe : Value → Shared → Prop) : Cx := (cxOf CXg X.prog X.w X.K X.mg X.base Ng qg sg g cdg X.A X.stack s H Eg).tr pn xe
/-- a call's end, told in the frame that called -/
theorem call_end {X : Cx} {pins : List (Addr × Obj)} {σ : L2.St} {H : Hp} {s : Shared} {CX : CXT} {Q : VK} {E : XK} {f : Addr} {us : List Value} (I : Inv X pins σ H s) (ps : Passes CX X E) (rc : codeAny (model X.prog X.w) X.A (.call (.ref f) ⟨us, []⟩) (CR CX X.stack X.prog X.w H s Q E) s) :
    wpAny (model X.prog X.w) X.A (call (.ref f) us) (EP X pins σ Q) X.xe s :=
  wpAny_call (codeAny_mono rc fun r s' q => match r, q with
    | .error e, q => ps pins σ H s e s' I q
    | .ok (.ret _), q => I.after q
    | .ok .next, q => q.elim
    | .ok .brk, q => q.elim
    | .ok .cont, q => q.elim)
/-- a(), a a slot that holds the function at f: what is known of f's calls at each state of the frame -/
theorem act_gen {X : Cx} {s : Shared} {H : Hp} {CXg : CXT} {Eg : XK} {Ng : List Str} {qg : Str} {sg : Scope} {g f : Addr} {cdg : Value} {i : Nat} {a : Str} {pn : List (Addr × Obj)} {xe : Value → Shared → Prop} {W : WX} {E : XK} {w0 : Hp → VK → Prop} {p1 p2 : Pos}
    (tk : Takes (inner X CXg Eg Ng qg sg g cdg s H pn xe) W) (hW : ∀ cls d σ' H', E cls d H' → W cls d σ' H') (hN : Ng[i]? = some a) (hv : Vis sg a) (hd : (a == ("__debug__" : Str)) = false) (hcd : (a == ("__classdict__" : Str)) = false)
    (go : ∀ (pins : List (Addr × Obj)) (σ : L2.St) (H' : Hp) (s' : Shared) (Q : VK), Inv (inner X CXg Eg Ng qg sg g cdg s H pn xe) pins σ H' s' → w0 H' Q → PySem.W.FnAt f s'.heap ∧ codeAny (model X.prog X.w) (X.A.deeper (envOfC qg sg s.heap.objs.size g cdg)) (.call (.ref f) ⟨[], []⟩) (CR (L2.CX X.prog X.w) (inner X CXg Eg Ng qg sg g cdg s H pn xe).stack X.prog X.w H' s' Q E) s') :
    PE (inner X CXg Eg Ng qg sg g cdg s H pn xe) (.Call (.Name a p1) [] [] p2) (fun σ H' Q => σ[i]? = some (some (.ref f)) ∧ w0 H' Q) := by
  constructor
  rintro pins s0 σ H0 Q I ⟨slot, hw⟩
  have rd := (pe_var (X := inner X CXg Eg Ng qg sg g cdg s H pn xe) (pos := p1) (i := i) hN hv hd hcd).run pins s0 σ H0 (fun v H1 => v = .ref f ∧ H1 = H0) I ⟨.ref f, slot, rfl, rfl⟩
  refine wpAny_Call_Name_kw (thn rd ?_)
  rintro u s1 ⟨_, _, J, ru, rfl, rfl⟩
  cases (show u = Value.ref f from ru)
  obtain ⟨fn, rc⟩ := go pins σ _ s1 Q J hw
  exact PySem.W.callWith_F0 fn (call_end J (passes_call tk hW) rc)
theorem act_of {X : Cx} {s : Shared} {H : Hp} {CXg : CXT} {Eg : XK} {Ng : List Str} {qg : Str} {sg : Scope} {g f c' : Addr} {cdg : Value} {k i : Nat} {a q : Str} {pn : List (Addr × Obj)} {xe : Value → Shared → Prop} {W : WX} {E : XK} {tl : XK → Hp → VK → Prop} {p1 p2 : Pos}
    (L : LamOk X.prog X.w X.K X.mg X.base k f tl) (tk : Takes (inner X CXg Eg Ng qg sg g cdg s H pn xe) W) (hW : ∀ cls d σ' H', E cls d H' → W cls d σ' H') (room : Room k (X.A.deeper (envOfC qg sg s.heap.objs.size g cdg))) (hN : Ng[i]? = some a) (hv : Vis sg a)
    (hd : (a == ("__debug__" : Str)) = false) (hcd : (a == ("__classdict__" : Str)) = false) : PE (inner X CXg Eg Ng qg sg g cdg s H pn xe) (.Call (.Name a p1) [] [] p2) (fun σ H' Q => σ[i]? = some (some (.ref f)) ∧ H' c' = some (CodeO c' q) ∧ tl E H' Q) :=
  act_gen (w0 := fun H' Q => H' c' = some (CodeO c' q) ∧ tl E H' Q) tk hW hN hv hd hcd fun _ _ H' s' Q J hw => by
    obtain ⟨F, hf⟩ := L.fn E H' Q hw.2
    obtain ⟨pm, ctv, o⟩ := lamO_at J.hok hf
    exact ⟨⟨_, _, _, _, o⟩, L.run _ _ s' H' Q E room J.env0 hw.2⟩
/-- x(e), e a lambda that is known -/
def tKindR (P : Program) (w : World) (K : PySem.W.Frag) (mg : Str → Option Value) (base : Heap) (k : Nat) (q : Str) (TT : (XK → Hp → VK → Prop) → Hp → VK → Prop) (te : TE) : TE := fun σ H Q => te σ H fun v H1 => ∃ (f c' : Addr) (tl : XK → Hp → VK → Prop), v = .ref f ∧ H1 c' = some (CodeO c' q) ∧ LamOk P w K mg base k f tl ∧ TT tl H1 Q
theorem pe_kindR {X : Cx} {TT : (XK → Hp → VK → Prop) → Hp → VK → Prop} {x a q : Str} {st : Stmt} {k : Nat} {Ng : List Str} {e : Expr} {te : TE} {p pos : Pos} (F : FunAt X.K X.mg x st) (Sg : FnScope Ng [a] (defScope st)) (bo : BindOk x st [a]) (hg : Gl X x) (hNg : Ng[0]? = some a) (hva : Vis (defScope st) a)
    (hG : ∀ (g : Addr) (cdg : Value), GivesTo X Ng x (defScope st) g cdg (defBody st) a q TT) (hr : Room (k + 1) X.A) (he0 : PE X e te)
    (hdb : (x == ("__debug__" : Str)) = false := by decide) (hd : (a == ("__debug__" : Str)) = false := by decide) (hcd : (a == ("__classdict__" : Str)) = false := by decide)
    (he : starEach (e :: []) X.env = (false, eval e X.env) :: starEach [] X.env := by rfl) (hpl : (backTo pos (starEach [] X.env)).any (·.1) = false := by rfl) :
    PE X (.Call (.Name x p) [e] [] pos) (tKindR X.prog X.w X.K X.mg X.base k q TT te) := by
  obtain ⟨g, fd, F, hm⟩ := F.ex
  obtain ⟨oc, od, kV, doc, pm, an, cdv, ct, osl, rfl, lk, hcd'⟩ := F.ex
  have hb := Binds.all (K := X.K) (bo kV doc pm an cdv ct)
  refine ⟨fun pins s σ H Q I h => ?_⟩
  refine wpAny_Call_Name_kw (ld_glob I hg hm ?_ hdb)
  have pa : PA X [e] (tCons te tNil) := pa_cons (hs := he) he0 pa_nil
  have h' : tCons te tNil σ H (fun vs H1 => match vs with
    | [v] => ∃ (f c' : Addr) (tl : XK → Hp → VK → Prop), v = .ref f ∧ H1 c' = some (CodeO c' q) ∧ LamOk X.prog X.w X.K X.mg X.base k f tl ∧ TT tl H1 Q
    | _ => False) := h
  refine PySem.W.callWith_K (h₀ := X.base) I.ok.mod.kin F.kp (thn (pa.run pos pins s σ H _ I h') fun us s1 hh => ?_) he hpl
  · obtain ⟨vs, H1, I1, r1, z⟩ := hh
    obtain ⟨v, ev⟩ : ∃ v, vs = [v] := by
      match vs, z with
      | [v], _ => exact ⟨v, rfl⟩
    subst ev
    obtain ⟨f, c', tl, ef, hco, L, ht⟩ := z
    subst ef
    refine ⟨I1.kIn, ?_⟩
    cases r1 with
    | cons rv rn =>
      cases rn
      cases rv
      refine call_end I1 (CX := C8.CX0) (E := C8.E0) (fun _ _ _ _ _ _ _ z => z.elim) (run_ofS (N := Ng) (ps := [a]) (us := [.ref f]) (vs := [.ref f]) lk hcd' Sg hr I1.env0 (hb s1 [.ref f] I1.kIn rfl) (.cons rfl .nil) rfl fun room => ?_)
      obtain ⟨t, d, w⟩ := hG g cdv f c' s1 H1 Q tl (fun W pn xe E p1 p2 tk hW => act_of L tk hW room hNg hva hd hcd) hco ht
      exact ⟨t, d.nox, w⟩
/-! ### a def whose cells live on behind it -/
/-- the heap behind the def: its cells are known -/
structure Grown (X : Cx) (σ : L2.St) (H H' : Hp) : Prop where
  keep : ∀ b o, H b = some o → H' b = some o
  inj : ∀ x y c, X.env.cells.lookup x = some c → X.env.cells.lookup y = some c → x = y
  has : ∀ y, X.env.scope.names.lookup y = some .cell → ∃ c, X.env.cells.lookup y = some c
  cell : ∀ (i : Nat) (y : Str) (a c : Addr), X.N[i]? = some y → σ[i]? = some (some (.ref a)) → X.env.scope.names.lookup y = some .cell → X.env.cells.lookup y = some c → ∃ o, H' c = some (CellO c o) ∧ o.data = .cell (some (.ref a))
open Classical in
theorem fin_cells {X : Cx} {σ : L2.St} {H : Hp} {s : Shared} {Q : VK} {a : Addr} (J : Inv X [] σ H s) (hex : X.ex = []) (hfn : ∀ y, X.fn y = true) (hz : ∀ H', Grown X σ H H' → Q (.ref a) H') : CE X.outer X.prog X.w X.H_0 X.s_0 Q (.ref a) s := by
  obtain ⟨H', h1, h2⟩ : ∃ H' : Hp, (∀ b, (∃ o, (∃ y, X.env.cells.lookup y = some b) ∧ s.heap.get? b = some o ∧ H' b = some (CellO b o)) ∨ H' b = H b) ∧ (∀ b y o, X.env.cells.lookup y = some b → s.heap.get? b = some o → H' b = some (CellO b o)) := by
    refine ⟨fun b => if (∃ y, X.env.cells.lookup y = some b) then (match s.heap.get? b with
      | some o => some (CellO b o)
      | none => H b) else H b, fun b => ?_, fun b y o e z => ?_⟩
    · by_cases h : ∃ y, X.env.cells.lookup y = some b
      · cases e : s.heap.get? b with
        | some o => exact .inl ⟨o, h, rfl, by dsimp only; rw [if_pos h, e]⟩
        | none => exact .inr (by dsimp only; rw [if_pos h, e])
      · exact .inr (if_neg h)
    · have h : ∃ y, X.env.cells.lookup y = some b := ⟨y, e⟩
      dsimp only
      rw [if_pos h, z]
  have keep : ∀ b o, H b = some o → H' b = some o := fun b o e => by
    rcases h1 b with ⟨o', ⟨y, q⟩, _⟩ | q
    · rw [J.freeC y b q] at e
      cases e
    · rw [q]
      exact e
  have out : ∀ b o, X.s_0.heap.get? b = some o → H b = none → H' b = none := fun b o e n => by
    rcases h1 b with ⟨u, ⟨y, q⟩, _⟩ | q
    · exact absurd (Nat.lt_of_lt_of_le (Heap.lt_size e) (J.ok.cab y b (hfn y) q)) (Nat.lt_irrefl _)
    · rw [q]
      exact n
  have B := J.base
  rw [hex] at B
  refine ⟨.ref a, H', J.os, J.bare, ⟨B.keep, B.slot, fun b o e n hx => out b o e (B.free b o e n hx), B.there, fun b xs e => keep _ _ (B.tups b xs e), fun b o xs e => keep _ _ (B.frzs b o xs e), fun b ps e => ?_⟩, fun b o e => ?_, rfl, hz H' ⟨keep, J.ok.inj, fun y e => J.ok.has y (.inl e), fun i y a c e1 e2 e3 e4 => ?_⟩⟩
  · obtain ⟨more, q⟩ := B.tbls b ps e
    exact ⟨more, keep _ _ q⟩
  · rcases h1 b with ⟨o', _, z, q⟩ | q
    · rw [q] at e
      cases e
      exact cellO_ok _ z
    · rw [q] at e
      exact (J.hok b o e).stay (fun _ _ _ q => q) (fun d q => keep _ _ q) fun d xs q => keep _ _ q
  · obtain ⟨m, _, hl⟩ := J.loc
    obtain ⟨u, r, l⟩ := hl i y (.ref a) e1 e2 (.inr (.inl e3))
    obtain rfl : u = Value.ref a := r
    rcases l with ⟨z, _⟩ | ⟨_, c', e', z⟩
    · have z' : X.env.scope.names.lookup y = some .local := z
      rw [e3] at z'
      cases z'
    · rw [e4] at e'
      cases e'
      obtain ⟨o, o1, o2⟩ := z
      exact ⟨o, h2 c y o e4 o1, o2⟩
/-- .. and so is each closure that captured them -/
theorem Grown.cells {X : Cx} {σ : L2.St} {H H' : Hp} {sc : Scope} {fr : List Str} {ws : List V} (G : Grown X σ H H') (L : LamS X.env.scope sc) (nofree : ∀ y ∈ X.env.scope.names, y.2 ≠ .free) (hfr : ∀ y ∈ sc.names, y.2 = .free → y.1 ∈ fr) (frk : ∀ y ∈ fr, (y, NameKind.free) ∈ sc.names)
    (len : ws.length = fr.length) (vals : ∀ (i : Nat) (y : Str), fr[i]? = some y → ∃ (j : Nat) (a : Addr), X.N[j]? = some y ∧ σ[j]? = some (some (.ref a)) ∧ ws[i]? = some (.ref a)) : CellsIn (cloFrom X.env.cells sc.names []) fr ws H' := by
  have kind : ∀ y, (y, NameKind.free) ∈ sc.names → X.env.scope.names.lookup y = some .cell := fun y hy => by
    rcases L.free _ hy rfl with e | e
    · exact e
    · exact absurd rfl (nofree _ (PySem.mem_of_lookup e))
  have hfree : ∀ y ∈ sc.names, y.2 = .free → ∃ c, X.env.cells.lookup y.1 = some c := fun y hy e => by
    obtain ⟨y, k⟩ := y
    cases e
    exact G.has y (kind y hy)
  refine ⟨len, fun c hc => ?_, fun x y c e1 e2 => G.inj x y c (clo_cm hfree e1) (clo_cm hfree e2), fun i y e => ?_⟩
  · obtain ⟨⟨y, c'⟩, hm, rfl⟩ := List.mem_map.mp hc
    rcases cloFrom_mem hm with z | ⟨z, ec⟩
    · cases z
    · obtain ⟨c2, e2⟩ := hfree _ z rfl
      have e2 : X.env.cells.lookup y = some c2 := e2
      have e3 : c' = c2 := by
        rw [ec, e2]
        rfl
      obtain ⟨i, hi⟩ := List.mem_iff_getElem?.mp (hfr _ z rfl)
      obtain ⟨j, a, h1, h2, _⟩ := vals i y hi
      obtain ⟨o, q, d⟩ := G.cell j y a c2 h1 h2 (kind y z) e2
      exact ⟨o, _, by rw [show ((y, c') : Str × Addr).2 = c2 from e3]; exact q, d⟩
  · have hy := frk y (List.mem_of_getElem? e)
    obtain ⟨c, e2⟩ := G.has y (kind y hy)
    refine ⟨c, clo_has hfree hy e2, fun v ev => ?_⟩
    obtain ⟨j, a, h1, h2, h3⟩ := vals i y e
    rw [h3] at ev
    cases ev
    obtain ⟨o, q, d⟩ := G.cell j y a c h1 h2 (kind y hy) e2
    exact ⟨o, _, rfl, q, d⟩
/-- statements run to the def's end, told at the end of the very names -/
structure PSk (X : Cx) (R : Flow → Shared → Prop) (l : List Stmt) (W : L2.St → Hp → Prop) : Prop where
  run : ∀ (s : Shared) (σ : L2.St) (H : Hp), Inv X [] σ H s → W σ H → wpAny (model X.prog X.w) X.A (execs l X.env) R X.xe s
theorem psk_cons {X : Cx} {R : Flow → Shared → Prop} {st : Stmt} {rest : List Stmt} {t : TS} {W : L2.St → Hp → Prop} (h1 : PS X st t) (h2 : PSk X R rest W) : PSk X R (st :: rest) (fun σ H => t { nx := W, rt := fun _ _ => False } σ H) := by
  refine ⟨fun s σ H I h => wpAny_execs_cons (thn (h1.run [] s σ H _ I h) fun f s1 q => ?_)⟩
  cases f with
  | next =>
    obtain ⟨σ', H', I', q⟩ := q
    exact h2.run s1 σ' H' I' q
  | ret v =>
    obtain ⟨_, _, _, _, _, z⟩ := q
    exact False.elim z
  | brk =>
    obtain ⟨_, _, _, z⟩ := q
    exact False.elim z
  | cont =>
    obtain ⟨_, _, _, z⟩ := q
    exact False.elim z
def RC (X : Cx) (Q : VK) : Flow → Shared → Prop := fun fl s' => match fl with
  | .ret u => CE X.outer X.prog X.w X.H_0 X.s_0 Q u s'
  | _ => False
theorem psk_ret {X : Cx} {Q : VK} {r : Str} {i : Nat} {p1 p2 : Pos} (hN : X.N[i]? = some r) (hv : Vis X.env.scope r) (hex : X.ex = []) (hfn : ∀ y, X.fn y = true) (hd : (r == ("__debug__" : Str)) = false := by decide) (hcd : (r == ("__classdict__" : Str)) = false := by decide) :
    PSk X (RC X Q) [.Return (some (.Name r p1)) p2] (fun σ H => ∃ a, σ[i]? = some (some (.ref a)) ∧ ∀ H', Grown X σ H H' → Q (.ref a) H') := by
  refine ⟨fun s σ H I h => ?_⟩
  obtain ⟨a, hs, hz⟩ := h
  refine wpAny_execs_cons (wpAny_Return_some (thn ((pe_var (pos := p1) (i := i) hN hv hd hcd).run [] s σ H (fun v H1 => v = .ref a ∧ H1 = H) I ⟨.ref a, hs, rfl, rfl⟩) fun u s1 ⟨v, H1, I1, r1, q1⟩ => ?_))
  obtain ⟨ev, eH⟩ := q1
  subst ev
  rw [eH] at I1
  obtain rfl : u = Value.ref a := r1
  exact fin_cells I1 hex hfn hz
section
variable {P : Program} {w : World} {K : PySem.W.Frag} {mg : Str → Option Value} {base : Heap}
theorem FunTab.okC {x : Str} {st : Stmt} {N ps : List Str} {k : Nat} {sp : Sp} {c Pt : Addr} (F : FunTab K mg x st c Pt) (S : FnScope N ps (defScope st)) (bo : BindOk x st ps) (len : ∀ vs H Q E, sp vs H Q E → vs.length = ps.length)
    (hbody : ∀ (f : Addr) (A : Around) (outer : List Env) (s : Shared) (H : Hp) (vs : List V) (Q : VK) (E : XK), Room k (A.deeper (envOfC x (defScope st) s.heap.objs.size f (.ref c))) → sp vs H Q E →
      ∃ W, PSk (cxOf L2.CX0 P w K mg base N x (defScope st) f (.ref c) A outer s H E) (RC (cxOf L2.CX0 P w K mg base N x (defScope st) f (.ref c) A outer s H E) Q) (defBody st) W ∧ W (L2.start N vs) H) : Has P w K mg base L2.CX0 (k + 1) x sp := by
  obtain ⟨f, oc, od, an, kV, doc, pm, ct, osl, lk, hcd, kp, hm⟩ := F.ex
  refine ⟨f, _, ps, ⟨len, fun A outer s H args us vs Q E hr e0 hb r hsp => ?_⟩, hm, kp, Binds.all (bo kV doc pm an (.ref c) ct)⟩
  have stays := fun b o e => (e0.bs b o e).1
  have kinds : ∀ y ∈ ps.zip us, (defScope st).names.lookup y.1 = some .local ∨ ((defScope st).names.lookup y.1 = some .cell ∧ ((cellsFrom (s.heap.objs.size + 1) (defScope st).names []).lookup y.1).isSome = true) := fun y hy =>
    (S.par y.1 (List.of_mem_zip (a := y.1) (b := y.2) hy).1).imp (fun q => q) fun q => ⟨q, PySem.W.cellsFrom_some _ _ _ (.inl q)⟩
  have inK := e0.mod.kin.keeps stays
  refine codeAny_call_function hr.depth (inK _ _ lk) rfl S.co S.gen rfl (PySem.W.codeRec_of inK hcd) (hb _ _ _ _ (wpAny_newFunctionEnv_cells S.kind kinds ?_))
  rintro _ rfl s1 x1
  refine ⟨(e0.mod.nolimit.keeps stays).keeps x1.toInCall.keep, codeAny_func ?_⟩
  obtain ⟨W, ht, hq⟩ := hbody f A outer s H vs Q E (hr.deeper _) hsp
  have I : Inv (cxOf L2.CX0 P w K mg base N x (defScope st) f (.ref c) A outer s H E) [] (L2.start N vs) H s1 := inv_start S hr.hd e0 (len _ _ _ _ hsp) r x1
  refine wpAny_mono (ht.run s1 (L2.start N vs) H I hq) (fun fl s' hs => ?_) fun e s' hs => hs
  cases fl with
  | ret u => exact hs
  | next => exact False.elim hs
  | brk => exact False.elim hs
  | cont => exact False.elim hs
end
theorem kpe_kindR {X : Cx} {P : Program} {w : World} {K : PySem.W.Frag} {mg : Str → Option Value} {base : Heap} {TT : (XK → Hp → VK → Prop) → Hp → VK → Prop} {x a q : Str} {st : Stmt} {k : Nat} {Ng : List Str} {e : Expr} {te : TE} {p pos : Pos} (hP : X.prog = P) (hw : X.w = w) (hK : X.K = K) (hM : X.mg = mg) (hB : X.base = base)
    (F : FunAt X.K X.mg x st) (Sg : FnScope Ng [a] (defScope st)) (bo : BindOk x st [a]) (hg : Gl X x) (hNg : Ng[0]? = some a) (hva : Vis (defScope st) a)
    (hG : ∀ (g : Addr) (cdg : Value), GivesTo X Ng x (defScope st) g cdg (defBody st) a q TT) (hr : Room (k + 1) X.A) (he0 : PE X e te)
    (hdb : (x == ("__debug__" : Str)) = false := by decide) (hd : (a == ("__debug__" : Str)) = false := by decide) (hcd : (a == ("__classdict__" : Str)) = false := by decide)
    (he : starEach (e :: []) X.env = (false, eval e X.env) :: starEach [] X.env := by rfl) (hpl : (backTo pos (starEach [] X.env)).any (·.1) = false := by rfl) :
    PE X (.Call (.Name x p) [e] [] pos) (tKindR P w K mg base k q TT te) := by
  subst hP hw hK hM hB
  exact pe_kindR F Sg bo hg hNg hva hG hr he0 hdb hd hcd he hpl
end Rd

/-! ## a comprehension whose elements lean on the running frame's cells -/
namespace Rd
open PySem PySem.Spec PyProof.Rows L2 LamX NdefX
section
variable {X : Cx}
/-- the block's context -/
abbrev BX (X : Cx) (s : Shared) (H : Hp) (scope : Scope) (ce : Env) (fp : List Addr) : Cx := X.blk s H scope ce fp
/-- the iterator's own objects may turn within the block -/
theorem bx_fp {s s' : Shared} {H H' : Hp} {scope : Scope} {ce : Env} {fp : List Addr} {σ : L2.St} (J : Inv (BX X s H scope ce fp) [] σ H' s') (free : ∀ b ∈ fp, H' b = none) : ∀ b ∈ fp, FpOk (BX X s H scope ce fp) [] H' b := by
  intro b hb
  have e := J.ok.exf b hb
  exact ⟨free b hb, e.1, J.ok.exfs b hb, Or.inl hb, e.2, fun p hp => nomatch (show p ∈ ([] : List (Addr × Obj)) from hp)⟩
/-- where the loop stands between two turns: Z what the reading knows, by the turn and its measure -/
structure LoopAt (X : Cx) (s : Shared) (H : Hp) (scope : Scope) (ce : Env) (fp : List Addr) (tn : Nat → Heap → Prop) (σ : L2.St) (Z : Nat → Nat → Hp → Prop) (n i : Nat) (H' : Hp) (s' : Shared) : Prop where
  inv : Inv (BX X s H scope ce fp) [] σ H' s'
  it : tn i s'.heap
  free : ∀ b ∈ fp, H' b = none
  z : Z i n H'
/-- behind the last turn the frame around stands again, the block's names let go -/
theorem LoopAt.leave {pins : List (Addr × Obj)} {s s' s6 : Shared} {σ σw : L2.St} {H H' : Hp} {scope : Scope} {ce : Env} {fp : List Addr} {D : Addr} {Q : VK} (I : Inv X pins σ H s) (fps : ∀ b ∈ fp, FpOk X pins H b) (cL : ce.locals = s.heap.objs.size) (J : Inv (BX X s H scope ce fp) [] σw H' s6) (q : Q (.ref D) H') :
    ∃ m, s6.heap.Ns s.heap.objs.size m ∧ ∀ h', Heap.SameBut s.heap.objs.size s6.heap h' → EP X pins σ Q (.ref D) { s6 with heap := h' } := by
  have back : Inv X pins σ H' s6 := I.call' (ch := fp) J.os J.base J.hok J.bare fun b hb => by
    obtain ⟨_, b1, _, b2, b3, b4⟩ := fps b hb
    exact ⟨b2, b1, b3, b4⟩
  have names := J.loc
  rw [show (BX X s H scope ce fp).env.locals = s.heap.objs.size from cL] at names
  obtain ⟨m, ns, _⟩ := names
  have own : H' s.heap.objs.size = none := cL ▸ J.free
  obtain ⟨o1, o2, _, o3, o4, o5⟩ := I.fpOk (Nat.le_refl _) own
  exact ⟨m, ns, fun h' but => ⟨.ref D, H', back.turned (t' := s6.toks) (fun b o ne e => (but.2 b ne).trans e) o1 o2 o3 o4 o5, rfl, q⟩⟩
/-- the block's loop -/
theorem lcI_loop {pins : List (Addr × Obj)} {s s4 : Shared} {σ : L2.St} {H : Hp} {elt tg iter : Expr} {scope : Scope} {ce : Env} {vs : List Nat} {pos : Pos} {g : TG} {te : TE} {fp : List Addr} {tn : Nat → Heap → Prop} {J : It} {it D : Addr} {Q : VK} {Z : Nat → Nat → Hp → Prop} {m0 : Nat} (hc : X.calm = true) (I : Inv X pins σ H s)
    (fps : ∀ b ∈ fp, FpOk X pins H b) (cL : ce.locals = s.heap.objs.size) (T : Turn X.prog X.w X.K tg J fp it tn) (pg : PG (BX X s H scope ce fp) tg g) (pe : PE (BX X s H scope ce fp) elt te)
    (turn : ∀ i m H', Z i m H' → (J.stop i H' ∧ Q (.ref D) H') ∨ (J.go i H' ∧ ∃ Nx : Hp → Prop, (∀ H2, Nx H2 → ∃ m', m' < m ∧ Z (i + 1) m' H2) ∧ ∀ x H2, J.yld i H' x H2 → g x (wipe σ vs) H2 fun σ2 H3 => wipe σ2 vs = wipe σ vs ∧ te σ2 H3 fun y H4 => ∃ acc, H4 D = some (.lst acc) ∧ acc.length < sizeLine ∧ Nx (upd H4 D (.lst (acc ++ [y])))))
    (start : LoopAt X s H scope ce fp tn (wipe σ vs) Z m0 0 H s4) :
    codeAny (model X.prog X.w) X.A (.compLoop (.ListComp elt [⟨tg, iter, [], 0⟩] scope pos) 0 (.ref it) (.ref D) ce) (compPost (model X.prog X.w) X.A X.xe none (EP X pins σ Q) (.ref D) s.heap.objs.size) s4 := by
  refine compLoop_any (fun n s' => ∃ i H', LoopAt X s H scope ce fp tn (wipe σ vs) Z n i H' s') ?_ m0 ⟨0, H, start⟩
  rintro n s5 ⟨i, H5, A⟩
  have fk := bx_fp A.inv A.free
  rcases turn i n H5 A.z with h | ⟨go, Nx, less, step⟩
  · refine thnF (T.done (BX X s H scope ce fp) rfl rfl rfl hc i [] s5 _ H5 (fun _ _ => False) A.inv fk A.it h.1) ?_
    rintro _ s6 ⟨rfl, A6⟩
    exact LoopAt.leave (s' := s5) I fps cL A6 h.2
  · refine thnF (T.item (BX X s H scope ce fp) rfl rfl rfl hc i [] s5 _ H5 (fun _ _ => False) A.inv fk A.it go) ?_
    rintro _ s6 ⟨u, rfl, next⟩
    refine thnF next ?_
    rintro _ s7 ⟨x, H7, A7, rx, y7, t7, free7⟩
    have objs := T.obj _ _ t7
    have P7 := A7.pinned (bx_fp A7 free7) objs
    refine thnF (pg.run _ s7 _ H7 x u _ P7 rx (step x H7 y7)) ?_
    rintro _ s8 ⟨σ8, H8, A8, same8, q8⟩
    refine wpAny_tests_nil ?_
    rw [if_pos rfl]
    refine thnF (pe.run _ s8 σ8 H8 _ A8 q8) ?_
    rintro v s9 ⟨y, H9, A9, ry, acc, atD, few, nx⟩
    refine app_ok (X := BX X s H scope ce fp) A9 atD few ry fun s10 A10 => ?_
    obtain ⟨m, lt, z⟩ := less _ nx
    have pin : ∀ b ∈ fp, ∀ o, s7.heap.get? b = some o → s10.heap.get? b = some o ∧ upd H9 D (.lst (acc ++ [y])) b = none := fun b hb o e => by
      have w := A10.pin (b, o) (List.mem_append_right _ (List.mem_append_right _ (mem_pinsAt hb e)))
      exact ⟨w.1, w.2.1⟩
    refine ⟨m, lt, i + 1, _, ⟨(A10.unpinned (pins := [])).weak (by rw [← same8, wipe_length]) fun j v e => (wipe_some (vs := vs) (same8 ▸ e)).1, T.keep _ _ _ t7 fun b hb o e => (pin b hb o e).1, fun b hb => ?_, z⟩⟩
    obtain ⟨o, e, _⟩ := objs b hb
    exact (pin b hb o e).2
/-- [elt for tg in iter]; elt may lean on what is true of the frame where the block begins -/
theorem pe_lcI {elt tg iter : Expr} {scope : Scope} {own : List (Str × Nat)} {pos : Pos} {wi : TI} {g : TG} {te : L2.St → TE} (hc : X.calm = true) (hN : X.N.Nodup) (hi : PI X tg iter wi) (ok : BlkOk X.N X.env.scope scope own)
    (hg : ∀ (s : Shared) (H : Hp) (C : Addr) (cl : List (Str × Addr)) (fp : List Addr), PG (BX X s H scope (compEnvC scope cl C X.env) fp) tg g)
    (he : ∀ (pins : List (Addr × Obj)) (s : Shared) (σ : L2.St) (H : Hp) (C : Addr) (cl : List (Str × Addr)) (fp : List Addr), Inv X pins σ H s → (∀ b ∈ fp, FpOk X pins H b) → PE (BX X s H scope (compEnvC scope cl C X.env) fp) elt (te σ))
    (hs : ∀ x, foldedSetIterable iter X.env x = pure x := by intro _; rfl) : PE X (.ListComp elt [⟨tg, iter, [], 0⟩] scope pos) (fun σ H Q => tLc wi g tYes (te σ) (own.map (·.2)) σ H Q) := by
  constructor
  intro pins s σ H Q I h
  have clo := closure_ok (env := X.env) (scope := scope) fun y hy e => (ok.free y hy e).elim (fun k => I.ok.has _ (.inl k)) fun k => I.ok.has _ (.inr k)
  rw [eval_ListComp]
  refine wpAny_comprehension_free (use := none) rfl hs clo ok.kind (fun y hy e => e ▸ ok.uniq y hy) (thn (hi.run pins s σ H _ I h) fun _ s1 h1 => thn h1 ?_)
  rintro _ s2 ⟨it, fp, tn, J, H2, rfl, I2, T, t2, f2, q⟩
  have objs := T.obj _ _ t2
  have old : ∀ b ∈ fp, b < s2.heap.objs.size := fun b hb => (objs b hb).elim fun _ z => Heap.lt_size z.1
  obtain ⟨Z, ⟨m0, z0⟩, turn⟩ := q s2.heap.objs.size (I2.hok.fresh (Nat.le_refl _))
  refine wpAny_newObj_type (newEnv_comp ?_) (Nat.zero_le _)
  -- the list, then the block's names
  have I3 : Inv X pins σ (upd H2 s2.heap.objs.size (.lst [])) { s2 with heap := s2.heap.push { cls := .type "list", data := .seq ([] : List Value).toArray } } :=
    I2.laid (t' := s2.toks) (fun _ _ e => Heap.get?_push_of_some _ e) (Nat.le_refl _) ⟨Nat.zero_le _, [], 0, .nil, Heap.get?_push_size _ rfl⟩
  have f3 : ∀ b ∈ fp, FpOk X pins (upd H2 s2.heap.objs.size (.lst [])) b := fun b hb => ⟨(upd_ne (Nat.ne_of_lt (old b hb))).trans (f2 b hb).1, (f2 b hb).2⟩
  have J4 := block_start I3 ok hN fun b hb => ⟨f3 b hb, by rw [Heap.size_push]; exact Nat.lt_succ_of_lt (old b hb)⟩
  have t4 := T.keep _ _ (pushCells (Heap.push (s2.heap.push { cls := .type "list", data := .seq ([] : List Value).toArray }) { cls := .type "dict", data := .dict #[] }) scope.names) t2 fun b _ o e => pushCells_keeps _ _ _ _ (Heap.get?_push_of_some _ (Heap.get?_push_of_some _ e))
  have loop := lcI_loop (iter := iter) (pos := pos) hc I3 f3 rfl T (hg _ _ _ _ fp) (he pins _ σ _ _ _ fp I3 f3) (fun i m H' hz => (turn i m H' hz).imp (fun x => x) fun x => ⟨x.1, x.2.imp fun Nx y => ⟨y.1, fun v H5 yl => y.2 v H5 yl⟩⟩) ⟨J4, t4, fun b hb => (f3 b hb).1, z0⟩
  exact codeAny_compStart_list loop (T.self X.A 0 _ _ _ t4 loop)
end
/-! ### a lambda whose maker's frame stands -/
/-- what is known of the lambda F -/
structure LiveOk (P : Program) (w : World) (K : PySem.W.Frag) (mg : Str → Option Value) (base : Heap) (k : Nat) (f : Addr) (F : LF) (fr : List Str) (tb : XK → TE) : Prop where
  S : NScope fr [] fr F.scope
  bind : ∀ pm ctv, bindArgs (PySem.W.kla_fn "<lambda>" F.qual F.params F.body F.scope F.cl pm (.ref F.c) ctv) ⟨[], []⟩ = pure []
  body : ∀ (A : Around) (outer : List Env) (s : Shared) (H : Hp) (E : XK), Room k (A.deeper (envF F.nf f s.heap.objs.size)) → PE (ncx (L2.CX P w) P w K mg base fr F.nf f A outer s H E) F.body (tb E)
/-- the running frame's own cell is no frame -/
theorem own_nf {X : Cx} {pins : List (Addr × Obj)} {σ : L2.St} {H : Hp} {s : Shared} (I : Inv X pins σ H s) (hfn : ∀ y, X.fn y = true) {y : Str} {c : Addr} (e : X.env.cells.lookup y = some c) : c ∉ frs X.stack := fun z => by
  rcases List.mem_cons.mp (I.stkSub c z) with e2 | hb
  · exact I.cne y c e e2
  · obtain ⟨_, o, ho, _⟩ := I.ok.funs.mem hb
    exact absurd (Nat.lt_of_lt_of_le (Heap.lt_size ho) (I.ok.cab y c (hfn y) e)) (Nat.lt_irrefl _)
def tLive (f : Addr) (F : LF) (fr : List Str) (ws : List (Option V)) (tb : XK → TE) : XK → Hp → VK → Prop := fun E HZ Q => HZ f = some (LamO f F) ∧ HZ F.c = some (CodeO F.c F.qual) ∧ tb E (startF fr [] ws) HZ Q
theorem act_live {X : Cx} {s : Shared} {H : Hp} {CXg : CXT} {Eg : XK} {Ng : List Str} {qg : Str} {sg : Scope} {g f c' : Addr} {cdg : Value} {k i : Nat} {a q : Str} {pn : List (Addr × Obj)} {xe : Value → Shared → Prop} {W : WX} {E : XK} {F : LF} {fr : List Str} {ws : List (Option V)} {tb : XK → TE} {p1 p2 : Pos}
    (L : LiveOk X.prog X.w X.K X.mg X.base k f F fr tb) (C : CellsAt F.cl fr ws s.heap H) (nf : ∀ y c, F.cl.lookup y = some c → c ∉ frs X.stack) (tk : Takes (inner X CXg Eg Ng qg sg g cdg s H pn xe) W) (hW : ∀ cls d σ' H', E cls d H' → W cls d σ' H')
    (room : Room (k + 1) (X.A.deeper (envOfC qg sg s.heap.objs.size g cdg))) (hN : Ng[i]? = some a) (hv : Vis sg a) (hd : (a == ("__debug__" : Str)) = false) (hcd : (a == ("__classdict__" : Str)) = false) :
    PE (inner X CXg Eg Ng qg sg g cdg s H pn xe) (.Call (.Name a p1) [] [] p2) (fun σ H' Q => σ[i]? = some (some (.ref f)) ∧ H' c' = some (CodeO c' q) ∧ tLive f F fr ws tb E H' Q) :=
  act_gen (w0 := fun H' Q => H' c' = some (CodeO c' q) ∧ tLive f F fr ws tb E H' Q) tk hW hN hv hd hcd fun _ _ H' s' Q J hw => by
    obtain ⟨_, hf, hc, ht⟩ := hw
    obtain ⟨pm, ctv, o⟩ := lamO_at J.hok hf
    exact ⟨⟨_, _, _, _, o⟩, run_lamL L.S L.bind L.body room J.env0 hf hc (CellsAt.later (X := inner X CXg Eg Ng qg sg g cdg s H pn xe) C nf (fun _ _ _ z => nomatch z) J) ht⟩
/-- x(e) in a comprehension's block, e a lambda that the frame around has made -/
def tKindC (X0 : Cx) (σ0 : L2.St) (k : Nat) (q : Str) (TT : (XK → Hp → VK → Prop) → Hp → VK → Prop) (te : TE) : TE := fun σ H Q => te σ H fun v H1 => ∃ (f : Addr) (F : LF) (fr : List Str) (js : List Nat) (tb : XK → TE), v = .ref f ∧ H1 f = some (LamO f F) ∧ H1 F.c = some (CodeO F.c F.qual) ∧ F.qual = q ∧ LiveOk X0.prog X0.w X0.K X0.mg X0.base k f F fr tb ∧ (X0.Ok → Caps X0 F.cl fr js) ∧
  TT (tLive f F fr (js.map (slotAt σ0)) tb) H1 Q
theorem pe_kindC {X0 : Cx} {pins0 : List (Addr × Obj)} {σ0 : L2.St} {H0 : Hp} {s0 : Shared} (I0 : Inv X0 pins0 σ0 H0 s0) {scope : Scope} {C0 : Addr} {cl0 : List (Str × Addr)} {fp : List Addr} (hfp : ∀ b ∈ fp, FpOk X0 pins0 H0 b) (hfn : ∀ y, X0.fn y = true) {TT : (XK → Hp → VK → Prop) → Hp → VK → Prop} {x a q : Str} {st : Stmt} {k : Nat} {Ng : List Str} {e : Expr} {te : TE} {p pos : Pos}
    (F : FunAt X0.K X0.mg x st) (Sg : FnScope Ng [a] (defScope st)) (bo : BindOk x st [a]) (hg : Gl (X0.blk s0 H0 scope (compEnvC scope cl0 C0 X0.env) fp) x) (hNg : Ng[0]? = some a) (hva : Vis (defScope st) a)
    (hG : ∀ (g : Addr) (cdg : Value), GivesTo (X0.blk s0 H0 scope (compEnvC scope cl0 C0 X0.env) fp) Ng x (defScope st) g cdg (defBody st) a q TT) (hr : Room (k + 2) X0.A) (he0 : PE (X0.blk s0 H0 scope (compEnvC scope cl0 C0 X0.env) fp) e te)
    (hdb : (x == ("__debug__" : Str)) = false := by decide) (hd : (a == ("__debug__" : Str)) = false := by decide) (hcd : (a == ("__classdict__" : Str)) = false := by decide)
    (he : starEach (e :: []) (compEnvC scope cl0 C0 X0.env) = (false, eval e (compEnvC scope cl0 C0 X0.env)) :: starEach [] (compEnvC scope cl0 C0 X0.env) := by rfl) (hpl : (backTo pos (starEach [] (compEnvC scope cl0 C0 X0.env))).any (·.1) = false := by rfl) :
    PE (X0.blk s0 H0 scope (compEnvC scope cl0 C0 X0.env) fp) (.Call (.Name x p) [e] [] pos) (tKindC X0 σ0 k q TT te) := by
  obtain ⟨g, fd, F, hm⟩ := F.ex
  obtain ⟨oc, od, kV, doc, pm, an, cdv, ct, osl, rfl, lk, hcd'⟩ := F.ex
  have hb := Binds.all (K := X0.K) (bo kV doc pm an cdv ct)
  refine ⟨fun pins s σ H Q I h => ?_⟩
  refine wpAny_Call_Name_kw (ld_glob I hg hm ?_ hdb)
  have pa : PA (X0.blk s0 H0 scope (compEnvC scope cl0 C0 X0.env) fp) [e] (tCons te tNil) := pa_cons (hs := he) he0 pa_nil
  have h' : tCons te tNil σ H (fun vs H1 => match vs with
    | [v] => ∃ (f : Addr) (F : LF) (fr : List Str) (js : List Nat) (tb : XK → TE), v = .ref f ∧ H1 f = some (LamO f F) ∧ H1 F.c = some (CodeO F.c F.qual) ∧ F.qual = q ∧ LiveOk X0.prog X0.w X0.K X0.mg X0.base k f F fr tb ∧ (X0.Ok → Caps X0 F.cl fr js) ∧ TT (tLive f F fr (js.map (slotAt σ0)) tb) H1 Q
    | _ => False) := h
  refine PySem.W.callWith_K (h₀ := X0.base) I.ok.mod.kin F.kp (thn (pa.run pos pins s σ H _ I h') fun us s1 hh => ?_) he hpl
  obtain ⟨vs, H1, I1, r1, z⟩ := hh
  obtain ⟨v, ev⟩ : ∃ v, vs = [v] := by
    match vs, z with
    | [v], _ => exact ⟨v, rfl⟩
  subst ev
  obtain ⟨f, F, fr, js, tb, ef, hf, hco, eq, L, caps, ht⟩ := z
  subst ef
  subst eq
  have cp := caps I0.ok
  have C0' := cells_of I0 cp
  have nf : ∀ y c, F.cl.lookup y = some c → c ∉ frs X0.stack := fun y c e => own_nf I0 hfn (cp.sub y c e)
  have C1 : CellsAt F.cl fr (js.map (slotAt σ0)) s1.heap H1 := CellsAt.later (X := X0.blk s0 H0 scope (compEnvC scope cl0 C0 X0.env) fp) C0' nf (fun y c e z => (hfp c z).2.2.2.2.1 y c (cp.sub y c e) rfl) I1
  refine ⟨I1.kIn, ?_⟩
  cases r1 with
  | cons rv rn =>
    cases rn
    cases rv
    refine call_end I1 (CX := C8.CX0) (E := C8.E0) (fun _ _ _ _ _ _ _ z => z.elim) (run_ofS (N := Ng) (ps := [a]) (us := [.ref f]) (vs := [.ref f]) lk hcd' Sg hr I1.env0 (hb s1 [.ref f] I1.kIn rfl) (.cons rfl .nil) rfl fun room => ?_)
    obtain ⟨t, d, w⟩ := hG g cdv f F.c s1 H1 Q _ (fun W pn xe E p1 p2 tk hW => act_live (X := X0.blk s0 H0 scope (compEnvC scope cl0 C0 X0.env) fp) L C1 nf tk hW room hNg hva hd hcd) hco ht
    exact ⟨t, d.nox, w⟩
end Rd

namespace Rd
open PySem L2
section
variable {P : Program} {w : World} {K : PySem.W.Frag} {mg : Str → Option Value} {base : Heap}
def spStart (K : PySem.W.Frag) : Sp := fun vs H Q _ => ∃ (a : Addr) (ns : List Int), vs = [.ref a] ∧ SqL K H a (ns.map V.int) ∧ ∀ st H', H st = none → Same H H' → St H' st a → Q (.ref st) H'
theorem spStart_i {a : Addr} {ns : List Int} {H : Hp} {Q : VK} {E : XK} (hS : SqL K H a (ns.map V.int)) (k : ∀ st H', H st = none → Same H H' → St H' st a → Q (.ref st) H') : spStart K [.ref a] H Q E := ⟨a, ns, rfl, hS, k⟩
def spLaw (K : PySem.W.Frag) : Sp := fun vs H Q _ => ∃ (a : Addr) (ns : List Int), vs = [.ref a] ∧ SqL K H a (ns.map V.int) ∧ ns.length ≤ 63 ∧ ∀ H', Q (.bl true) H'
theorem ok_law_start (F : FunAt K mg "_law_start" s_law_start) : Has P w K mg base CX0 1 "_law_start" (spStart K) := by
  refine F.ok sc_law_start bo_law_start (fun vs H Q E h => ?_) (fun f cdv A outer s H vs Q E hr h => ?_)
  · obtain ⟨a, ns, rfl, _⟩ := h
    rfl
  · obtain ⟨a, ns, rfl, hS, k⟩ := h
    refine ⟨_, (pss_cons (ps_set (i := 1) sc_law_start.nd rfl (by first | exact Or.inl rfl | exact Or.inr rfl) pe_int)
 (pss_cons (ps_for PassesOwn.never rfl (kpi_list (K := K) rfl (pv 0)) (pg_name (i := 2) sc_law_start.nd rfl (by first | exact Or.inl rfl | exact Or.inr rfl)) (pss_one (ps_set (i := 1) sc_law_start.nd rfl (by first | exact Or.inl rfl | exact Or.inr rfl) (pe_op op_mod (pe_op (kop_add (K := K) rfl) (pe_op (kop_add (K := K) rfl) (pe_op op_mul (pv 1) pe_int) (pv 2)) pe_int) pe_int))))
 (pss_one (ps_ret (pe_lst (pa_cons (pv 0) (pa_cons pe_int (pa_cons (pv 1) (pa_cons pe_int pa_nil))))))))), ?_⟩
    refine r_start (σ' := [some (.ref a), none, none]) rfl ?_
    walk_at "go"
    refine ⟨_, rfl, ⟨_, hS⟩, fw_list (K := K) (a := a) (xs := ns.map V.int) (fun i σ H2 => H2 = H ∧ ∃ m v, σ = [some (.ref a), some (.int m), v] ∧ 0 ≤ m ∧ m < 2147483647) ⟨rfl, 1, none, rfl, by decide, by decide⟩ (fun i σ H2 _ h => h.1 ▸ hS) ?_ ?_⟩
    · rintro i y σ H2 hi ⟨rfl, m, v, rfl, h0, h1⟩
      obtain ⟨z, hz, rfl⟩ := map_at hi
      walk_at "go"
      refine r_I (.inl ⟨by omega, by omega⟩) ?_
      walk_at "go"
      refine r_I (by decide) ?_
      walk_at "go"
      exact ⟨rfl, _, _, rfl, Int.emod_nonneg _ (by decide), Int.emod_lt_of_pos _ (by decide)⟩
    · rintro σ H2 ⟨rfl, m, v, rfl, h0, h1⟩
      walk_at "go"
      intro p np
      walk_at "go"
      exact k p _ np (same_new np) ⟨_, _, _, upd_same, by omega, h0, h1, by omega⟩
def spDrawn (K : PySem.W.Frag) : Sp := fun vs H Q _ => ∃ (st a : Addr) (ns : List Int) (many : Int), vs = [.ref st, .int many] ∧ St H st a ∧ SqL K H a (ns.map V.int) ∧ 0 < many ∧ many.natAbs < 2 ^ 200 ∧
  ∀ (v : Int) (H' : Hp), 0 ≤ v → v < many → St H' st a → Fr H H' → Q (.int v) H'
theorem spDrawn_i {st a : Addr} {ns : List Int} {many : Int} {H : Hp} {Q : VK} {E : XK} (s : St H st a) (hS : SqL K H a (ns.map V.int)) (h0 : 0 < many) (h1 : many.natAbs < 2 ^ 200)
    (k : ∀ (v : Int) (H' : Hp), 0 ≤ v → v < many → St H' st a → Fr H H' → Q (.int v) H') : spDrawn K [.ref st, .int many] H Q E := ⟨st, a, ns, many, rfl, s, hS, h0, h1, k⟩
theorem ok_law_drawn (B : Bl mg) (F : FunAt K mg "_law_drawn" s_law_drawn) : Has P w K mg base CX0 1 "_law_drawn" (spDrawn K) := by
  refine F.ok sc_law_drawn bo_law_drawn (fun vs H Q E h => ?_) (fun f cdv A outer s H vs Q E hr h => ?_)
  · obtain ⟨st, a, ns, many, rfl, _⟩ := h
    rfl
  · obtain ⟨st, a, ns, many, rfl, hs, hS, h0, h1, k⟩ := h
    obtain ⟨i, m, r, hst, hi, hm0, hm1, hr0⟩ := hs.ex
    have wd : CDivW 0 many := wide_div h0 h1 (by decide) (by decide)
    refine ⟨_, (pss_cons (ps_if (pt_cmpR op_gt (pe_ix (kix (K := K) rfl) (pv 0) pe_int (fun _ _ => rfl)) pe_int (nomark _)) (pss_cons (ps_set (i := 2) sc_law_drawn.nd rfl (by first | exact Or.inl rfl | exact Or.inr rfl) (pe_op op_mod (pe_ix (kix (K := K) rfl) (pv 0) pe_int (fun _ _ => rfl)) (pv 1)))
 (pss_cons (ps_asg (pe_op op_fdivW (pe_ix (kix (K := K) rfl) (pv 0) pe_int (fun _ _ => rfl)) (pv 1)) (pg_sub (pv 0) pe_int set_list))
 (pss_one (ps_ret (pv 2))))) pss_nil)
 (pss_cons (ps_asg (pe_op (kop_add (K := K) rfl) (pe_ix (kix (K := K) rfl) (pv 0) pe_int (fun _ _ => rfl)) pe_int) (pg_sub (pv 0) pe_int set_list))
 (pss_cons (ps_if (pt_cmpR op_le (pe_ix (kix (K := K) rfl) (pv 0) pe_int (fun _ _ => rfl)) (pe_callB (kc_len (K := K) rfl) rfl B.len (by decide +kernel) (pa_cons (pe_ix (kix (K := K) rfl) (pv 0) pe_int (fun _ _ => rfl)) pa_nil)) (nomark _)) (pss_cons (ps_set (i := 3) sc_law_drawn.nd rfl (by first | exact Or.inl rfl | exact Or.inr rfl) (pe_ix (kix (K := K) rfl) (pe_ix (kix (K := K) rfl) (pv 0) pe_int (fun _ _ => rfl)) (pe_op op_sub (pe_ix (kix (K := K) rfl) (pv 0) pe_int (fun _ _ => rfl)) pe_int) (fun _ _ => rfl)))
 (pss_cons (ps_asg (pe_ifExp (pt_cmpR op_ge (pv 3) (pe_op op_pow pe_int pe_int) (nomark _)) (pe_op op_fdivW (pv 3) (pv 1)) pe_int) (pg_sub (pv 0) pe_int set_list))
 (pss_one (ps_ret (pe_op op_mod (pv 3) (pv 1)))))) pss_nil)
 (pss_cons (ps_asg (pe_op op_mod (pe_op (kop_add (K := K) rfl) (pe_op op_mul (pe_ix (kix (K := K) rfl) (pv 0) pe_int (fun _ _ => rfl)) pe_int) pe_int) pe_int) (pg_sub (pv 0) pe_int set_list))
 (pss_one (ps_ret (pe_op op_mod (pe_op op_fdivW (pe_ix (kix (K := K) rfl) (pv 0) pe_int (fun _ _ => rfl)) pe_int) (pv 1)))))))), ?_⟩
    refine r_start (σ' := [some (.ref st), some (.int many), none, none]) rfl ?_
    have wr : ∀ {H1 H2 : Hp} {i m r : Int}, H1 st = some (.lst [.ref a, .int i, .int m, .int r]) → (∀ b o, b ≠ st → H1 b = some o → H2 b = some o) → Fr H1 H2 := fun e w b o q n => w b o (fun z => by subst z; rw [e] at q; cases q; exact n _ _ _ _ rfl) q
    walk_at "go"
    refine iteD (fun hp => ?_) (fun hp => ?_)
    · walk_at "go"
      refine r_I h0 ?_
      walk_at "go"
      refine r_I (show CDivW r many from wd) ?_
      walk_at "go"
      refine r_setA (j := 3) hst rfl rfl fun H1 e1 w1 => ?_
      walk_at "go"
      exact k _ _ (Int.emod_nonneg _ (by omega)) (Int.emod_lt_of_pos _ h0) ⟨_, _, _, e1, hi, hm0, hm1, Int.ediv_nonneg hr0 (by omega)⟩ (wr hst w1)
    · walk_at "go"
      refine r_setA (j := 1) hst rfl rfl fun H1 hst1 w1 => ?_
      have R1 := wr hst w1
      have hS1 := fr_sq R1 hS
      walk_at "go"
      rw [List.length_map]
      refine iteD (fun hl => ?_) (fun hl => ?_)
      · walk_at "go"
        have hlt : i.toNat < ns.length := by omega
        refine r_ix (.inl hS1) (at_of (j := i.toNat) (by omega) (by rw [List.getElem?_map, List.getElem?_eq_getElem hlt]; rfl)) ?_
        walk_at "go"
        have fin : ∀ (r' : Int) (H2 : Hp), 0 ≤ r' → H2 st = some (.lst [.ref a, .int (i + 1), .int m, .int r']) → (∀ b o, b ≠ st → H1 b = some o → H2 b = some o) → Q (.int (ns[i.toNat] % many)) H2 := fun r' H2 hr' e2 w2 =>
          k _ _ (Int.emod_nonneg _ (by omega)) (Int.emod_lt_of_pos _ h0) ⟨_, _, _, e2, by omega, hm0, hm1, hr'⟩ (R1.trans (wr hst1 w2))
        refine iteD (fun hc => ?_) (fun hc => ?_)
        · walk_at "go"
          refine r_I (show CDivW _ many from wd) ?_
          walk_at "go"
          refine r_setA (j := 3) hst1 rfl rfl fun H2 e2 w2 => ?_
          walk_at "go"
          refine r_I h0 ?_
          walk_at "go"
          refine fin _ H2 (Int.ediv_nonneg ?_ (by omega)) e2 w2
          have : (0 : Int) ≤ 10 ^ (18 : Int).toNat := by decide
          omega
        · walk_at "go"
          refine r_setA (j := 3) hst1 rfl rfl fun H2 e2 w2 => ?_
          walk_at "go"
          refine r_I h0 ?_
          walk_at "go"
          exact fin 0 H2 (by omega) e2 w2
      · walk_at "go"
        refine r_I (.inl ⟨by omega, by omega⟩) ?_
        walk_at "go"
        refine r_I (by decide) ?_
        walk_at "go"
        refine r_setA (j := 2) hst1 rfl rfl fun H2 e2 w2 => ?_
        walk_at "go"
        refine r_I ⟨by decide, by decide +kernel⟩ ?_
        walk_at "go"
        refine r_I h0 ?_
        walk_at "go"
        exact k _ _ (Int.emod_nonneg _ (by omega)) (Int.emod_lt_of_pos _ h0) ⟨_, _, _, e2, by omega, Int.emod_nonneg _ (by decide), Int.emod_lt_of_pos _ (by decide), hr0⟩ (R1.trans (wr hst1 w2))
end
end Rd

namespace Rd
open PySem L2
section
variable {P : Program} {w : World} {K : PySem.W.Frag} {mg : Str → Option Value} {base : Heap}
theorem e6 : (10 : Int) ^ (6 : Int).toNat = 1000000 := by decide
theorem e29 : (10 : Int) ^ (29 : Int).toNat = 100000000000000000000000000000 := by decide
theorem small200 {m : Int} (h0 : 0 ≤ m) (h1 : m ≤ 1000000000000000000000000000000) : m.natAbs < 2 ^ 200 := by omega
def spGear (K : PySem.W.Frag) : Sp := fun vs H Q _ => ∃ (st a : Addr) (ns : List Int) (b : Bool), vs = [.ref st, .bl b] ∧ St H st a ∧ SqL K H a (ns.map V.int) ∧
  ∀ (g : Addr) (r p : Int) (H' : Hp), 2 ≤ r → r ≤ 1000000 → 0 ≤ p → p ≤ 1000000 → (b = true → r ≤ 8 ∧ p ≤ 4) → St H' st a → Fr H H' → H' g = some (.tup [.int r, .int p]) → Q (.ref g) H'
theorem spGear_i {st a : Addr} {ns : List Int} {b : Bool} {H : Hp} {Q : VK} {E : XK} (s : St H st a) (hS : SqL K H a (ns.map V.int))
    (k : ∀ (g : Addr) (r p : Int) (H' : Hp), 2 ≤ r → r ≤ 1000000 → 0 ≤ p → p ≤ 1000000 → (b = true → r ≤ 8 ∧ p ≤ 4) → St H' st a → Fr H H' → H' g = some (.tup [.int r, .int p]) → Q (.ref g) H') : spGear K [.ref st, .bl b] H Q E := ⟨st, a, ns, b, rfl, s, hS, k⟩
theorem ok_law_gear (B : Bl mg) (F : FunAt K mg "_law_gear" s_law_gear) (H_law_drawn : Has P w K mg base CX0 1 "_law_drawn" (spDrawn K)) : Has P w K mg base CX0 2 "_law_gear" (spGear K) := by
  refine F.ok sc_law_gear bo_law_gear (fun vs H Q E h => ?_) (fun f cdv A outer s H vs Q E hr h => ?_)
  · obtain ⟨st, a, ns, b, rfl, _⟩ := h
    rfl
  · obtain ⟨st, a, ns, b, rfl, hs, hS, k⟩ := h
    refine ⟨_, (pss_cons (ps_set (i := 2) sc_law_gear.nd rfl (by first | exact Or.inl rfl | exact Or.inr rfl) (pe_ix (kix (K := K) rfl) (pe_lst (pa_cons pe_int (pa_cons pe_int pa_nil))) (pe_callTy call_intA rfl B.int (by decide +kernel) (pa_cons (pv 1) pa_nil)) (fun _ _ => rfl)))
 (pss_cons (ps_set (i := 3) sc_law_gear.nd rfl (by first | exact Or.inl rfl | exact Or.inr rfl) (pe_op (kop_add (K := K) rfl) pe_int (pe_has H_law_drawn hr (by omega) rfl pass0 (pa_cons (pv 0) (pa_cons (pe_ix (kix (K := K) rfl) (pe_lst (pa_cons pe_int (pa_cons pe_int (pa_cons pe_int (pa_cons (pe_op op_sub (pe_op op_pow pe_int pe_int) pe_int) pa_nil))))) (pe_has H_law_drawn hr (by omega) rfl pass0 (pa_cons (pv 0) (pa_cons (pv 2) pa_nil))) (fun _ _ => rfl)) pa_nil)))))
 (pss_cons (ps_set (i := 4) sc_law_gear.nd rfl (by first | exact Or.inl rfl | exact Or.inr rfl) (pe_lst (pa_cons pe_int (pa_cons (pe_has H_law_drawn hr (by omega) rfl pass0 (pa_cons (pv 0) (pa_cons pe_int pa_nil))) (pa_cons (pe_has H_law_drawn hr (by omega) rfl pass0 (pa_cons (pv 0) (pa_cons (pe_ix (kix (K := K) rfl) (pe_lst (pa_cons pe_int (pa_cons pe_int (pa_cons pe_int (pa_cons (pe_op (kop_add (K := K) rfl) (pe_op op_pow pe_int pe_int) pe_int) pa_nil))))) (pe_has H_law_drawn hr (by omega) rfl pass0 (pa_cons (pv 0) (pa_cons (pv 2) pa_nil))) (fun _ _ => rfl)) pa_nil))) pa_nil)))))
 (pss_one (ps_ret (pe_tup (pa_cons (pv 3) (pa_cons (pe_ix (kix (K := K) rfl) (pv 4) (pe_has H_law_drawn hr (by omega) rfl pass0 (pa_cons (pv 0) (pa_cons pe_int pa_nil))) (fun _ _ => rfl)) pa_nil)))))))), ?_⟩
    refine r_start (σ' := [some (.ref st), some (.bl b), none, none, none]) rfl ?_
    walk_at "go"
    intro p1 n1
    walk_at "go"
    -- sorts
    obtain ⟨so, eso, hso⟩ : ∃ so : Int, atI [V.int 4, V.int 2] (if b = true then 1 else 0) = some (.int so) ∧ (so = 4 ∧ b = false ∨ so = 2 ∧ b = true) := by
      cases b
      · exact ⟨4, rfl, .inl ⟨rfl, rfl⟩⟩
      · exact ⟨2, rfl, .inr ⟨rfl, rfl⟩⟩
    refine r_ix (by walk_at "sq") eso ?_
    walk_at "go"
    -- around
    intro p2 n2
    walk_at "go"
    refine spDrawn_i (by walk_at "ss") (by walk_at "sq") (by omega) (small200 (by omega) (by omega)) fun v1 H1 a1 b1 s1 R1 => ?_
    walk_at "go"
    obtain ⟨w1, ew1, hw1⟩ := pick4 7 7 60 (10 ^ (6 : Int).toNat - 1) a1 (by omega)
    rw [e6] at hw1
    refine r_ix (by walk_at "sq") ew1 ?_
    walk_at "go"
    refine spDrawn_i s1 (by walk_at "sq") (by omega) (small200 (by omega) (by omega)) fun v2 H2 a2 b2 s2 R2 => ?_
    walk_at "go"
    refine spDrawn_i s2 (by walk_at "sq") (by omega) (by decide) fun v3 H3 a3 b3 s3 R3 => ?_
    walk_at "go"
    intro p4 n4
    walk_at "go"
    refine spDrawn_i (by walk_at "ss") (by walk_at "sq") (by omega) (small200 (by omega) (by omega)) fun v4 H4 a4 b4 s4 R4 => ?_
    walk_at "go"
    obtain ⟨w2, ew2, hw2⟩ := pick4 5 5 60 (10 ^ (6 : Int).toNat + 1) a4 (by omega)
    rw [e6] at hw2
    refine r_ix (by walk_at "sq") ew2 ?_
    walk_at "go"
    refine spDrawn_i s4 (by walk_at "sq") (by omega) (small200 (by omega) (by omega)) fun v5 H5 a5 b5 s5 R5 => ?_
    walk_at "go"
    intro p6 n6
    walk_at "go"
    refine spDrawn_i (by walk_at "ss") (by walk_at "sq") (by omega) (by decide) fun v6 H6 a6 b6 s6 R6 => ?_
    obtain ⟨pl, epl, mpl⟩ := pick3 0 v3 v5 a6 (by omega)
    refine r_ix (by walk_at "sq") epl ?_
    walk_at "go"
    intro g ng
    walk_at "go"
    refine k g _ _ _ (by omega) (by omega) (by omega) (by omega) (fun hb => ?_) (by walk_at "ss") (by walk_at "fr") upd_same
    rcases hso with ⟨_, q⟩ | ⟨q, _⟩
    · rw [q] at hb
      cases hb
    · omega
def spStanding (K : PySem.W.Frag) : Sp := fun vs H Q _ => ∃ (st a : Addr) (ns : List Int) (g : Addr) (r p : Int), vs = [.ref st, .ref g] ∧ St H st a ∧ SqL K H a (ns.map V.int) ∧ H g = some (.tup [.int r, .int p]) ∧ 0 ≤ p ∧ p ≤ 1000000 ∧
  ∀ (z : Addr) (m s : Int) (H' : Hp), m - p ≤ s → s ≤ m → -100000000000000000000000000000 ≤ m → m ≤ 100000000000000000000000000000 → St H' st a → Fr H H' → H' z = some (.tup [.int m, .int s]) → Q (.ref z) H'
theorem spStanding_i {st a g : Addr} {ns : List Int} {r p : Int} {H : Hp} {Q : VK} {E : XK} (s : St H st a) (hS : SqL K H a (ns.map V.int)) (hg : H g = some (.tup [.int r, .int p])) (h0 : 0 ≤ p) (h1 : p ≤ 1000000)
    (k : ∀ (z : Addr) (m s : Int) (H' : Hp), m - p ≤ s → s ≤ m → -100000000000000000000000000000 ≤ m → m ≤ 100000000000000000000000000000 → St H' st a → Fr H H' → H' z = some (.tup [.int m, .int s]) → Q (.ref z) H') : spStanding K [.ref st, .ref g] H Q E := ⟨st, a, ns, g, r, p, rfl, s, hS, hg, h0, h1, k⟩
theorem ok_law_standing (B : Bl mg) (F : FunAt K mg "_law_standing" s_law_standing) (H_law_drawn : Has P w K mg base CX0 1 "_law_drawn" (spDrawn K)) : Has P w K mg base CX0 2 "_law_standing" (spStanding K) := by
  refine F.ok sc_law_standing bo_law_standing (fun vs H Q E h => ?_) (fun f cdv A outer s H vs Q E hr h => ?_)
  · obtain ⟨st, a, ns, g, r, p, rfl, _⟩ := h
    rfl
  · obtain ⟨st, a, ns, g, r, p, rfl, hs, hS, hg, hp0, hp1, k⟩ := h
    refine ⟨_, (pss_cons (ps_set (i := 2) sc_law_standing.nd rfl (by first | exact Or.inl rfl | exact Or.inr rfl) (pe_ix (kix (K := K) rfl) (pe_lst (pa_cons pe_int (pa_cons pe_int (pa_cons (pe_op op_pow pe_int pe_int) pa_nil)))) (pe_has H_law_drawn hr (by omega) rfl pass0 (pa_cons (pv 0) (pa_cons pe_int pa_nil))) (fun _ _ => rfl)))
 (pss_cons (ps_set (i := 3) sc_law_standing.nd rfl (by first | exact Or.inl rfl | exact Or.inr rfl) (pe_op op_sub (pe_has H_law_drawn hr (by omega) rfl pass0 (pa_cons (pv 0) (pa_cons (pv 2) pa_nil))) (pe_op op_mul (pe_has H_law_drawn hr (by omega) rfl pass0 (pa_cons (pv 0) (pa_cons pe_int pa_nil))) (pv 2))))
 (pss_one (ps_ret (pe_tup (pa_cons (pv 3) (pa_cons (pe_op op_sub (pv 3) (pe_ix (kix (K := K) rfl) (pe_lst (pa_cons pe_int (pa_cons (pe_ix (kix (K := K) rfl) (pv 1) pe_int (fun _ _ => rfl)) (pa_cons (pe_has H_law_drawn hr (by omega) rfl pass0 (pa_cons (pv 0) (pa_cons (pe_op (kop_add (K := K) rfl) (pe_ix (kix (K := K) rfl) (pv 1) pe_int (fun _ _ => rfl)) pe_int) pa_nil))) pa_nil)))) (pe_has H_law_drawn hr (by omega) rfl pass0 (pa_cons (pv 0) (pa_cons pe_int pa_nil))) (fun _ _ => rfl))) pa_nil))))))), ?_⟩
    refine r_start (σ' := [some (.ref st), some (.ref g), none, none]) rfl ?_
    walk_at "go"
    intro p1 n1
    walk_at "go"
    refine spDrawn_i (by walk_at "ss") (by walk_at "sq") (by omega) (by decide) fun v1 H1 a1 b1 s1 R1 => ?_
    obtain ⟨far, e1, m1⟩ := pick3 10 1000 (10 ^ (29 : Int).toNat) a1 (by omega)
    rw [e29] at m1
    refine r_ix (by walk_at "sq") e1 ?_
    walk_at "go"
    refine spDrawn_i s1 (by walk_at "sq") (by omega) (small200 (by omega) (by omega)) fun v2 H2 a2 b2 s2 R2 => ?_
    walk_at "go"
    refine spDrawn_i s2 (by walk_at "sq") (by omega) (by decide) fun v3 H3 a3 b3 s3 R3 => ?_
    walk_at "go"
    refine r_I (.inl ⟨by omega, by omega⟩) ?_
    walk_at "go"
    refine spDrawn_i s3 (by walk_at "sq") (by omega) (small200 (by omega) (by omega)) fun v4 H4 a4 b4 s4 R4 => ?_
    walk_at "go"
    intro p5 n5
    walk_at "go"
    refine spDrawn_i (by walk_at "ss") (by walk_at "sq") (by omega) (by decide) fun v5 H5 a5 b5 s5 R5 => ?_
    obtain ⟨o, e5, m5⟩ := pick3 0 p v4 a5 (by omega)
    refine r_ix (by walk_at "sq") e5 ?_
    walk_at "go"
    intro z nz
    walk_at "go"
    have hv : 0 ≤ v3 * far ∧ v3 * far ≤ far := by
      have : v3 = 0 ∨ v3 = 1 := by omega
      rcases this with rfl | rfl <;> omega
    exact k z _ _ _ (by omega) (by omega) (by omega) (by omega) (by walk_at "ss") (by walk_at "fr") upd_same
def spMoves (K : PySem.W.Frag) : Sp := fun vs H Q _ => ∃ (st a : Addr) (ns : List Int) (g : Addr) (r p most : Int), vs = [.ref st, .ref g, .int most] ∧ St H st a ∧ SqL K H a (ns.map V.int) ∧ H g = some (.tup [.int r, .int p]) ∧ 0 < r ∧ r ≤ 1000000 ∧ 0 ≤ p ∧ p ≤ 1000000 ∧ 0 ≤ most ∧ most ≤ 1000 ∧
  ∀ (l : Addr) (ms : List Int) (H' : Hp), ms.length ≤ most.toNat → (∀ m ∈ ms, -100000000000000000000000000000 ≤ m ∧ m ≤ 100000000000000000000000000000) → St H' st a → Fr H H' → H' l = some (.lst (ms.map V.int)) → H l = none → Q (.ref l) H'
theorem spMoves_i {st a g : Addr} {ns : List Int} {r p most : Int} {H : Hp} {Q : VK} {E : XK} (s : St H st a) (hS : SqL K H a (ns.map V.int)) (hg : H g = some (.tup [.int r, .int p])) (r0 : 0 < r) (r1 : r ≤ 1000000) (h0 : 0 ≤ p) (h1 : p ≤ 1000000) (m0 : 0 ≤ most) (m1 : most ≤ 1000)
    (k : ∀ (l : Addr) (ms : List Int) (H' : Hp), ms.length ≤ most.toNat → (∀ m ∈ ms, -100000000000000000000000000000 ≤ m ∧ m ≤ 100000000000000000000000000000) → St H' st a → Fr H H' → H' l = some (.lst (ms.map V.int)) → H l = none → Q (.ref l) H') : spMoves K [.ref st, .ref g, .int most] H Q E := ⟨st, a, ns, g, r, p, most, rfl, s, hS, hg, r0, r1, h0, h1, m0, m1, k⟩
theorem ok_law_moves (B : Bl mg) (F : FunAt K mg "_law_moves" s_law_moves) (H_law_drawn : Has P w K mg base CX0 1 "_law_drawn" (spDrawn K)) : Has P w K mg base CX0 2 "_law_moves" (spMoves K) := by
  refine F.ok sc_law_moves bo_law_moves (fun vs H Q E h => ?_) (fun f cdv A outer s H vs Q E hr h => ?_)
  · obtain ⟨st, a, ns, g, r, p, most, rfl, _⟩ := h
    rfl
  · obtain ⟨st, a, ns, g, r, p, most, rfl, hs, hS, hg, hr0, hr1, hp0, hp1, hm0, hm1, k⟩ := h
    refine ⟨_, (pss_cons (ps_set (i := 3) sc_law_moves.nd rfl (by first | exact Or.inl rfl | exact Or.inr rfl) (pe_lst pa_nil))
 (pss_cons (ps_for PassesOwn.never rfl (pi_range1 rfl B.range (pa_cons (pe_has H_law_drawn hr (by omega) rfl pass0 (pa_cons (pv 0) (pa_cons (pe_op (kop_add (K := K) rfl) (pv 2) pe_int) pa_nil))) pa_nil)) (pg_name (i := 4) sc_law_moves.nd rfl (by first | exact Or.inl rfl | exact Or.inr rfl)) (pss_cons (ps_set (i := 5) sc_law_moves.nd rfl (by first | exact Or.inl rfl | exact Or.inr rfl) (pe_lst (pa_cons (pe_has H_law_drawn hr (by omega) rfl pass0 (pa_cons (pv 0) (pa_cons pe_int pa_nil))) (pa_cons (pe_has H_law_drawn hr (by omega) rfl pass0 (pa_cons (pv 0) (pa_cons (pe_op (kop_add (K := K) rfl) (pe_ix (kix (K := K) rfl) (pv 1) pe_int (fun _ _ => rfl)) pe_int) pa_nil))) (pa_cons (pe_has H_law_drawn hr (by omega) rfl pass0 (pa_cons (pv 0) (pa_cons (pe_op op_mul pe_int (pe_ix (kix (K := K) rfl) (pv 1) pe_int (fun _ _ => rfl))) pa_nil))) pa_nil)))))
 (pss_cons (ps_set (i := 5) sc_law_moves.nd rfl (by first | exact Or.inl rfl | exact Or.inr rfl) (pe_ix (kix (K := K) rfl) (pv 5) (pe_has H_law_drawn hr (by omega) rfl pass0 (pa_cons (pv 0) (pa_cons pe_int pa_nil))) (fun _ _ => rfl)))
 (pss_cut (ps_if (pt_cmpR (kop_eq (K := K) rfl hr.units) (pe_has H_law_drawn hr (by omega) rfl pass0 (pa_cons (pv 0) (pa_cons pe_int pa_nil))) pe_int (nomark _)) (pss_one (ps_set (i := 5) sc_law_moves.nd rfl (by first | exact Or.inl rfl | exact Or.inr rfl) (pe_has H_law_drawn hr (by omega) rfl pass0 (pa_cons (pv 0) (pa_cons (pe_op op_pow pe_int pe_int) pa_nil))))) pss_nil)
 (pss_one (ps_expr (kpe_bm (K := K) rfl PySem.F.plainAttrs_list PySem.F.slot_list_append PySem.F.type_list_append mt_append (pv 3) (pa_cons (pe_ix (kix (K := K) rfl) (pe_lst (pa_cons (pv 5) (pa_cons (pe_op op_sub pe_int (pv 5)) pa_nil))) (pe_has H_law_drawn hr (by omega) rfl pass0 (pa_cons (pv 0) (pa_cons pe_int pa_nil))) (fun _ _ => rfl)) pa_nil))))))))
 (pss_one (ps_ret (pv 3))))), ?_⟩
    refine r_start (σ' := [some (.ref st), some (.ref g), some (.int most), none, none, none]) rfl ?_
    walk_at "go"
    intro l nl
    walk_at "go"
    refine spDrawn_i (by walk_at "ss") (by walk_at "sq") (by omega) (small200 (by omega) (by omega)) fun n H0 a0 b0 s0 R0 => ?_
    have f0 : Fr H H0 := by walk_at "fr"
    refine ⟨_, rfl, by omega, by omega, fw_range (fun i σ H2 => ∃ (ms : List Int) (u v : Option V), σ = [some (.ref st), some (.ref g), some (.int most), some (.ref l), u, v] ∧ ms.length = i ∧ (∀ m ∈ ms, -100000000000000000000000000000 ≤ m ∧ m ≤ 100000000000000000000000000000) ∧ St H2 st a ∧ Fr H H2 ∧ H2 l = some (.lst (ms.map V.int)))
      ⟨[], none, none, rfl, rfl, by simp, s0, f0, R0 _ _ upd_same nst_nil⟩ ?_ ?_⟩
    · rintro i σ H2 hi ⟨ms, u, v, rfl, hlen, hms, s2, f2, hl⟩
      walk_at "go"
      refine spDrawn_i s2 (by walk_at "sq") (by omega) (by decide) fun v1 H3 a1 b1 s3 R3 => ?_
      walk_at "go"
      refine spDrawn_i s3 (by walk_at "sq") (by omega) (small200 (by omega) (by omega)) fun v2 H4 a2 b2 s4 R4 => ?_
      walk_at "go"
      refine r_I (.inl ⟨by omega, by omega⟩) ?_
      walk_at "go"
      refine spDrawn_i s4 (by walk_at "sq") (by omega) (small200 (by omega) (by omega)) fun v3 H5 a3 b3 s5 R5 => ?_
      walk_at "go"
      intro p6 n6
      walk_at "go"
      refine spDrawn_i (by walk_at "ss") (by walk_at "sq") (by omega) (by decide) fun v6 H6 a6 b6 s6 R6 => ?_
      obtain ⟨sz, e6, m6⟩ := pick3 v1 v2 v3 a6 (by omega)
      refine r_ix (by walk_at "sq") e6 ?_
      walk_at "go"
      refine r_cut (fun σ' H' => ∃ sz' : Int, σ' = [some (.ref st), some (.ref g), some (.int most), some (.ref l), some (.int (0 + i)), some (.int sz')] ∧ 0 ≤ sz' ∧ sz' ≤ 100000000000000000000000000000 ∧ St H' st a ∧ Fr H H' ∧ H' l = some (.lst (ms.map V.int))) ?_ ?_
      · walk_at "go"
        refine spDrawn_i s6 (by walk_at "sq") (by omega) (by decide) fun v7 H7 a7 b7 s7 R7 => ?_
        walk_at "go"
        refine iteD (fun _ => ?_) (fun _ => ?_)
        · walk_at "go"
          refine spDrawn_i s7 (by walk_at "sq") (by rw [e29]; omega) (by rw [e29]; decide) fun v8 H8 a8 b8 s8 R8 => ?_
          rw [e29] at b8
          walk_at "go"
          exact ⟨v8, rfl, by omega, by omega, s8, by walk_at "fr", by walk_at "hp"⟩
        · walk_at "go"
          exact ⟨sz, rfl, by omega, by omega, s7, by walk_at "fr", by walk_at "hp"⟩
      · rintro σ' H9 ⟨sz', rfl, hz0, hz1, s9, f9, hl9⟩
        walk_at "go"
        refine ⟨r_tyL hl9, ?_⟩
        walk_at "go"
        intro p10 n10
        walk_at "go"
        refine spDrawn_i (by walk_at "ss") (by walk_at "sq") (by omega) (by decide) fun v11 H11 a11 b11 s11 R11 => ?_
        obtain ⟨z, e11, m11⟩ := pick2 sz' (0 - sz') a11 (by omega)
        refine r_ix (by walk_at "sq") e11 ?_
        walk_at "go"
        have hl11 : H11 l = some (.lst (ms.map V.int)) := by walk_at "hp"
        refine r_appA hl11 (by rw [List.length_map]; exact small1000 (by omega)) fun H12 e12 w12 => ?_
        walk_at "go"
        have ne : st ≠ l := s11.ne hl11 nst_ints
        obtain ⟨i', m', r', hst, q⟩ := s11.ex
        refine ⟨ms ++ [z], _, _, rfl, by simp [hlen], fun x hx => ?_, ⟨i', m', r', w12 _ _ ne hst, q⟩, fun b o e n => ?_, by rw [e12]; simp⟩
        · simp at hx
          rcases hx with hx | rfl
          · exact hms x hx
          · omega
        · have nb : b ≠ l := ne_of_none e nl
          have : Fr H H11 := by walk_at "fr"
          exact w12 _ _ nb (this _ _ e n)
    · rintro σ H2 ⟨ms, u, v, rfl, hlen, hms, s2, f2, hl⟩
      walk_at "go"
      exact k l ms H2 (by omega) hms s2 f2 hl nl
end
end Rd

namespace Rd
/-! ## the shaft: plain -/
/-- where the shaft stands behind k steps, as the program reckons it -/
def pb (p m s k : Int) : Int := min (m + k) (max (m + k - p) s)
/-- .. as the law does -/
def lb (p m s k : Int) : Int := if 0 < k then s + max 0 (k - (p - (m - s))) else s + min 0 (k + (m - s))
theorem lb_pb {p m s k : Int} (h0 : m - p ≤ s) (h1 : s ≤ m) : lb p m s k = pb p m s k := by
  unfold lb pb
  split <;> omega
def nx (p : Int) (z : Int × Int) (k : Int) : Int × Int := (z.1 + k, pb p z.1 z.2 k)
def pos (p : Int) (z : Int × Int) (ks : List Int) : Int × Int := ks.foldl (nx p) z
def traj (p : Int) : Int × Int → List Int → List (Int × Int)
  | _, [] => []
  | z, k :: r => nx p z k :: traj p (nx p z k) r
theorem pos_snoc (p : Int) (z : Int × Int) (ks : List Int) (k : Int) : pos p z (ks ++ [k]) = nx p (pos p z ks) k := by
  unfold pos
  rw [List.foldl_append]
  rfl
theorem pos_app (p : Int) (z : Int × Int) (ks ls : List Int) : pos p z (ks ++ ls) = pos p (pos p z ks) ls := by
  unfold pos
  rw [List.foldl_append]
theorem traj_snoc (p : Int) : ∀ (ks : List Int) (z : Int × Int) (k : Int), traj p z (ks ++ [k]) = traj p z ks ++ [nx p (pos p z ks) k]
  | [], _, _ => rfl
  | _ :: r, z, k => by
    show _ :: traj p _ (r ++ [k]) = _ :: (traj p _ r ++ _)
    rw [traj_snoc p r]
    rfl
theorem traj_len (p : Int) : ∀ (ks : List Int) (z : Int × Int), (traj p z ks).length = ks.length
  | [], _ => rfl
  | _ :: r, z => by
    show _ + 1 = _ + 1
    rw [traj_len p r]
theorem traj_last (p : Int) : ∀ (ks : List Int) (z : Int × Int), (z :: traj p z ks)[ks.length]? = some (pos p z ks)
  | [], _ => rfl
  | k :: r, z => traj_last p r (nx p z k)
/-- a standing of a gear of the play p -/
def Stg (p : Int) (z : Int × Int) : Prop := z.1 - p ≤ z.2 ∧ z.2 ≤ z.1
theorem Stg.nx {p : Int} {z : Int × Int} (h : Stg p z) (hp : 0 ≤ p) (k : Int) : Stg p (Rd.nx p z k) := by
  obtain ⟨a, b⟩ := h
  unfold Stg Rd.nx pb
  dsimp only
  omega
theorem Stg.pos {p : Int} (hp : 0 ≤ p) : ∀ {ks : List Int} {z : Int × Int}, Stg p z → Stg p (Rd.pos p z ks)
  | [], _, h => h
  | k :: r, z, h => Stg.pos hp (ks := r) (h.nx hp k)
theorem take_snoc {α : Type} {l : List α} {i : Nat} {x : α} (h : l[i]? = some x) : l.take (i + 1) = l.take i ++ [x] := by
  rw [List.take_add_one, h]
  rfl
end Rd

namespace Rd
open PySem L2
/-- tuples of two ints at the addresses as -/
def Tups (H : Hp) (as : List Addr) (xs : List (Int × Int)) : Prop := as.length = xs.length ∧ ∀ (i : Nat) (a : Addr) (x : Int × Int), as[i]? = some a → xs[i]? = some x → H a = some (.tup [.int x.1, .int x.2])
theorem Tups.nil {H : Hp} : Tups H [] [] := ⟨rfl, fun i a x h => by simp at h⟩
theorem Tups.mono {H H' : Hp} {as : List Addr} {xs : List (Int × Int)} (t : Tups H as xs) (R : ∀ b xs, H b = some (.tup xs) → H' b = some (.tup xs)) : Tups H' as xs := ⟨t.1, fun i a x h1 h2 => R _ _ (t.2 i a x h1 h2)⟩
theorem Tups.snoc {H : Hp} {as : List Addr} {xs : List (Int × Int)} {a : Addr} {x : Int × Int} (t : Tups H as xs) (h : H a = some (.tup [.int x.1, .int x.2])) : Tups H (as ++ [a]) (xs ++ [x]) := by
  refine ⟨by simp [t.1], fun i b y h1 h2 => ?_⟩
  by_cases hi : i < as.length
  · rw [List.getElem?_append_left hi] at h1
    rw [List.getElem?_append_left (by rw [← t.1]; exact hi)] at h2
    exact t.2 i b y h1 h2
  · rw [List.getElem?_append_right (by omega)] at h1
    rw [List.getElem?_append_right (by rw [← t.1]; omega)] at h2
    have e : i - as.length = 0 := by
      cases q : i - as.length with
      | zero => rfl
      | succ n => rw [q] at h1; simp at h1
    rw [e] at h1
    rw [← t.1, e] at h2
    cases h1
    cases h2
    exact h
theorem Tups.all {H : Hp} : ∀ {as : List Addr} {xs : List (Int × Int)}, Tups H as xs → IsAll H (as.map V.ref) (xs.map dPair)
  | [], [], _ => .nil
  | [], _ :: _, t => nomatch t.1
  | _ :: _, [], t => nomatch t.1
  | a :: as, x :: xs, t => .cons (Is.pair (t.2 0 a x rfl rfl)) (Tups.all ⟨Nat.succ.inj t.1, fun i b y h1 h2 => t.2 (i + 1) b y (by simpa using h1) (by simpa using h2)⟩)
section
variable {P : Program} {w : World} {K : PySem.W.Frag} {mg : Str → Option Value} {base : Heap}
/-- a gear stands at g -/
structure GearAt (H : Hp) (g : Addr) (r p : Int) : Prop where
  at_ : H g = some (.tup [.int r, .int p])
  r2 : 2 ≤ r
  r6 : r ≤ 1000000
  p0 : 0 ≤ p
  p6 : p ≤ 1000000
theorem GearAt.mono {H H' : Hp} {g : Addr} {r p : Int} (G : GearAt H g r p) (h : H' g = some (.tup [.int r, .int p])) : GearAt H' g r p := ⟨h, G.r2, G.r6, G.p0, G.p6⟩
def spNG : Sp := fun vs H Q _ => ∃ (g : Addr) (r p : Int), vs = [.ref g] ∧ GearAt H g r p ∧ Q .non H
theorem spNG_i {g : Addr} {r p : Int} {H : Hp} {Q : VK} {E : XK} (G : GearAt H g r p) (k : Q .non H) : spNG [.ref g] H Q E := ⟨g, r, p, rfl, G, k⟩
theorem ok_need_gear (F : FunAt K mg "need_gear" s_need_gear) (M_MOST : Cn mg "MOST" 1000000) : Has P w K mg base CX0 1 "need_gear" spNG := by
  refine F.ok sc_need_gear bo_need_gear (fun vs H Q E h => ?_) (fun f cdv A outer s H vs Q E hr h => ?_)
  · obtain ⟨g, r, p, rfl, _⟩ := h
    rfl
  · obtain ⟨g, r, p, rfl, G, k⟩ := h
    have hg := G.at_
    have h1 := G.r2
    have h2 := G.r6
    have h3 := G.p0
    have h4 := G.p6
    refine ⟨_, (pss_cons (ps_asg (pv 0) (kpg_tup (K := K) rfl rfl (pgs_cons (pg_name (i := 1) sc_need_gear.nd rfl (by first | exact Or.inl rfl | exact Or.inr rfl)) (pgs_cons (pg_name (i := 2) sc_need_gear.nd rfl (by first | exact Or.inl rfl | exact Or.inr rfl)) pgs_nil))))
 (pss_one (ps_if (PW.pt (pw_or (pt_not (pt_chain op_le op_le pe_int (pv 1) (pe_cn M_MOST rfl))) (pw_or1 (pt_not (pt_chain op_le op_le pe_int (pv 2) (pe_cn M_MOST rfl)))))) (pss_one ps_never) pss_nil))), ?_⟩
    refine r_start (σ' := [some (.ref g), none, none]) rfl ?_
    walk_at "go"
    refine iteDT (by omega) ?_
    walk_at "go"
    refine iteNF (by omega) ?_
    walk_at "go"
    refine iteDT (by omega) ?_
    walk_at "go"
    refine iteNF (by omega) ?_
    walk_at "go"
    exact k
def spNS : Sp := fun vs H Q _ => ∃ (g : Addr) (r p : Int) (z : Addr) (x : Int × Int), vs = [.ref g, .ref z] ∧ GearAt H g r p ∧ H z = some (.tup [.int x.1, .int x.2]) ∧ Stg p x ∧ Q .non H
theorem spNS_i {g z : Addr} {r p : Int} {x : Int × Int} {H : Hp} {Q : VK} {E : XK} (G : GearAt H g r p) (hz : H z = some (.tup [.int x.1, .int x.2])) (hs : Stg p x) (k : Q .non H) : spNS [.ref g, .ref z] H Q E := ⟨g, r, p, z, x, rfl, G, hz, hs, k⟩
theorem ok_need_standing (F : FunAt K mg "need_standing" s_need_standing) (H_need_gear : Has P w K mg base CX0 1 "need_gear" spNG) : Has P w K mg base CX0 2 "need_standing" spNS := by
  refine F.ok sc_need_standing bo_need_standing (fun vs H Q E h => ?_) (fun f cdv A outer s H vs Q E hr h => ?_)
  · obtain ⟨g, r, p, z, x, rfl, _⟩ := h
    rfl
  · obtain ⟨g, r, p, z, x, rfl, G, hz, hs, k⟩ := h
    have hg := G.at_
    obtain ⟨a1, a2⟩ := hs
    refine ⟨_, (pss_cons (ps_expr (pe_has H_need_gear hr (by omega) rfl pass0 (pa_cons (pv 0) pa_nil)))
 (pss_cons (ps_asg (pv 1) (kpg_tup (K := K) rfl rfl (pgs_cons (pg_name (i := 2) sc_need_standing.nd rfl (by first | exact Or.inl rfl | exact Or.inr rfl)) (pgs_cons (pg_name (i := 3) sc_need_standing.nd rfl (by first | exact Or.inl rfl | exact Or.inr rfl)) pgs_nil))))
 (pss_one (ps_if (pt_not (pt_chain op_le op_le (pe_op op_sub (pv 2) (pe_ix (kix (K := K) rfl) (pv 0) pe_int (fun _ _ => rfl))) (pv 3) (pv 2))) (pss_one ps_never) pss_nil)))), ?_⟩
    refine r_start (σ' := [some (.ref g), some (.ref z), none, none]) rfl ?_
    walk_at "go"
    refine spNG_i G ?_
    walk_at "go"
    refine iteDT (by omega) ?_
    walk_at "go"
    refine iteNF (by omega) ?_
    walk_at "go"
    exact k
def spNM (K : PySem.W.Frag) : Sp := fun vs H Q _ => ∃ (l : Addr) (ms : List Int), vs = [.ref l] ∧ SqL K H l (ms.map V.int) ∧ ms.length ≤ 100 ∧ Q .non H
theorem spNM_i {l : Addr} {ms : List Int} {H : Hp} {Q : VK} {E : XK} (hl : SqL K H l (ms.map V.int)) (h : ms.length ≤ 100) (k : Q .non H) : spNM K [.ref l] H Q E := ⟨l, ms, rfl, hl, h, k⟩
theorem ok_need_moves (B : Bl mg) (F : FunAt K mg "need_moves" s_need_moves) (M_MOST_MOVES : Cn mg "MOST_MOVES" 100) : Has P w K mg base CX0 1 "need_moves" (spNM K) := by
  refine F.ok sc_need_moves bo_need_moves (fun vs H Q E h => ?_) (fun f cdv A outer s H vs Q E hr h => ?_)
  · obtain ⟨l, ms, rfl, _⟩ := h
    rfl
  · obtain ⟨l, ms, rfl, hl, hm, k⟩ := h
    refine ⟨_, (pss_one (ps_if (pt_cmpR op_gt (pe_callB (kc_len (K := K) rfl) rfl B.len (by decide +kernel) (pa_cons (pv 0) pa_nil)) (pe_cn M_MOST_MOVES rfl) (nomark _)) (pss_one ps_never) pss_nil)), ?_⟩
    refine r_start (σ' := [some (.ref l)]) rfl ?_
    walk_at "go"
    rw [List.length_map]
    refine iteDF (by omega) ?_
    walk_at "go"
    exact k
def spBehind : Sp := fun vs H Q _ => ∃ (g : Addr) (r p : Int) (z : Addr) (x : Int × Int) (k : Int), vs = [.ref g, .ref z, .int k] ∧ H g = some (.tup [.int r, .int p]) ∧ H z = some (.tup [.int x.1, .int x.2]) ∧
  ∀ (q : Addr) (H' : Hp), H q = none → Same H H' → H' q = some (.tup [.int (nx p x k).1, .int (nx p x k).2]) → Q (.ref q) H'
theorem spBehind_i {g z : Addr} {r p k : Int} {x : Int × Int} {H : Hp} {Q : VK} {E : XK} (hg : H g = some (.tup [.int r, .int p])) (hz : H z = some (.tup [.int x.1, .int x.2]))
    (h : ∀ (q : Addr) (H' : Hp), H q = none → Same H H' → H' q = some (.tup [.int (nx p x k).1, .int (nx p x k).2]) → Q (.ref q) H') : spBehind [.ref g, .ref z, .int k] H Q E := ⟨g, r, p, z, x, k, rfl, hg, hz, h⟩
theorem ok_behind (B : Bl mg) (F : FunAt K mg "behind" s_behind) : Has P w K mg base CX0 1 "behind" spBehind := by
  refine F.ok sc_behind bo_behind (fun vs H Q E h => ?_) (fun f cdv A outer s H vs Q E hr h => ?_)
  · obtain ⟨g, r, p, z, x, k, rfl, _⟩ := h
    rfl
  · obtain ⟨g, r, p, z, x, k, rfl, hg, hz, h⟩ := h
    refine ⟨_, (pss_cons (ps_set (i := 3) sc_behind.nd rfl (by first | exact Or.inl rfl | exact Or.inr rfl) (pe_op (kop_add (K := K) rfl) (pe_ix (kix (K := K) rfl) (pv 1) pe_int (fun _ _ => rfl)) (pv 2)))
 (pss_one (ps_ret (pe_tup (pa_cons (pv 3) (pa_cons (pe_callB (kc_min (K := K) rfl rfl) rfl B.min (by decide +kernel) (pa_cons (pv 3) (pa_cons (pe_callB (kc_max (K := K) rfl rfl) rfl B.max (by decide +kernel) (pa_cons (pe_op op_sub (pv 3) (pe_ix (kix (K := K) rfl) (pv 0) pe_int (fun _ _ => rfl))) (pa_cons (pe_ix (kix (K := K) rfl) (pv 1) pe_int (fun _ _ => rfl)) pa_nil))) pa_nil))) pa_nil)))))), ?_⟩
    refine r_start (σ' := [some (.ref g), some (.ref z), some (.int k), none]) rfl ?_
    walk_at "go"
    intro q nq
    walk_at "go"
    exact h q _ nq (same_new nq) upd_same
def spAB (K : PySem.W.Frag) : Sp := fun vs H Q _ => ∃ (g : Addr) (r p : Int) (z : Addr) (x : Int × Int) (l : Addr) (ms : List Int), vs = [.ref g, .ref z, .ref l] ∧ H g = some (.tup [.int r, .int p]) ∧ H z = some (.tup [.int x.1, .int x.2]) ∧ SqL K H l (ms.map V.int) ∧ ms.length ≤ 1000 ∧
  ∀ (q : Addr) (as : List Addr) (H' : Hp), H q = none → Same H H' → H' q = some (.lst (as.map V.ref)) → Tups H' as (traj p x ms) → Q (.ref q) H'
theorem spAB_i {g z l : Addr} {r p : Int} {x : Int × Int} {ms : List Int} {H : Hp} {Q : VK} {E : XK} (hg : H g = some (.tup [.int r, .int p])) (hz : H z = some (.tup [.int x.1, .int x.2])) (hl : SqL K H l (ms.map V.int)) (hm : ms.length ≤ 1000)
    (h : ∀ (q : Addr) (as : List Addr) (H' : Hp), H q = none → Same H H' → H' q = some (.lst (as.map V.ref)) → Tups H' as (traj p x ms) → Q (.ref q) H') : spAB K [.ref g, .ref z, .ref l] H Q E := ⟨g, r, p, z, x, l, ms, rfl, hg, hz, hl, hm, h⟩
theorem ok_all_behind (B : Bl mg) (F : FunAt K mg "all_behind" s_all_behind) (H_behind : Has P w K mg base CX0 1 "behind" spBehind) : Has P w K mg base CX0 2 "all_behind" (spAB K) := by
  refine F.ok sc_all_behind bo_all_behind (fun vs H Q E h => ?_) (fun f cdv A outer s H vs Q E hr h => ?_)
  · obtain ⟨g, r, p, z, x, l, ms, rfl, _⟩ := h
    rfl
  · obtain ⟨g, r, p, z, x, l, ms, rfl, hg, hz, hl, hm, h⟩ := h
    refine ⟨_, (pss_cons (ps_set (i := 3) sc_all_behind.nd rfl (by first | exact Or.inl rfl | exact Or.inr rfl) (pe_lst pa_nil))
 (pss_cons (ps_for PassesOwn.never rfl (kpi_list (K := K) rfl (pv 2)) (pg_name (i := 4) sc_all_behind.nd rfl (by first | exact Or.inl rfl | exact Or.inr rfl)) (pss_cons (ps_set (i := 1) sc_all_behind.nd rfl (by first | exact Or.inl rfl | exact Or.inr rfl) (pe_has H_behind hr (by omega) rfl pass0 (pa_cons (pv 0) (pa_cons (pv 1) (pa_cons (pv 4) pa_nil)))))
 (pss_one (ps_expr (kpe_bm (K := K) rfl PySem.F.plainAttrs_list PySem.F.slot_list_append PySem.F.type_list_append mt_append (pv 3) (pa_cons (pv 1) pa_nil))))))
 (pss_one (ps_ret (pv 3))))), ?_⟩
    refine r_start (σ' := [some (.ref g), some (.ref z), some (.ref l), none, none]) rfl ?_
    walk_at "go"
    intro q nq
    walk_at "go"
    refine ⟨_, rfl, ⟨_, by walk_at "sq"⟩, fw_list (K := K) (a := l) (xs := ms.map V.int) (fun i σ H2 => ∃ (z' : Addr) (as : List Addr) (v : Option V), σ = [some (.ref g), some (.ref z'), some (.ref l), some (.ref q), v] ∧ Same H H2 ∧ H2 q = some (.lst (as.map V.ref)) ∧
        H2 z' = some (.tup [.int (pos p x (ms.take i)).1, .int (pos p x (ms.take i)).2]) ∧ Tups H2 as (traj p x (ms.take i)))
      ⟨z, [], none, rfl, same_new nq, upd_same, at_new nq hz, Tups.nil⟩ (fun i σ H2 _ ⟨_, _, _, _, s2, _⟩ => s2.seq hl) ?_ ?_⟩
    · rintro i y σ H2 hi ⟨z', as, v, rfl, s2, hq, hz', ht⟩
      obtain ⟨k, hk, rfl⟩ := map_at hi
      walk_at "go"
      refine spBehind_i (by walk_at "hp") hz' fun z2 H3 nz2 s3 hz2 => ?_
      walk_at "go"
      have hq3 : H3 q = some (.lst (as.map V.ref)) := s3 _ _ hq
      refine ⟨r_tyL hq3, ?_⟩
      walk_at "go"
      have hil : i < ms.length := (List.getElem?_eq_some_iff.mp hk).1
      have hlen : as.length = i := by rw [ht.1, traj_len, List.length_take]; omega
      refine r_appA hq3 (by rw [List.length_map]; exact small1000 (by omega)) fun H4 e4 w4 => ?_
      walk_at "go"
      have keep : ∀ b xs, H3 b = some (.tup xs) → H4 b = some (.tup xs) := fun b xs e => w4 _ _ (ne_of e hq3 (fun z => nomatch z)) e
      refine ⟨z2, as ++ [z2], _, rfl, fun b o e => w4 _ _ (ne_of_none e nq) (s3 _ _ (s2 _ _ e)), by rw [e4]; simp, ?_, ?_⟩
      · rw [take_snoc hk, pos_snoc]
        exact keep _ _ hz2
      · rw [take_snoc hk, traj_snoc]
        exact ((ht.mono fun b xs e => s3 _ _ e).mono keep).snoc (keep _ _ hz2)
    · rintro σ H2 ⟨z', as, v, rfl, s2, hq, hz', ht⟩
      walk_at "go"
      rw [List.length_map, List.take_length] at ht
      exact h q as H2 nq s2 hq ht
def spTrail (K : PySem.W.Frag) : Sp := fun vs H Q _ => ∃ (g : Addr) (r p : Int) (z : Addr) (x : Int × Int) (l : Addr) (ms : List Int), vs = [.ref g, .ref z, .ref l] ∧ GearAt H g r p ∧ H z = some (.tup [.int x.1, .int x.2]) ∧ Stg p x ∧ SqL K H l (ms.map V.int) ∧ ms.length ≤ 100 ∧
  ∀ (q : Addr) (as : List Addr) (H' : Hp), H q = none → Same H H' → H' q = some (.lst (as.map V.ref)) → Tups H' as (traj p x ms) → Q (.ref q) H'
theorem spTrail_i {g z l : Addr} {r p : Int} {x : Int × Int} {ms : List Int} {H : Hp} {Q : VK} {E : XK} (G : GearAt H g r p) (hz : H z = some (.tup [.int x.1, .int x.2])) (hs : Stg p x) (hl : SqL K H l (ms.map V.int)) (hm : ms.length ≤ 100)
    (h : ∀ (q : Addr) (as : List Addr) (H' : Hp), H q = none → Same H H' → H' q = some (.lst (as.map V.ref)) → Tups H' as (traj p x ms) → Q (.ref q) H') : spTrail K [.ref g, .ref z, .ref l] H Q E := ⟨g, r, p, z, x, l, ms, rfl, G, hz, hs, hl, hm, h⟩
theorem ok_trail (F : FunAt K mg "trail" s_trail) (H_need_standing : Has P w K mg base CX0 2 "need_standing" spNS) (H_need_moves : Has P w K mg base CX0 1 "need_moves" (spNM K)) (H_all_behind : Has P w K mg base CX0 2 "all_behind" (spAB K)) : Has P w K mg base CX0 3 "trail" (spTrail K) := by
  refine F.ok sc_trail bo_trail (fun vs H Q E h => ?_) (fun f cdv A outer s H vs Q E hr h => ?_)
  · obtain ⟨g, r, p, z, x, l, ms, rfl, _⟩ := h
    rfl
  · obtain ⟨g, r, p, z, x, l, ms, rfl, G, hz, hs, hl, hm, h⟩ := h
    refine ⟨_, (pss_cons (ps_expr (pe_has H_need_standing hr (by omega) rfl pass0 (pa_cons (pv 0) (pa_cons (pv 1) pa_nil))))
 (pss_cons (ps_expr (pe_has H_need_moves hr (by omega) rfl pass0 (pa_cons (pv 2) pa_nil)))
 (pss_one (ps_ret (pe_has H_all_behind hr (by omega) rfl pass0 (pa_cons (pv 0) (pa_cons (pv 1) (pa_cons (pv 2) pa_nil)))))))), ?_⟩
    refine r_start (σ' := [some (.ref g), some (.ref z), some (.ref l)]) rfl ?_
    walk_at "go"
    refine spNS_i G hz hs ?_
    walk_at "go"
    refine spNM_i hl hm ?_
    walk_at "go"
    refine spAB_i G.at_ hz hl (by omega) fun q as H' nq s' hq ht => ?_
    walk_at "go"
    exact h q as H' nq s' hq ht
def spStands (K : PySem.W.Frag) : Sp := fun vs H Q _ => ∃ (g : Addr) (r p : Int) (z : Addr) (x : Int × Int) (l : Addr) (ms : List Int), vs = [.ref g, .ref z, .ref l] ∧ GearAt H g r p ∧ H z = some (.tup [.int x.1, .int x.2]) ∧ Stg p x ∧ SqL K H l (ms.map V.int) ∧ ms.length ≤ 100 ∧
  ∀ (q : Addr) (H' : Hp), Same H H' → H' q = some (.tup [.int (pos p x ms).1, .int (pos p x ms).2]) → Q (.ref q) H'
theorem spStands_i {g z l : Addr} {r p : Int} {x : Int × Int} {ms : List Int} {H : Hp} {Q : VK} {E : XK} (G : GearAt H g r p) (hz : H z = some (.tup [.int x.1, .int x.2])) (hs : Stg p x) (hl : SqL K H l (ms.map V.int)) (hm : ms.length ≤ 100)
    (h : ∀ (q : Addr) (H' : Hp), Same H H' → H' q = some (.tup [.int (pos p x ms).1, .int (pos p x ms).2]) → Q (.ref q) H') : spStands K [.ref g, .ref z, .ref l] H Q E := ⟨g, r, p, z, x, l, ms, rfl, G, hz, hs, hl, hm, h⟩
theorem ok_stands (B : Bl mg) (F : FunAt K mg "stands" s_stands) (H_need_standing : Has P w K mg base CX0 2 "need_standing" spNS) (H_need_moves : Has P w K mg base CX0 1 "need_moves" (spNM K)) (H_all_behind : Has P w K mg base CX0 2 "all_behind" (spAB K)) : Has P w K mg base CX0 3 "stands" (spStands K) := by
  refine F.ok sc_stands bo_stands (fun vs H Q E h => ?_) (fun f cdv A outer s H vs Q E hr h => ?_)
  · obtain ⟨g, r, p, z, x, l, ms, rfl, _⟩ := h
    rfl
  · obtain ⟨g, r, p, z, x, l, ms, rfl, G, hz, hs, hl, hm, h⟩ := h
    have hg := G.at_
    refine ⟨_, (pss_cons (ps_expr (pe_has H_need_standing hr (by omega) rfl pass0 (pa_cons (pv 0) (pa_cons (pv 1) pa_nil))))
 (pss_cons (ps_expr (pe_has H_need_moves hr (by omega) rfl pass0 (pa_cons (pv 2) pa_nil)))
 (pss_one (ps_ret (pe_ix (kix (K := K) rfl) (pe_op (kop_add (K := K) rfl) (pe_lst (pa_cons (pe_callTy (kc_tup (K := K) rfl) rfl B.tuple (by decide +kernel) (pa_cons (pv 1) pa_nil)) pa_nil)) (pe_has H_all_behind hr (by omega) rfl pass0 (pa_cons (pv 0) (pa_cons (pv 1) (pa_cons (pv 2) pa_nil))))) (pe_un un_neg pe_int) (fun _ _ => rfl)))))), ?_⟩
    refine r_start (σ' := [some (.ref g), some (.ref z), some (.ref l)]) rfl ?_
    walk_at "go"
    refine spNS_i G hz hs ?_
    walk_at "go"
    refine spNM_i hl hm ?_
    walk_at "go"
    refine r_tupT (by walk_at "sq") ?_
    walk_at "go"
    intro c nc
    walk_at "go"
    refine spAB_i (by walk_at "hp") (by walk_at "hp") (by walk_at "sq") (by omega) fun q as H' nq s' hq ht => ?_
    have hc : H' c = some (.lst [.ref z]) := by walk_at "hp"
    have hlen : as.length = ms.length := by rw [ht.1, traj_len]
    refine r_addL hc hq (by show 1 + (as.map V.ref).length ≤ _; rw [List.length_map]; exact Nat.le_of_lt (small1000 (by omega))) fun d nd => ?_
    walk_at "go"
    have hzs : H' z = some (.tup [.int x.1, .int x.2]) := by walk_at "hp"
    obtain ⟨b, hb⟩ : ∃ b, (z :: as)[as.length]? = some b := ⟨(z :: as)[as.length]'(by simp), List.getElem?_eq_getElem (by simp)⟩
    have hall : Tups H' (z :: as) (x :: traj p x ms) := by
      refine ⟨by simp [ht.1], fun i c y h1 h2 => ?_⟩
      cases i with
      | zero => cases h1; cases h2; exact hzs
      | succ i => exact ht.2 i c y h1 h2
    have hbt := hall.2 as.length b _ hb (by rw [hlen]; exact traj_last p ms x)
    refine r_ix (xs := [V.ref z] ++ as.map V.ref) (v := .ref b) (.inl (SqL.of upd_same)) ?_ ?_
    · have e : ([V.ref z] ++ as.map V.ref) = (z :: as).map V.ref := rfl
      have hlast := at_neg1 (xs := (z :: as).map V.ref) (n := as.length) (v := .ref b) (by simp) (by rw [List.getElem?_map, hb]; rfl)
      exact hlast
    · walk_at "go"
      have s1 : Same H (upd H' d (.lst ([V.ref z] ++ as.map V.ref))) := by walk_at "fr"
      exact h b _ s1 (by walk_at "hp")
end
end Rd

namespace Rd
open PySem L2
section
variable {P : Program} {w : World} {K : PySem.W.Frag} {mg : Str → Option Value} {base : Heap}
/-- the standings behind no move and behind each -/
def ends (p : Int) (z : Int × Int) (ms : List Int) : List (Int × Int) := z :: traj p z ms
theorem ends_at (p : Int) (z : Int × Int) (ms : List Int) {i : Nat} (h : i ≤ ms.length) : (ends p z ms)[i]? = some (pos p z (ms.take i)) := by
  induction ms generalizing z i with
  | nil =>
    have : i = 0 := by simpa using h
    subst this
    rfl
  | cons k r ih =>
    cases i with
    | zero => rfl
    | succ i => exact ih (nx p z k) (by simpa using h)
theorem ends_len (p : Int) (z : Int × Int) (ms : List Int) : (ends p z ms).length = ms.length + 1 := by
  unfold ends
  rw [List.length_cons, traj_len]
/-- pairs of two pairs -/
def Duos (H : Hp) (ts : List Addr) (xs ys : List (Int × Int)) : Prop := ts.length = xs.length ∧ ∀ (i : Nat) (t : Addr) (x y : Int × Int), ts[i]? = some t → xs[i]? = some x → ys[i]? = some y →
  ∃ a b : Addr, H t = some (.tup [.ref a, .ref b]) ∧ H a = some (.tup [.int x.1, .int x.2]) ∧ H b = some (.tup [.int y.1, .int y.2])
theorem Duos.mono {H H' : Hp} {ts : List Addr} {xs ys : List (Int × Int)} (d : Duos H ts xs ys) (R : Same H H') : Duos H' ts xs ys := ⟨d.1, fun i t x y h1 h2 h3 => by
  obtain ⟨a, b, e1, e2, e3⟩ := d.2 i t x y h1 h2 h3
  exact ⟨a, b, R _ _ e1, R _ _ e2, R _ _ e3⟩⟩
def spBE (K : PySem.W.Frag) : Sp := fun vs H Q _ => ∃ (g : Addr) (r p : Int) (l : Addr) (ms : List Int), vs = [.ref g, .ref l] ∧ H g = some (.tup [.int r, .int p]) ∧ SqL K H l (ms.map V.int) ∧ ms.length ≤ 100 ∧
  ∀ (q : Addr) (ts : List Addr) (H' : Hp), H q = none → Same H H' → H' q = some (.lst (ts.map V.ref)) → Duos H' ts (ends p (0, -p) ms) (ends p (0, 0) ms) → Q (.ref q) H'
theorem spBE_i {g l : Addr} {r p : Int} {ms : List Int} {H : Hp} {Q : VK} {E : XK} (hg : H g = some (.tup [.int r, .int p])) (hl : SqL K H l (ms.map V.int)) (hm : ms.length ≤ 100)
    (h : ∀ (q : Addr) (ts : List Addr) (H' : Hp), H q = none → Same H H' → H' q = some (.lst (ts.map V.ref)) → Duos H' ts (ends p (0, -p) ms) (ends p (0, 0) ms) → Q (.ref q) H') : spBE K [.ref g, .ref l] H Q E := ⟨g, r, p, l, ms, rfl, hg, hl, hm, h⟩
theorem ok_both_ends (B : Bl mg) (F : FunAt K mg "both_ends" s_both_ends) (H_all_behind : Has P w K mg base CX0 2 "all_behind" (spAB K)) : Has P w K mg base CX0 3 "both_ends" (spBE K) := by
  refine F.ok sc_both_ends bo_both_ends (fun vs H Q E h => ?_) (fun f cdv A outer s H vs Q E hr h => ?_)
  · obtain ⟨g, r, p, l, ms, rfl, _⟩ := h
    rfl
  · obtain ⟨g, r, p, l, ms, rfl, hg, hl, hm, h⟩ := h
    refine ⟨_, (pss_cons (ps_set (i := 2) sc_both_ends.nd rfl (by first | exact Or.inl rfl | exact Or.inr rfl) (pe_lst (pa_cons (pe_tup (pa_cons pe_int (pa_cons (pe_op op_sub pe_int (pe_ix (kix (K := K) rfl) (pv 0) pe_int (fun _ _ => rfl))) pa_nil))) pa_nil)))
 (pss_cons (ps_set (i := 3) sc_both_ends.nd rfl (by first | exact Or.inl rfl | exact Or.inr rfl) (pe_lst (pa_cons (pe_tup (pa_cons pe_int (pa_cons pe_int pa_nil))) pa_nil)))
 (pss_one (ps_ret (pe_listZip (K := K) rfl rfl rfl B.list rfl B.zip (pe_op (kop_add (K := K) rfl) (pv 2) (pe_has H_all_behind hr (by omega) rfl pass0 (pa_cons (pv 0) (pa_cons (pe_ix (kix (K := K) rfl) (pv 2) pe_int (fun _ _ => rfl)) (pa_cons (pv 1) pa_nil))))) (pe_op (kop_add (K := K) rfl) (pv 3) (pe_has H_all_behind hr (by omega) rfl pass0 (pa_cons (pv 0) (pa_cons (pe_ix (kix (K := K) rfl) (pv 3) pe_int (fun _ _ => rfl)) (pa_cons (pv 1) pa_nil)))))))))), ?_⟩
    refine r_start (σ' := [some (.ref g), some (.ref l), none, none]) rfl ?_
    walk_at "go"
    intro t1 n1
    walk_at "go"
    intro lo n2
    walk_at "go"
    intro t3 n3
    walk_at "go"
    intro hi n4
    walk_at "go"
    refine r_listZip ?_
    walk_at "go"
    -- the four that were made
    have s4 := (same_new (u := .tup [.int 0, .int (0 - p)]) n1).trans ((same_new (u := .lst [.ref t1]) n2).trans ((same_new (u := .tup [.int 0, .int 0]) n3).trans (same_new (u := .lst [.ref t3]) n4)))
    have e1 : upd (upd (upd (upd H t1 (.tup [.int 0, .int (0 - p)])) lo (.lst [.ref t1])) t3 (.tup [.int 0, .int 0])) hi (.lst [.ref t3]) t1 = some (.tup [.int 0, .int (0 - p)]) := by walk_at "hp"
    have e2 : upd (upd (upd (upd H t1 (.tup [.int 0, .int (0 - p)])) lo (.lst [.ref t1])) t3 (.tup [.int 0, .int 0])) hi (.lst [.ref t3]) lo = some (.lst [.ref t1]) := by walk_at "hp"
    have e3 : upd (upd (upd (upd H t1 (.tup [.int 0, .int (0 - p)])) lo (.lst [.ref t1])) t3 (.tup [.int 0, .int 0])) hi (.lst [.ref t3]) t3 = some (.tup [.int 0, .int 0]) := by walk_at "hp"
    have e4 : upd (upd (upd (upd H t1 (.tup [.int 0, .int (0 - p)])) lo (.lst [.ref t1])) t3 (.tup [.int 0, .int 0])) hi (.lst [.ref t3]) hi = some (.lst [.ref t3]) := upd_same
    generalize upd (upd (upd (upd H t1 (.tup [.int 0, .int (0 - p)])) lo (.lst [.ref t1])) t3 (.tup [.int 0, .int 0])) hi (.lst [.ref t3]) = H4 at s4 e1 e2 e3 e4 ⊢
    refine spAB_i (s4 _ _ hg) (x := (0, 0 - p)) e1 (s4.seq hl) (by omega) fun q5 as5 H5 nq5 s5 hq5 ht5 => ?_
    refine r_addL (s5 _ _ e2) hq5 (by rw [List.length_map, ht5.1, traj_len]; show 1 + _ ≤ _; exact Nat.le_of_lt (small1000 (by omega))) fun d6 nd6 => ?_
    walk_at "go"
    have s6 : Same H4 (upd H5 d6 (.lst ([V.ref t1] ++ as5.map V.ref))) := by walk_at "fr"
    have e6 : upd H5 d6 (.lst ([V.ref t1] ++ as5.map V.ref)) d6 = some (.lst ([V.ref t1] ++ as5.map V.ref)) := upd_same
    have ht6 : Tups (upd H5 d6 (.lst ([V.ref t1] ++ as5.map V.ref))) as5 (traj p (0, 0 - p) ms) := ht5.mono fun b xs e => at_new nd6 e
    generalize upd H5 d6 (.lst ([V.ref t1] ++ as5.map V.ref)) = H6 at s6 e6 ht6 ⊢
    have hg6 : H6 g = some (.tup [.int r, .int p]) := by walk_at "hp"
    have e36 : H6 t3 = some (.tup [.int 0, .int 0]) := by walk_at "hp"
    have e46 : H6 hi = some (.lst [.ref t3]) := by walk_at "hp"
    walk_at "go"
    refine spAB_i hg6 (x := (0, 0)) e36 (s6.seq (s4.seq hl)) (by omega) fun q7 as7 H7 nq7 s7 hq7 ht7 => ?_
    refine r_addL (s7 _ _ e46) hq7 (by rw [List.length_map, ht7.1, traj_len]; show 1 + _ ≤ _; exact Nat.le_of_lt (small1000 (by omega))) fun d8 nd8 => ?_
    have s8 : Same H6 (upd H7 d8 (.lst ([V.ref t3] ++ as7.map V.ref))) := by walk_at "fr"
    have e8 : upd H7 d8 (.lst ([V.ref t3] ++ as7.map V.ref)) d8 = some (.lst ([V.ref t3] ++ as7.map V.ref)) := upd_same
    have ht8 : Tups (upd H7 d8 (.lst ([V.ref t3] ++ as7.map V.ref))) as7 (traj p (0, 0) ms) := ht7.mono fun b xs e => at_new nd8 e
    generalize upd H7 d8 (.lst ([V.ref t3] ++ as7.map V.ref)) = H8 at s8 e8 ht8 ⊢
    have l5 : as5.length = ms.length := by rw [ht5.1, traj_len]
    have l7 : as7.length = ms.length := by rw [ht7.1, traj_len]
    have e1' : H8 t1 = some (.tup [.int (0, 0 - p).1, .int (0, 0 - p).2]) := s8 _ _ (s6 _ _ e1)
    have e3' : H8 t3 = some (.tup [.int ((0, 0) : Int × Int).1, .int ((0, 0) : Int × Int).2]) := s8 _ _ e36
    have T1 : Tups H8 (t1 :: as5) (ends p (0, 0 - p) ms) := ⟨by rw [ends_len, List.length_cons, l5], fun i a x h1 h2 => by
      cases i with
      | zero => cases h1; cases h2; exact e1'
      | succ i => exact (ht6.mono fun b xs e => s8 _ _ e).2 i a x h1 h2⟩
    have T2 : Tups H8 (t3 :: as7) (ends p (0, 0) ms) := ⟨by rw [ends_len, List.length_cons, l7], fun i a x h1 h2 => by
      cases i with
      | zero => cases h1; cases h2; exact e3'
      | succ i => exact ht8.2 i a x h1 h2⟩
    refine ⟨d6, d8, [V.ref t1] ++ as5.map V.ref, [V.ref t3] ++ as7.map V.ref, rfl, rfl, SqL.of (s8 _ _ e6), SqL.of e8, by simp [l5, l7], by simp, fun H9 p9 ts s9 np9 hp9 lts hts => ?_⟩
    have s09 : Same H H9 := s4.trans (s6.trans (s8.trans s9))
    walk_at "go"
    have z0 : (0 : Int) - p = -p := by omega
    rw [z0] at T1
    refine h p9 ts H9 ?_ s09 hp9 ⟨by rw [lts, ends_len]; simp [l5], fun i t x y h1 h2 h3 => ?_⟩
    · exact (s4.trans (s6.trans s8)).free np9
    · have hi : i < ms.length + 1 := by
        have := (List.getElem?_eq_some_iff.mp h2).1
        rwa [ends_len] at this
      have a1 : (t1 :: as5)[i]? = some ((t1 :: as5)[i]'(by simp [l5]; omega)) := List.getElem?_eq_getElem _
      have a2 : (t3 :: as7)[i]? = some ((t3 :: as7)[i]'(by simp [l7]; omega)) := List.getElem?_eq_getElem _
      refine ⟨_, _, hts i t _ _ h1 (show ((t1 :: as5).map V.ref)[i]? = _ by rw [List.getElem?_map, a1]; rfl) (show ((t3 :: as7).map V.ref)[i]? = _ by rw [List.getElem?_map, a2]; rfl), s9 _ _ (T1.2 i _ x a1 h2), s9 _ _ (T2.2 i _ y a2 h3)⟩
def spKnown (K : PySem.W.Frag) : Sp := fun vs H Q _ => ∃ (g : Addr) (r p : Int) (l : Addr) (ms : List Int), vs = [.ref g, .ref l] ∧ GearAt H g r p ∧ SqL K H l (ms.map V.int) ∧ ms.length ≤ 100 ∧
  ∀ (q : Addr) (H' : Hp), H q = none → Same H H' → H' q = some (.tup [.int (pos p (0, -p) ms).1, .int (pos p (0, -p) ms).2, .int (pos p (0, 0) ms).2]) → Q (.ref q) H'
theorem spKnown_i {g l : Addr} {r p : Int} {ms : List Int} {H : Hp} {Q : VK} {E : XK} (G : GearAt H g r p) (hl : SqL K H l (ms.map V.int)) (hm : ms.length ≤ 100)
    (h : ∀ (q : Addr) (H' : Hp), H q = none → Same H H' → H' q = some (.tup [.int (pos p (0, -p) ms).1, .int (pos p (0, -p) ms).2, .int (pos p (0, 0) ms).2]) → Q (.ref q) H') : spKnown K [.ref g, .ref l] H Q E := ⟨g, r, p, l, ms, rfl, G, hl, hm, h⟩
theorem ok_known (F : FunAt K mg "known" s_known) (H_need_gear : Has P w K mg base CX0 1 "need_gear" spNG) (H_need_moves : Has P w K mg base CX0 1 "need_moves" (spNM K)) (H_both_ends : Has P w K mg base CX0 3 "both_ends" (spBE K)) : Has P w K mg base CX0 4 "known" (spKnown K) := by
  refine F.ok sc_known bo_known (fun vs H Q E h => ?_) (fun f cdv A outer s H vs Q E hr h => ?_)
  · obtain ⟨g, r, p, l, ms, rfl, _⟩ := h
    rfl
  · obtain ⟨g, r, p, l, ms, rfl, G, hl, hm, h⟩ := h
    refine ⟨_, (pss_cons (ps_expr (pe_has H_need_gear hr (by omega) rfl pass0 (pa_cons (pv 0) pa_nil)))
 (pss_cons (ps_expr (pe_has H_need_moves hr (by omega) rfl pass0 (pa_cons (pv 1) pa_nil)))
 (pss_cons (ps_asg (pe_ix (kix (K := K) rfl) (pe_has H_both_ends hr (by omega) rfl pass0 (pa_cons (pv 0) (pa_cons (pv 1) pa_nil))) (pe_un un_neg pe_int) (fun _ _ => rfl)) (kpg_tup (K := K) rfl rfl (pgs_cons (pg_name (i := 2) sc_known.nd rfl (by first | exact Or.inl rfl | exact Or.inr rfl)) (pgs_cons (pg_name (i := 3) sc_known.nd rfl (by first | exact Or.inl rfl | exact Or.inr rfl)) pgs_nil))))
 (pss_one (ps_ret (pe_tup (pa_cons (pe_ix (kix (K := K) rfl) (pv 2) pe_int (fun _ _ => rfl)) (pa_cons (pe_ix (kix (K := K) rfl) (pv 2) pe_int (fun _ _ => rfl)) (pa_cons (pe_ix (kix (K := K) rfl) (pv 3) pe_int (fun _ _ => rfl)) pa_nil))))))))), ?_⟩
    refine r_start (σ' := [some (.ref g), some (.ref l), none, none]) rfl ?_
    walk_at "go"
    refine spNG_i G ?_
    walk_at "go"
    refine spNM_i hl hm ?_
    walk_at "go"
    refine spBE_i G.at_ hl hm fun q ts H1 nq s1 hq hd => ?_
    walk_at "go"
    have lt : ts.length = ms.length + 1 := by rw [hd.1, ends_len]
    obtain ⟨t, ht⟩ : ∃ t, ts[ms.length]? = some t := ⟨ts[ms.length]'(by omega), List.getElem?_eq_getElem _⟩
    have x1 := ends_at p (0, -p) ms (Nat.le_refl _)
    have x2 := ends_at p (0, 0) ms (Nat.le_refl _)
    rw [List.take_length] at x1 x2
    obtain ⟨a, b, g1, g2, g3⟩ := hd.2 _ t _ _ ht x1 x2
    refine r_ix (.inl (SqL.of hq)) (at_neg1 (n := ms.length) (by rw [List.length_map]; exact lt) (by rw [List.getElem?_map, ht]; rfl)) ?_
    walk_at "go"
    intro q2 nq2
    walk_at "go"
    exact h q2 _ (s1.free nq2) (by walk_at "fr") upd_same
end
end Rd

namespace Rd
open PySem L2
section
variable {P : Program} {w : World} {K : PySem.W.Frag} {mg : Str → Option Value} {base : Heap}
/-- behind i moves the shaft is known -/
def Kn (p : Int) (ms : List Int) (i : Nat) : Prop := pos p (0, -p) (ms.take i) = pos p (0, 0) (ms.take i)
instance (p : Int) (ms : List Int) (i : Nat) : Decidable (Kn p ms i) := inferInstanceAs (Decidable (_ = _))
/-- what settled tells -/
def SetV (p : Int) (ms : List Int) (v : V) : Prop := (∃ j : Nat, v = .int j ∧ j ≤ ms.length ∧ Kn p ms j ∧ ∀ i, i < j → ¬ Kn p ms i) ∨ (v = .non ∧ ∀ i, i ≤ ms.length → ¬ Kn p ms i)
theorem SetV.one {p : Int} {ms : List Int} {u v : V} (a : SetV p ms u) (b : SetV p ms v) : u = v := by
  rcases a with ⟨j, rfl, hj, kj, fj⟩ | ⟨rfl, na⟩
  · rcases b with ⟨i, rfl, hi, ki, fi⟩ | ⟨rfl, nb⟩
    · have : i = j := by
        rcases Nat.lt_trichotomy i j with h | h | h
        · exact absurd ki (fj i h)
        · exact h
        · exact absurd kj (fi j h)
      rw [this]
    · exact absurd kj (nb j hj)
  · rcases b with ⟨i, rfl, hi, ki, fi⟩ | ⟨rfl, nb⟩
    · exact absurd ki (na i hi)
    · rfl
def spSettled (K : PySem.W.Frag) : Sp := fun vs H Q _ => ∃ (g : Addr) (r p : Int) (l : Addr) (ms : List Int), vs = [.ref g, .ref l] ∧ GearAt H g r p ∧ SqL K H l (ms.map V.int) ∧ ms.length ≤ 100 ∧
  ∀ (v : V) (H' : Hp), Same H H' → SetV p ms v → Q v H'
theorem spSettled_i {g l : Addr} {r p : Int} {ms : List Int} {H : Hp} {Q : VK} {E : XK} (G : GearAt H g r p) (hl : SqL K H l (ms.map V.int)) (hm : ms.length ≤ 100)
    (h : ∀ (v : V) (H' : Hp), Same H H' → SetV p ms v → Q v H') : spSettled K [.ref g, .ref l] H Q E := ⟨g, r, p, l, ms, rfl, G, hl, hm, h⟩
theorem ok_settled (B : Bl mg) (F : FunAt K mg "settled" s_settled) (H_need_gear : Has P w K mg base CX0 1 "need_gear" spNG) (H_need_moves : Has P w K mg base CX0 1 "need_moves" (spNM K)) (H_both_ends : Has P w K mg base CX0 3 "both_ends" (spBE K)) : Has P w K mg base CX0 4 "settled" (spSettled K) := by
  refine F.ok sc_settled bo_settled (fun vs H Q E h => ?_) (fun f cdv A outer s H vs Q E hr h => ?_)
  · obtain ⟨g, r, p, l, ms, rfl, _⟩ := h
    rfl
  · obtain ⟨g, r, p, l, ms, rfl, G, hl, hm, h⟩ := h
    refine ⟨_, (pss_cons (ps_expr (pe_has H_need_gear hr (by omega) rfl pass0 (pa_cons (pv 0) pa_nil)))
 (pss_cons (ps_expr (pe_has H_need_moves hr (by omega) rfl pass0 (pa_cons (pv 1) pa_nil)))
 (pss_cons (ps_for PassesOwn.never rfl (kpi_enum (K := K) rfl rfl B.enumerate (pa_cons (pe_has H_both_ends hr (by omega) rfl pass0 (pa_cons (pv 0) (pa_cons (pv 1) pa_nil))) pa_nil)) (kpg_tup (K := K) rfl rfl (pgs_cons (pg_name (i := 2) sc_settled.nd rfl (by first | exact Or.inl rfl | exact Or.inr rfl)) (pgs_cons (kpg_tup (K := K) rfl rfl (pgs_cons (pg_name (i := 3) sc_settled.nd rfl (by first | exact Or.inl rfl | exact Or.inr rfl)) (pgs_cons (pg_name (i := 4) sc_settled.nd rfl (by first | exact Or.inl rfl | exact Or.inr rfl)) pgs_nil))) pgs_nil))) (pss_one (ps_if (pt_cmpR (kop_eq (K := K) rfl hr.units) (pv 3) (pv 4) (nomark _)) (pss_one (ps_ret (pv 2))) pss_nil)))
 (pss_one (ps_ret pe_non))))), ?_⟩
    refine r_start (σ' := [some (.ref g), some (.ref l), none, none, none]) rfl ?_
    walk_at "go"
    refine spNG_i G ?_
    walk_at "go"
    refine spNM_i hl hm ?_
    walk_at "go"
    refine spBE_i G.at_ hl hm fun q ts H1 nq s1 hq hd => ?_
    have lt : ts.length = ms.length + 1 := by rw [hd.1, ends_len]
    refine ⟨_, _, rfl, SqL.of hq, fw_enum (K := K) (a := q) (xs := ts.map V.ref) (fun i σ H2 => ∃ v2 v3 v4, σ = [some (.ref g), some (.ref l), v2, v3, v4] ∧ Same H1 H2 ∧ ∀ j, j < i → ¬ Kn p ms j)
      ⟨_, _, _, rfl, Same.refl _, fun j hj => by omega⟩ (fun i σ H2 _ ⟨_, _, _, _, h2, _⟩ => SqL.of (h2 _ _ hq)) ?_ ?_⟩
    · rintro i y σ H2 T hi ⟨v2, v3, v4, rfl, h2, hn⟩ nT
      obtain ⟨t, ht, rfl⟩ := map_at hi
      have hil : i ≤ ms.length := by
        have := (List.getElem?_eq_some_iff.mp ht).1
        omega
      obtain ⟨a, b, e1, e2, e3⟩ := hd.2 i t _ _ ht (ends_at p (0, -p) ms hil) (ends_at p (0, 0) ms hil)
      have e1' := at_new (u := .tup [.int (i : Nat), .ref t]) nT (h2 _ _ e1)
      have e2' := at_new (u := .tup [.int (i : Nat), .ref t]) nT (h2 _ _ e2)
      have e3' := at_new (u := .tup [.int (i : Nat), .ref t]) nT (h2 _ _ e3)
      have s3 : Same H1 (upd H2 T (.tup [.int (i : Nat), .ref t])) := h2.trans (same_new nT)
      have eT : upd H2 T (.tup [.int (i : Nat), .ref t]) T = some (.tup [.int (i : Nat), .ref t]) := upd_same
      generalize upd H2 T (.tup [.int (i : Nat), .ref t]) = H3 at e1' e2' e3' s3 eT ⊢
      walk_at "go"
      refine r_eqPair e2' e3' ?_
      walk_at "go"
      refine iteD (fun c => ?_) (fun c => ?_)
      · walk_at "go"
        exact h _ _ (s1.trans s3) (.inl ⟨i, rfl, hil, c, hn⟩)
      · walk_at "go"
        refine ⟨_, _, _, rfl, s3, fun j hj => ?_⟩
        by_cases e : j = i
        · subst e
          exact c
        · exact hn j (by omega)
    · rintro σ H2 ⟨v2, v3, v4, rfl, h2, hn⟩
      walk_at "go"
      rw [List.length_map] at hn
      exact h _ _ (s1.trans h2) (.inr ⟨rfl, fun i hi => hn i (by omega)⟩)
end
end Rd

namespace Rd
open PySem L2 LamX
section
variable {P : Program} {w : World} {K : PySem.W.Frag} {mg : Str → Option Value} {base : Heap}
def chs (r p : Int) (x : Int × Int) (goal : Int) : List Int := if (goal - x.2) % r = 0 then [0] else [x.2 + (goal - x.2) % r + p - x.1, x.2 + (goal - x.2) % r - r - x.1]
theorem chs_pos (r p : Int) (x : Int × Int) (goal : Int) : 0 < (chs r p x goal).length := by
  unfold chs
  split
  · exact Nat.succ_pos _
  · exact Nat.succ_pos _
def spGoals (K : PySem.W.Frag) : Sp := fun vs H Q _ => ∃ (g : Addr) (r p : Int) (z : Addr) (x : Int × Int) (l : Addr) (gs : List Int) (most : Int), vs = [.ref g, .ref z, .ref l, .int most] ∧ GearAt H g r p ∧ H z = some (.tup [.int x.1, .int x.2]) ∧ Stg p x ∧ SqL K H l (gs.map V.int) ∧
  (gs.length : Int) ≤ most ∧ gs.length ≤ 1000 ∧ (∀ y ∈ gs, 0 ≤ y ∧ y < r) ∧ ∀ H', Same H H' → Q .non H'
theorem spGoals_i {g z l : Addr} {r p most : Int} {x : Int × Int} {gs : List Int} {H : Hp} {Q : VK} {E : XK} (G : GearAt H g r p) (hz : H z = some (.tup [.int x.1, .int x.2])) (hs : Stg p x) (hl : SqL K H l (gs.map V.int)) (hm : (gs.length : Int) ≤ most) (h1 : gs.length ≤ 1000) (hg : ∀ y ∈ gs, 0 ≤ y ∧ y < r)
    (k : ∀ H', Same H H' → Q .non H') : spGoals K [.ref g, .ref z, .ref l, .int most] H Q E := ⟨g, r, p, z, x, l, gs, most, rfl, G, hz, hs, hl, hm, h1, hg, k⟩
theorem ok_need_goals (B : Bl mg) (F : FunAt K mg "need_goals" s_need_goals) (H_need_standing : Has P w K mg base CX0 2 "need_standing" spNS) : Has P w K mg base CX0 3 "need_goals" (spGoals K) := by
  refine F.ok sc_need_goals bo_need_goals (fun vs H Q E h => ?_) (fun f cdv A outer s H vs Q E hr h => ?_)
  · obtain ⟨g, r, p, z, x, l, gs, most, rfl, _⟩ := h
    rfl
  · obtain ⟨g, r, p, z, x, l, gs, most, rfl, G, hz, hs, hl, hm, h1, hg, k⟩ := h
    refine ⟨_, (pss_cons (ps_expr (pe_has H_need_standing hr (by omega) rfl pass0 (pa_cons (pv 0) (pa_cons (pv 1) pa_nil))))
 (pss_one (ps_if (PW.pt (pw_or (pt_cmpR op_gt (pe_callB (kc_len (K := K) rfl) rfl B.len (by decide +kernel) (pa_cons (pv 2) pa_nil)) (pv 3) (nomark _)) (pw_or1 (pt_cmpR (kop_ne (K := K) rfl hr.units) (pe_lc (own := [("goal", 4)]) (g := (gName 4)) rfl sc_need_goals.nd (kpi_list (K := K) rfl (pv 2)) (blkOk_by (N := ["gear", "standing", "goals", "most", "goal"]) (sc := defScope s_need_goals) (own := [("goal", 4)]) (by decide +kernel)) (fun _ _ _ _ _ => (pg_name (i := 4) sc_need_goals.nd rfl (by first | exact Or.inl rfl | exact Or.inr rfl))) (fun _ _ _ _ _ => (pts_one (pt_not (pt_chain op_le op_lt pe_int (pv 4) (pe_ix (kix (K := K) rfl) (pv 0) pe_int (fun _ _ => rfl)))))) (fun _ _ _ _ _ => (pv 4))) (pe_lst pa_nil) (nomark _))))) (pss_one ps_never) pss_nil))), ?_⟩
    refine r_start (σ' := [some (.ref g), some (.ref z), some (.ref l), some (.int most), none]) rfl ?_
    walk_at "go"
    refine spNS_i G hz hs ?_
    walk_at "go"
    rw [List.length_map]
    refine iteDF (by omega) ?_
    walk_at "go"
    refine ⟨_, rfl, ⟨_, hl⟩, fun D nD => lcw_list (K := K) (a := l) (xs := gs.map V.int) (σw := [some (.ref g), some (.ref z), some (.ref l), some (.int most), none])
      (fun n H8 => Same H H8 ∧ H8 D = some (.lst [])) rfl ⟨same_new nD, upd_same⟩ (fun n H8 _ h => h.1.seq hl) (fun n y H8 hn h => ?_) fun H8 h => ?_⟩
    · obtain ⟨h8, hD⟩ := h
      obtain ⟨v, hv, rfl⟩ := map_at hn
      have hb := hg v (List.mem_of_getElem? hv)
      walk_at "go"
      refine ⟨rfl, ?_⟩
      walk_at "go"
      refine iteDT hb.1 ?_
      walk_at "go"
      refine r_ix (.inr (SqT.of (h8 _ _ G.at_))) (v := .int r) rfl ?_
      walk_at "go"
      refine iteNF hb.2 ?_
      walk_at "go"
      exact ⟨h8, hD⟩
    · obtain ⟨h8, hD⟩ := h
      walk_at "go"
      intro t nt
      refine r_neNil (ns := []) (at_new nt hD) upd_same ?_
      walk_at "go"
      refine iteF ?_
      walk_at "go"
      exact k _ (h8.trans (same_new nt))
def spChoices : Sp := fun vs H Q _ => ∃ (g : Addr) (r p : Int) (z : Addr) (x : Int × Int) (goal : Int), vs = [.ref g, .ref z, .int goal] ∧ H g = some (.tup [.int r, .int p]) ∧ 0 < r ∧ H z = some (.tup [.int x.1, .int x.2]) ∧
  ∀ (q : Addr) (H' : Hp), H q = none → Same H H' → H' q = some (.lst ((chs r p x goal).map V.int)) → Q (.ref q) H'
theorem spChoices_i {g z : Addr} {r p goal : Int} {x : Int × Int} {H : Hp} {Q : VK} {E : XK} (hg : H g = some (.tup [.int r, .int p])) (h0 : 0 < r) (hz : H z = some (.tup [.int x.1, .int x.2]))
    (k : ∀ (q : Addr) (H' : Hp), H q = none → Same H H' → H' q = some (.lst ((chs r p x goal).map V.int)) → Q (.ref q) H') : spChoices [.ref g, .ref z, .int goal] H Q E := ⟨g, r, p, z, x, goal, rfl, hg, h0, hz, k⟩
theorem ok_choices (F : FunAt K mg "choices" s_choices) : Has P w K mg base CX0 1 "choices" spChoices := by
  refine F.ok sc_choices bo_choices (fun vs H Q E h => ?_) (fun f cdv A outer s H vs Q E hr h => ?_)
  · obtain ⟨g, r, p, z, x, goal, rfl, _⟩ := h
    rfl
  · obtain ⟨g, r, p, z, x, goal, rfl, hg, h0, hz, k⟩ := h
    refine ⟨_, (pss_cons (ps_asg (pv 0) (kpg_tup (K := K) rfl rfl (pgs_cons (pg_name (i := 3) sc_choices.nd rfl (by first | exact Or.inl rfl | exact Or.inr rfl)) (pgs_cons (pg_name (i := 4) sc_choices.nd rfl (by first | exact Or.inl rfl | exact Or.inr rfl)) pgs_nil))))
 (pss_cons (ps_asg (pv 1) (kpg_tup (K := K) rfl rfl (pgs_cons (pg_name (i := 5) sc_choices.nd rfl (by first | exact Or.inl rfl | exact Or.inr rfl)) (pgs_cons (pg_name (i := 6) sc_choices.nd rfl (by first | exact Or.inl rfl | exact Or.inr rfl)) pgs_nil))))
 (pss_cons (ps_set (i := 7) sc_choices.nd rfl (by first | exact Or.inl rfl | exact Or.inr rfl) (pe_op op_mod (pe_op op_sub (pv 2) (pv 6)) (pv 3)))
 (pss_cons (ps_if (pt_cmpR (kop_eq (K := K) rfl hr.units) (pv 7) pe_int (nomark _)) (pss_one (ps_ret (pe_lst (pa_cons pe_int pa_nil)))) pss_nil)
 (pss_one (ps_ret (pe_lst (pa_cons (pe_op op_sub (pe_op (kop_add (K := K) rfl) (pe_op (kop_add (K := K) rfl) (pv 6) (pv 7)) (pv 4)) (pv 5)) (pa_cons (pe_op op_sub (pe_op op_sub (pe_op (kop_add (K := K) rfl) (pv 6) (pv 7)) (pv 3)) (pv 5)) pa_nil))))))))), ?_⟩
    refine r_start (σ' := [some (.ref g), some (.ref z), some (.int goal), none, none, none, none, none]) rfl ?_
    walk_at "go"
    refine r_I h0 ?_
    walk_at "go"
    refine iteD (fun c => ?_) (fun c => ?_)
    · walk_at "go"
      intro q nq
      walk_at "go"
      refine k q _ nq (same_new nq) ?_
      rw [upd_same, chs, if_pos c]
      rfl
    · walk_at "go"
      intro q nq
      walk_at "go"
      refine k q _ nq (same_new nq) ?_
      rw [upd_same, chs, if_neg c]
      rfl
/-- the fewest steps: what to tells -/
def Few (r p : Int) (x : Int × Int) (goal v : Int) : Prop := v ∈ chs r p x goal ∧ ∀ y ∈ chs r p x goal, cod v ≤ cod y
def spTo (K : PySem.W.Frag) (T : List (Addr × Str)) : Sp := fun vs H Q _ => ∃ (g : Addr) (r p : Int) (z : Addr) (x : Int × Int) (goal : Int), vs = [.ref g, .ref z, .int goal] ∧ GearAt H g r p ∧ H z = some (.tup [.int x.1, .int x.2]) ∧ Stg p x ∧ 0 ≤ goal ∧ goal < r ∧ Tabs T H ∧
  ∀ (v : Int) (H' : Hp), ExtN H H' → Tabs T H' → Few r p x goal v → Q (.int v) H'
theorem spTo_i {T : List (Addr × Str)} {g z : Addr} {r p goal : Int} {x : Int × Int} {H : Hp} {Q : VK} {E : XK} (G : GearAt H g r p) (hz : H z = some (.tup [.int x.1, .int x.2])) (hs : Stg p x) (h0 : 0 ≤ goal) (h1 : goal < r) (hT : Tabs T H)
    (k : ∀ (v : Int) (H' : Hp), ExtN H H' → Tabs T H' → Few r p x goal v → Q (.int v) H') : spTo K T [.ref g, .ref z, .int goal] H Q E := ⟨g, r, p, z, x, goal, rfl, G, hz, hs, h0, h1, hT, k⟩
theorem ok_to {TT : List (Addr × Str)} {c Pt : Addr} (B : Bl mg) (F : FunTab K mg "to" s_to c Pt) (TB : TabB base mg c Pt) (hmT : (Pt, ("to" ++ ".<locals>." ++ "<lambda>" : Str)) ∈ TT) (huT : ∀ p ∈ TT, p.1 = Pt → p.2 = ("to" ++ ".<locals>." ++ "<lambda>" : Str))
    (H_need_goals : Has P w K mg base CX0 3 "need_goals" (spGoals K)) (H_choices : Has P w K mg base CX0 1 "choices" spChoices) : Has P w K mg base CX0 4 "to" (spTo K TT) := by
  refine F.ok sc_to bo_to (fun vs H Q E h => ?_) (fun f A outer s H vs Q E hr h => ?_)
  · obtain ⟨g, r, p, z, x, goal, rfl, _⟩ := h
    rfl
  · obtain ⟨g, r, p, z, x, goal, rfl, G, hz, hs, h0, h1, hT, k⟩ := h
    refine ⟨_, (pss_cons (ps_expr (pe_has H_need_goals hr (by omega) rfl pass0 (pa_cons (pv 0) (pa_cons (pv 1) (pa_cons (pe_lst (pa_cons (pv 2) pa_nil)) (pa_cons pe_int pa_nil))))))
 (pss_one (ps_ret (pe_minKey (K := K) (T := TT) (k := 0) (a := "steps") rfl rfl B.min (pe_has H_choices hr (by omega) rfl pass0 (pa_cons (pv 0) (pa_cons (pv 1) (pa_cons (pv 2) pa_nil)))) TB rfl hmT huT (hr.mono (by omega)) ⟨rfl, rfl, rfl, by decide +kernel, rfl, by decide +kernel, by decide +kernel⟩ rfl rfl (fun _ _ _ _ _ => rfl) (fun _ _ _ _ _ _ => (pe_tup (pa_cons (pe_callB call_absA rfl B.abs (by decide +kernel) (pa_cons (pv 0) pa_nil)) (pa_cons (pe_op op_sub pe_int (pv 0)) pa_nil)))) (by intro n H Q k; walk_at "go"; intro t nt; exact k t nt))))), ?_⟩
    refine r_start (σ' := [some (.ref g), some (.ref z), some (.int goal)]) rfl ?_
    walk_at "go"
    intro t nt
    walk_at "go"
    refine spGoals_i (gs := [goal]) (G.mono (at_new nt G.at_)) (at_new nt hz) hs (SqL.of upd_same) (Int.le_refl 1) (show 1 ≤ 1000 by decide) (fun y hy => by rw [List.mem_singleton.mp hy]; exact ⟨h0, h1⟩) fun H2 h2 => ?_
    walk_at "go"
    refine r_minKey ?_
    walk_at "go"
    have h02 : Same H H2 := (same_new nt).trans h2
    refine spChoices_i (h02 _ _ G.at_) (by have := G.r2; omega) (h02 _ _ hz) fun q H3 nq h3 hq => ?_
    refine ⟨q, _, rfl, SqL.of hq, chs_pos _ _ _ _, hT.ext (h02.trans h3), fun m H' m1 m2 eN T2 => ?_⟩
    exact k m H' (ExtN.trans (ExtN.of (h02.trans h3)) eN) T2 ⟨m1, m2⟩
end
end Rd

namespace Rd
open PySem L2
/-! ## marks, plain -/
/-- marks of a round -/
structure Marks (r : Int) (ms : List Int) : Prop where
  few : ms.length ≤ 12
  some_ : 0 < ms.length
  rise : ms.Pairwise (· < ·)
  in_ : ∀ m ∈ ms, 0 ≤ m ∧ m < r
theorem rise_one {a b : List Int} (ha : a.Pairwise (· < ·)) (hb : b.Pairwise (· < ·)) (h : ∀ i, i ∈ a ↔ i ∈ b) : a = b := by
  have na : a.Nodup := ha.imp fun h e => by omega
  have nb : b.Nodup := hb.imp fun h e => by omega
  exact List.Perm.eq_of_pairwise (le := (· ≤ ·)) (fun x y _ _ h1 h2 => Int.le_antisymm h1 h2) (ha.imp fun h => Int.le_of_lt h) (hb.imp fun h => Int.le_of_lt h) ((List.perm_ext_iff_of_nodup na nb).mpr h)
/-- the number of the least size by which the shaft would be at a mark -/
def offT (r s m : Int) : Int := (0 - (r - 1) / 2) + (m - s - (0 - (r - 1) / 2)) % r
section
variable {P : Program} {w : World} {K : PySem.W.Frag} {mg : Str → Option Value} {base : Heap}
def spNMk : Sp := fun vs H Q _ => ∃ (g : Addr) (r p : Int) (l : Addr) (ms : List Int), vs = [.ref g, .ref l] ∧ GearAt H g r p ∧ H l = some (.tup (ms.map V.int)) ∧ Marks r ms ∧ ∀ H', Same H H' → Q .non H'
theorem spNMk_i {g l : Addr} {r p : Int} {ms : List Int} {H : Hp} {Q : VK} {E : XK} (G : GearAt H g r p) (hl : H l = some (.tup (ms.map V.int))) (M : Marks r ms) (k : ∀ H', Same H H' → Q .non H') : spNMk [.ref g, .ref l] H Q E := ⟨g, r, p, l, ms, rfl, G, hl, M, k⟩
theorem ok_need_marks (B : Bl mg) (F : FunAt K mg "need_marks" s_need_marks) (M_MOST_MARKS : Cn mg "MOST_MARKS" 12) (H_need_gear : Has P w K mg base CX0 1 "need_gear" spNG) : Has P w K mg base CX0 2 "need_marks" spNMk := by
  refine F.ok sc_need_marks bo_need_marks (fun vs H Q E h => ?_) (fun f cdv A outer s H vs Q E hr h => ?_)
  · obtain ⟨g, r, p, l, ms, rfl, _⟩ := h
    rfl
  · obtain ⟨g, r, p, l, ms, rfl, G, hl, M, k⟩ := h
    have m1 := M.few
    have m2 := M.some_
    refine ⟨_, (pss_cons (ps_expr (pe_has H_need_gear hr (by omega) rfl pass0 (pa_cons (pv 0) pa_nil)))
 (pss_cons (ps_set (i := 2) sc_need_marks.nd rfl (by first | exact Or.inl rfl | exact Or.inr rfl) (pe_and (pe_chain op_le op_le pe_int (pe_callB (kc_len (K := K) rfl) rfl B.len (by decide +kernel) (pa_cons (pv 1) pa_nil)) (pe_cn M_MOST_MARKS rfl)) (pe_one (pe_cmpR (kop_eq (K := K) rfl hr.units) (pe_callB (kc_sortedS (w := w) rfl rfl) rfl B.sorted (by decide +kernel) (pa_cons (pe_callTy (kc_setI (K := K) (w := w) rfl rfl rfl) rfl B.set (by decide +kernel) (pa_cons (pv 1) pa_nil)) pa_nil)) (pe_callTy (kc_list (K := K) rfl) rfl B.list (by decide +kernel) (pa_cons (pv 1) pa_nil)) (nomark _)))))
 (pss_one (ps_if (PW.pt (pw_or (pt_not (pt_val (pv 2))) (pw_or1 (pt_cmpR (kop_ne (K := K) rfl hr.units) (pe_lc (own := [("mark", 3)]) (g := (gName 3)) rfl sc_need_marks.nd (kpi_tup (K := K) rfl (pv 1)) (blkOk_by (N := ["gear", "marks", "good", "mark"]) (sc := defScope s_need_marks) (own := [("mark", 3)]) (by decide +kernel)) (fun _ _ _ _ _ => (pg_name (i := 3) sc_need_marks.nd rfl (by first | exact Or.inl rfl | exact Or.inr rfl))) (fun _ _ _ _ _ => (pts_one (pt_not (pt_chain op_le op_lt pe_int (pv 3) (pe_ix (kix (K := K) rfl) (pv 0) pe_int (fun _ _ => rfl)))))) (fun _ _ _ _ _ => (pv 3))) (pe_lst pa_nil) (nomark _))))) (pss_one ps_never) pss_nil)))), ?_⟩
    refine r_start (σ' := [some (.ref g), some (.ref l), none, none]) rfl ?_
    walk_at "go"
    refine spNG_i G ?_
    walk_at "go"
    rw [List.length_map]
    refine iteDT (by omega) ?_
    walk_at "go"
    refine iteDT (by omega) ?_
    walk_at "go"
    refine r_setI (.inr (SqT.of hl)) (by omega) fun p3 c n3 hc => ?_
    walk_at "go"
    refine r_sortedS (ns := ms) (c := c) upd_same (by omega) fun ms' p4 h1 h2 h3 n4 => ?_
    have e := rise_one h1 M.rise h2
    subst e
    walk_at "go"
    have hl4 := at_new (u := .lst (ms'.map V.int)) n4 (at_new (u := SetO w p3 (fun j => decide (j ∈ ms')) c) n3 hl)
    refine r_listOf (.inr (SqT.of hl4)) fun l5 n5 => ?_
    walk_at "go"
    refine r_eqIs (d := dInts ms') (n := 1) (Is.ints (at_new n5 upd_same)) (Is.ints upd_same) (Fl.ints 0 _) ?_
    have s5 : Same H (upd (upd (upd H p3 (SetO w p3 (fun j => decide (j ∈ ms')) c)) p4 (.lst (ms'.map V.int))) l5 (.lst (ms'.map V.int))) := (same_new n3).trans ((same_new n4).trans (same_new n5))
    generalize upd (upd (upd H p3 (SetO w p3 (fun j => decide (j ∈ ms')) c)) p4 (.lst (ms'.map V.int))) l5 (.lst (ms'.map V.int)) = H5 at s5 ⊢
    walk_at "go"
    refine iteF ?_
    walk_at "go"
    refine r_iTup ?_
    walk_at "go"
    refine ⟨_, rfl, ⟨_, SqT.of (s5 _ _ hl)⟩, fun D nD => lcw_tup (K := K) (a := l) (xs := ms'.map V.int) (σw := [some (.ref g), some (.ref l), some (.bl true), none])
      (fun n H8 => Same H5 H8 ∧ H8 D = some (.lst [])) rfl ⟨same_new nD, upd_same⟩ (fun n H8 _ h => SqT.of (h.1 _ _ (s5 _ _ hl))) (fun n y H8 hn h => ?_) fun H8 h => ?_⟩
    · obtain ⟨h8, hD⟩ := h
      obtain ⟨v, hv, rfl⟩ := map_at hn
      have hb := M.in_ v (List.mem_of_getElem? hv)
      have hg8 := h8 _ _ (s5 _ _ G.at_)
      walk_at "go"
      refine ⟨rfl, ?_⟩
      walk_at "go"
      refine iteDT hb.1 ?_
      walk_at "go"
      refine iteNF hb.2 ?_
      walk_at "go"
      exact ⟨h8, hD⟩
    · obtain ⟨h8, hD⟩ := h
      walk_at "go"
      intro t nt
      refine r_neNil (ns := []) (at_new nt hD) upd_same ?_
      walk_at "go"
      refine iteF ?_
      walk_at "go"
      exact k _ (s5.trans (h8.trans (same_new nt)))
def spOff : Sp := fun vs H Q _ => ∃ (r s m : Int), vs = [.int r, .int s, .int m] ∧ 0 < r ∧ Q (.int (offT r s m)) H
theorem spOff_i {r s m : Int} {H : Hp} {Q : VK} {E : XK} (h : 0 < r) (k : Q (.int (offT r s m)) H) : spOff [.int r, .int s, .int m] H Q E := ⟨r, s, m, rfl, h, k⟩
theorem ok_off_to (F : FunAt K mg "off_to" s_off_to) : Has P w K mg base CX0 1 "off_to" spOff := by
  refine F.ok sc_off_to bo_off_to (fun vs H Q E h => ?_) (fun f cdv A outer s H vs Q E hr h => ?_)
  · obtain ⟨r, s, m, rfl, _⟩ := h
    rfl
  · obtain ⟨r, s, m, rfl, h0, k⟩ := h
    refine ⟨_, (pss_cons (ps_set (i := 3) sc_off_to.nd rfl (by first | exact Or.inl rfl | exact Or.inr rfl) (pe_op op_sub pe_int (pe_op op_fdivW (pe_op op_sub (pv 0) pe_int) pe_int)))
 (pss_one (ps_ret (pe_op (kop_add (K := K) rfl) (pv 3) (pe_op op_mod (pe_op op_sub (pe_op op_sub (pv 2) (pv 1)) (pv 3)) (pv 0)))))), ?_⟩
    refine r_start (σ' := [some (.int r), some (.int s), some (.int m), none]) rfl ?_
    walk_at "go"
    refine r_I ⟨by decide, by decide +kernel⟩ ?_
    walk_at "go"
    refine r_I h0 ?_
    walk_at "go"
    exact k
def spMarks (K : PySem.W.Frag) : Sp := fun vs H Q _ => ∃ (st a : Addr) (ns : List Int) (g : Addr) (r p : Int), vs = [.ref st, .ref g] ∧ St H st a ∧ SqL K H a (ns.map V.int) ∧ H g = some (.tup [.int r, .int p]) ∧ 0 < r ∧ r ≤ 1000000 ∧
  ∀ (l : Addr) (ms : List Int) (H' : Hp), Marks r ms → St H' st a → Fr H H' → H' l = some (.tup (ms.map V.int)) → Q (.ref l) H'
theorem spMarks_i {st a g : Addr} {ns : List Int} {r p : Int} {H : Hp} {Q : VK} {E : XK} (s : St H st a) (hS : SqL K H a (ns.map V.int)) (hg : H g = some (.tup [.int r, .int p])) (h0 : 0 < r) (h1 : r ≤ 1000000)
    (k : ∀ (l : Addr) (ms : List Int) (H' : Hp), Marks r ms → St H' st a → Fr H H' → H' l = some (.tup (ms.map V.int)) → Q (.ref l) H') : spMarks K [.ref st, .ref g] H Q E := ⟨st, a, ns, g, r, p, rfl, s, hS, hg, h0, h1, k⟩
/-- the ways between marks, the last one over the round's end -/
def gaps (r : Int) (ms : List Int) : List Int := ((List.range (ms.length - 1)).map fun k => ms.getD (k + 1) 0 - ms.getD k 0) ++ [ms.getD 0 0 - ms.getD (ms.length - 1) 0 + r]
def Least (r : Int) (ms : List Int) (d : Int) : Prop := d ∈ gaps r ms ∧ ∀ y ∈ gaps r ms, d ≤ y
theorem Least.one {r : Int} {ms : List Int} {d e : Int} (a : Least r ms d) (b : Least r ms e) : d = e := Int.le_antisymm (a.2 e b.1) (b.2 d a.1)
/-- the k-th of sure's ways -/
def way (r : Int) (ms : List Int) (k : Nat) : Int := (ms.getD k 0 - (if k = 0 then ms.getD (ms.length - 1) 0 else ms.getD (k - 1) 0)) % r
theorem Marks.lt {r : Int} {ms : List Int} (M : Marks r ms) {i j : Nat} (h : i < j) (hj : j < ms.length) : ms.getD i 0 < ms.getD j 0 := by
  rw [List.getD_eq_getElem?_getD, List.getD_eq_getElem?_getD, List.getElem?_eq_getElem (show i < ms.length by omega), List.getElem?_eq_getElem hj]
  exact List.pairwise_iff_getElem.mp M.rise i j (by omega) hj h
theorem Marks.bnd {r : Int} {ms : List Int} (M : Marks r ms) {i : Nat} (h : i < ms.length) : 0 ≤ ms.getD i 0 ∧ ms.getD i 0 < r := by
  rw [List.getD_eq_getElem?_getD, List.getElem?_eq_getElem h]
  exact M.in_ _ (List.getElem_mem h)
theorem way_gap {r : Int} {ms : List Int} (M : Marks r ms) (h2 : 1 < ms.length) {k : Nat} (hk : k < ms.length) : way r ms k = if k = 0 then ms.getD 0 0 - ms.getD (ms.length - 1) 0 + r else ms.getD k 0 - ms.getD (k - 1) 0 := by
  unfold way
  have b := M.bnd hk
  split
  · rename_i c
    subst c
    have l := M.lt (show 0 < ms.length - 1 by omega) (show ms.length - 1 < ms.length by omega)
    have b2 := M.bnd (show ms.length - 1 < ms.length by omega)
    rw [← Int.add_emod_right]
    exact Int.emod_eq_of_lt (by omega) (by omega)
  · have l := M.lt (show k - 1 < k by omega) hk
    have b2 := M.bnd (show k - 1 < ms.length by omega)
    exact Int.emod_eq_of_lt (by omega) (by omega)
theorem least_ways {r : Int} {ms : List Int} (M : Marks r ms) (h2 : 1 < ms.length) {d : Int} (hm : d ∈ (List.range ms.length).map (way r ms)) (hl : ∀ y ∈ (List.range ms.length).map (way r ms), d ≤ y) : Least r ms d := by
  have sub : ∀ y, y ∈ gaps r ms ↔ y ∈ (List.range ms.length).map (way r ms) := by
    intro y
    unfold gaps
    rw [List.mem_append, List.mem_map, List.mem_map, List.mem_singleton]
    constructor
    · rintro (⟨k, hk, rfl⟩ | rfl)
      · rw [List.mem_range] at hk
        exact ⟨k + 1, List.mem_range.mpr (by omega), by rw [way_gap M h2 (by omega), if_neg (by omega), Nat.add_sub_cancel]⟩
      · exact ⟨0, List.mem_range.mpr (by omega), by rw [way_gap M h2 (by omega), if_pos rfl]⟩
    · rintro ⟨k, hk, rfl⟩
      rw [List.mem_range] at hk
      rw [way_gap M h2 hk]
      split
      · exact .inr rfl
      · rename_i c
        exact .inl ⟨k - 1, List.mem_range.mpr (by omega), by rw [show k - 1 + 1 = k by omega]⟩
  exact ⟨(sub d).mpr hm, fun y hy => hl y ((sub y).mp hy)⟩
theorem least_alone {r : Int} {ms : List Int} (h : ms.length = 1) : Least r ms r := by
  have e : gaps r ms = [r] := by
    unfold gaps
    rw [h]
    show ([] ++ [ms.getD 0 0 - ms.getD 0 0 + r]) = [r]
    rw [List.nil_append, Int.sub_self, Int.zero_add]
  exact ⟨by rw [e]; exact List.mem_singleton.mpr rfl, fun y hy => by rw [e] at hy; rw [List.mem_singleton.mp hy]; exact Int.le_refl _⟩
def spSure : Sp := fun vs H Q _ => ∃ (g : Addr) (r p : Int) (l : Addr) (ms : List Int), vs = [.ref g, .ref l] ∧ GearAt H g r p ∧ H l = some (.tup (ms.map V.int)) ∧ Marks r ms ∧
  ∀ (t : Addr) (d : Int) (H' : Hp), Least r ms d → Same H H' → H t = none → H' t = some (.tup [.int ((r - 1) / 2), .int ((d - 1) / 2)]) → Q (.ref t) H'
theorem spSure_i {g l : Addr} {r p : Int} {ms : List Int} {H : Hp} {Q : VK} {E : XK} (G : GearAt H g r p) (hl : H l = some (.tup (ms.map V.int))) (M : Marks r ms)
    (k : ∀ (t : Addr) (d : Int) (H' : Hp), Least r ms d → Same H H' → H t = none → H' t = some (.tup [.int ((r - 1) / 2), .int ((d - 1) / 2)]) → Q (.ref t) H') : spSure [.ref g, .ref l] H Q E := ⟨g, r, p, l, ms, rfl, G, hl, M, k⟩
theorem at_getD {ms : List Int} {k : Nat} (h : k < ms.length) : (ms.map V.int)[k]? = some (.int (ms.getD k 0)) := by
  rw [List.getElem?_map, List.getElem?_eq_getElem h, List.getD_eq_getElem?_getD, List.getElem?_eq_getElem h]
  rfl
theorem ok_sure (B : Bl mg) (F : FunAt K mg "sure" s_sure) (H_need_marks : Has P w K mg base CX0 2 "need_marks" spNMk) : Has P w K mg base CX0 3 "sure" spSure := by
  refine F.ok sc_sure bo_sure (fun vs H Q E h => ?_) (fun f cdv A outer s H vs Q E hr h => ?_)
  · obtain ⟨g, r, p, l, ms, rfl, _⟩ := h
    rfl
  · obtain ⟨g, r, p, l, ms, rfl, G, hl, M, k⟩ := h
    have m1 := M.few
    have m2 := M.some_
    have r2 := G.r2
    refine ⟨_, (pss_cons (ps_expr (pe_has H_need_marks hr (by omega) rfl pass0 (pa_cons (pv 0) (pa_cons (pv 1) pa_nil))))
 (pss_cons (ps_set (i := 2) sc_sure.nd rfl (by first | exact Or.inl rfl | exact Or.inr rfl) (pe_ix (kix (K := K) rfl) (pv 0) pe_int (fun _ _ => rfl)))
 (pss_cons (ps_setLc (i := 3) (own := [("k", 5)]) (g := (gName 5)) rfl sc_sure.nd rfl rfl (sw_true rfl rfl rfl (by decide +kernel)) (pi_range1 rfl B.range (pa_cons (pe_callB (kc_len (K := K) rfl) rfl B.len (by decide +kernel) (pa_cons (pv 1) pa_nil)) pa_nil)) (blkOk_by (N := ["gear", "marks", "around", "ways", "least", "k"]) (sc := defScope s_sure) (own := [("k", 5)]) (by decide +kernel)) (fun _ _ _ _ _ => (pg_name (i := 5) sc_sure.nd rfl (by first | exact Or.inl rfl | exact Or.inr rfl))) (fun _ _ _ _ _ => pts_nil) (fun _ _ _ _ _ => (pe_op op_mod (pe_op op_sub (pe_ix (kix (K := K) rfl) (pv 1) (pv 5) (fun _ _ => rfl)) (pe_ix (kix (K := K) rfl) (pv 1) (pe_op op_sub (pv 5) pe_int) (fun _ _ => rfl))) (pv 2))))
 (pss_cons (ps_set (i := 4) sc_sure.nd rfl (by first | exact Or.inl rfl | exact Or.inr rfl) (pe_mid (pe_ifExp (pt_cmpR op_gt (pe_callB (kc_len (K := K) rfl) rfl B.len (by decide +kernel) (pa_cons (pv 1) pa_nil)) pe_int (nomark _)) (pe_callB (kc_min (K := K) rfl rfl) rfl B.min (by decide +kernel) (pa_cons (pv 3) pa_nil)) (pv 2))))
 (pss_one (ps_ret (pe_tup (pa_cons (pe_op op_fdivW (pe_op op_sub (pv 2) pe_int) pe_int) (pa_cons (pe_op op_fdivW (pe_op op_sub (pv 4) pe_int) pe_int) pa_nil))))))))), ?_⟩
    refine r_start (σ' := [some (.ref g), some (.ref l), none, none, none, none]) rfl ?_
    walk_at "go"
    refine spNMk_i G hl M fun H2 h2 => ?_
    have hg2 := h2 _ _ G.at_
    have hl2 := h2 _ _ hl
    walk_at "go"
    rw [List.length_map]
    refine ⟨_, rfl, by omega, by omega, fun D nD => lcw_range (σw := [some (.ref g), some (.ref l), some (.int r), none, none, none])
      (fun j H7 => Same H2 H7 ∧ H7 D = some (.lst (((List.range j).map (way r ms)).map V.int))) rfl ⟨same_new nD, upd_same⟩ (fun j H7 hj h => ?_) fun H7 h => ?_⟩
    · obtain ⟨h7, hD⟩ := h
      have hl7 := h7 _ _ hl2
      have hjl : j < ms.length := by omega
      walk_at "go"
      refine ⟨rfl, ?_⟩
      walk_at "go"
      refine iteT ?_
      walk_at "go"
      refine r_ix (v := .int (ms.getD j 0)) (.inr (SqT.of hl7)) (at_of (j := j) (by omega) (at_getD hjl)) ?_
      walk_at "go"
      refine r_ix (v := .int (if j = 0 then ms.getD (ms.length - 1) 0 else ms.getD (j - 1) 0)) (.inr (SqT.of hl7)) ?_ ?_
      · by_cases c : j = 0
        · subst c
          rw [if_pos rfl]
          have := at_neg1 (xs := ms.map V.int) (n := ms.length - 1) (v := .int (ms.getD (ms.length - 1) 0)) (by rw [List.length_map]; omega) (at_getD (by omega))
          exact this
        · rw [if_neg c]
          exact at_of (j := j - 1) (by omega) (at_getD (by omega))
      walk_at "go"
      refine r_I (show 0 < r by omega) ?_
      refine ⟨_, hD, by rw [List.length_map, List.length_map, List.length_range]; exact small1000 (by omega), fun b o e => at_wr (ne_of_none e nD) (h7 _ _ e), ?_⟩
      rw [upd_same, List.range_succ, List.map_append, List.map_append]
      rfl
    obtain ⟨h7, hD⟩ := h
    have e1 : ((ms.length : Nat) : Int).toNat = ms.length := by omega
    rw [e1] at hD
    have hl7 := h7 _ _ hl2
    walk_at "go"
    refine r_mid (fun v H' => H' = H7 ∧ ∃ d, v = .int d ∧ Least r ms d) ?_ ?_
    · walk_at "go"
      rw [List.length_map]
      refine iteD (fun c => ?_) (fun c => ?_)
      · walk_at "go"
        refine r_minL (SqL.of hD) (by rw [List.length_map, List.length_range]; omega) fun d d1 d2 => ?_
        exact ⟨rfl, d, rfl, least_ways M (by omega) d1 d2⟩
      · walk_at "go"
        exact ⟨rfl, r, rfl, least_alone (by omega)⟩
    · rintro _ _ ⟨rfl, d, rfl, hd⟩
      walk_at "go"
      refine r_I ⟨by decide, by decide +kernel⟩ ?_
      walk_at "go"
      refine r_I ⟨by decide, by decide +kernel⟩ ?_
      walk_at "go"
      intro t nt
      walk_at "go"
      have s7 := h2.trans h7
      exact k t d _ hd (s7.trans (same_new nt)) (s7.free nt) upd_same
end
end Rd

namespace Rd
open PySem L2
/-- all (the sizes together, the steps) to goals, one behind the other -/
def rowsOf (r p : Int) : Int × Int → List Int → List (Int × List Int)
  | _, [] => [(0, [])]
  | x, g :: gs => (chs r p x g).flatMap fun k => (rowsOf r p (nx p x k) gs).map fun q => (q.1 + k.natAbs, k :: q.2)
/-- the best of some rows: the least sizes, of these the last steps -/
def BestR (L : List (Int × List Int)) (q : Int × List Int) : Prop := q ∈ L ∧ ∀ z ∈ L, q.1 ≤ z.1 ∧ (z.1 = q.1 → ltL q.2 z.2 = false)
theorem BestR.one {L : List (Int × List Int)} {q z : Int × List Int} (a : BestR L q) (b : BestR L z) : q = z := by
  have h1 := a.2 z b.1
  have h2 := b.2 q a.1
  have e : q.1 = z.1 := by omega
  exact Prod.ext e (ltL_tri _ _ (h1.2 e.symm) (h2.2 e))
/-- a best one behind each of the ways -/
def Behind (r p : Int) (x : Int × Int) (gs : List Int) (ks : List Int) (rws : List (Int × List Int)) : Prop := rws.length = ks.length ∧ ∀ (j : Nat) (k : Int) (q : Int × List Int), ks[j]? = some k → rws[j]? = some q → ∃ z, BestR (rowsOf r p (nx p x k) gs) z ∧ q = ((k.natAbs : Int) + z.1, k :: z.2)
theorem Behind.snoc {r p : Int} {x : Int × Int} {gs ks : List Int} {rws : List (Int × List Int)} {k : Int} {z : Int × List Int} (h : Behind r p x gs ks rws) (b : BestR (rowsOf r p (nx p x k) gs) z) : Behind r p x gs (ks ++ [k]) (rws ++ [((k.natAbs : Int) + z.1, k :: z.2)]) := by
  obtain ⟨h1, h2⟩ := h
  refine ⟨by simp [h1], fun j k' q e1 e2 => ?_⟩
  rcases at_snoc e1 with ⟨f1, g1⟩ | ⟨f1, rfl⟩
  · rcases at_snoc e2 with ⟨f2, g2⟩ | ⟨f2, rfl⟩
    · exact h2 j _ _ f1 f2
    · omega
  · rcases at_snoc e2 with ⟨f2, g2⟩ | ⟨f2, rfl⟩
    · omega
    · exact ⟨z, b, rfl⟩
theorem chs_le (r p : Int) (x : Int × Int) (goal : Int) : (chs r p x goal).length ≤ 2 := by
  unfold chs
  split
  · exact Nat.le_succ 1
  · exact Nat.le_refl 2
theorem best_of {r p : Int} {x : Int × Int} {g : Int} {gs : List Int} {rws : List (Int × List Int)} {q : Int × List Int} (h : Behind r p x gs (chs r p x g) rws) (hq : BestR rws q) : BestR (rowsOf r p x (g :: gs)) q := by
  obtain ⟨hl, hb⟩ := h
  obtain ⟨hm, ho⟩ := hq
  refine ⟨?_, fun z hz => ?_⟩
  · obtain ⟨j, hj⟩ := List.mem_iff_getElem?.mp hm
    have hlt : j < (chs r p x g).length := by
      rw [← hl]
      exact (List.getElem?_eq_some_iff.mp hj).1
    obtain ⟨z, hz, e⟩ := hb j _ q (List.getElem?_eq_getElem hlt) hj
    refine List.mem_flatMap.mpr ⟨_, List.getElem_mem hlt, List.mem_map.mpr ⟨z, hz.1, ?_⟩⟩
    rw [e]
    exact Prod.ext (Int.add_comm _ _) rfl
  · obtain ⟨k, hk, hz⟩ := List.mem_flatMap.mp hz
    obtain ⟨y, hy, e⟩ := List.mem_map.mp hz
    obtain ⟨j, hj⟩ := List.mem_iff_getElem?.mp hk
    have hlt : j < rws.length := by
      rw [hl]
      exact (List.getElem?_eq_some_iff.mp hj).1
    obtain ⟨w, hw, e2⟩ := hb j k _ hj (List.getElem?_eq_getElem hlt)
    have a := ho _ (List.getElem_mem hlt)
    rw [e2] at a
    have b := hw.2 y hy
    subst e
    dsimp only at a ⊢
    refine ⟨by omega, fun c => ?_⟩
    have e3 : y.1 = w.1 := by omega
    have a2 := a.2 (by omega)
    have b2 := b.2 e3
    refine ltL_le_trans (a := k :: y.2) (b := k :: w.2) ?_ a2
    rw [ltL, if_pos rfl]
    exact b2
section
variable {P : Program} {w : World} {K : PySem.W.Frag} {mg : Str → Option Value} {base : Heap}
theorem void_at {x : Str} {st : Stmt} {ps : List Str} (F : FunAt K mg x st) (bo : BindOk x st ps) : Has P w K mg base CX0 0 x (fun _ _ _ _ => False) := by
  obtain ⟨f, fd, F, hm⟩ := F.ex
  exact ⟨f, fd, ps, ⟨fun _ _ _ _ h => h.elim, fun _ _ _ _ _ _ _ _ _ _ _ _ _ h => h.elim⟩, hm, F.kp, F.binds bo⟩
def spBest (K : PySem.W.Frag) : Nat → Sp
  | 0 => fun _ _ _ _ => False
  | n + 1 => fun vs H Q _ => ∃ (g : Addr) (r p : Int) (z : Addr) (x : Int × Int) (l : Addr) (gs : List Int), vs = [.ref g, .ref z, .ref l] ∧ H g = some (.tup [.int r, .int p]) ∧ 0 < r ∧ H z = some (.tup [.int x.1, .int x.2]) ∧ H l = some (.lst (gs.map V.int)) ∧ gs.length ≤ n ∧ n ≤ 100 ∧
    ∀ (t a : Addr) (q : Int × List Int) (H' : Hp), H t = none → H a = none → Same H H' → H' t = some (.tup [.int q.1, .ref a]) → H' a = some (.lst (q.2.map V.int)) → q.2.length ≤ 100 → BestR (rowsOf r p x gs) q → Q (.ref t) H'
theorem spBest_i {n : Nat} {g z l : Addr} {r p : Int} {x : Int × Int} {gs : List Int} {H : Hp} {Q : VK} {E : XK} (hg : H g = some (.tup [.int r, .int p])) (h0 : 0 < r) (hz : H z = some (.tup [.int x.1, .int x.2])) (hl : H l = some (.lst (gs.map V.int))) (hn : gs.length ≤ n) (h1 : n ≤ 100)
    (k : ∀ (t a : Addr) (q : Int × List Int) (H' : Hp), H t = none → H a = none → Same H H' → H' t = some (.tup [.int q.1, .ref a]) → H' a = some (.lst (q.2.map V.int)) → q.2.length ≤ 100 → BestR (rowsOf r p x gs) q → Q (.ref t) H') :
    spBest K (n + 1) [.ref g, .ref z, .ref l] H Q E := ⟨g, r, p, z, x, l, gs, rfl, hg, h0, hz, hl, hn, h1, k⟩
theorem rows_len {r p : Int} : ∀ {gs : List Int} {x : Int × Int} {q : Int × List Int}, q ∈ rowsOf r p x gs → q.2.length = gs.length
  | [], _, q, h => by
    rw [List.mem_singleton.mp h]
  | g :: gs, x, q, h => by
    obtain ⟨k, _, h⟩ := List.mem_flatMap.mp h
    obtain ⟨z, hz, e⟩ := List.mem_map.mp h
    rw [← e]
    show z.2.length + 1 = gs.length + 1
    rw [rows_len hz]
theorem ok_best_path (B : Bl mg) (F : FunAt K mg "best_path" s_best_path) (H_choices : Has P w K mg base CX0 1 "choices" spChoices) (H_behind : Has P w K mg base CX0 1 "behind" spBehind) : ∀ n, Has P w K mg base CX0 (n + 1) "best_path" (spBest K n)
  | 0 => (void_at F bo_best_path).mono (by omega)
  | n + 1 => by
    have H_best_path : Has P w K mg base CX0 (n + 1) "best_path" (spBest K n) := ok_best_path B F H_choices H_behind n
    refine F.ok sc_best_path bo_best_path (fun vs H Q E h => ?_) (fun f cdv A outer s H vs Q E hr h => ?_)
    · obtain ⟨g, r, p, z, x, l, gs, rfl, _⟩ := h
      rfl
    · obtain ⟨g, r, p, z, x, l, gs, rfl, hg, h0, hz, hl, hn, h1, k⟩ := h
      refine ⟨_, (pss_cons (ps_if (pt_cmpR (kop_eq (K := K) rfl hr.units) (pv 2) (pe_lst pa_nil) (nomark _)) (pss_one (ps_ret (pe_tup (pa_cons pe_int (pa_cons (pe_lst pa_nil) pa_nil))))) pss_nil)
 (pss_cons (ps_set (i := 3) sc_best_path.nd rfl (by first | exact Or.inl rfl | exact Or.inr rfl) (pe_lst pa_nil))
 (pss_cons (ps_for PassesOwn.never rfl (kpi_list (K := K) rfl (pe_has H_choices hr (by omega) rfl pass0 (pa_cons (pv 0) (pa_cons (pv 1) (pa_cons (pe_ix (kix (K := K) rfl) (pv 2) pe_int (fun _ _ => rfl)) pa_nil))))) (pg_name (i := 4) sc_best_path.nd rfl (by first | exact Or.inl rfl | exact Or.inr rfl)) (pss_cons (ps_asg (pe_has H_best_path hr (by omega) rfl pass0 (pa_cons (pv 0) (pa_cons (pe_has H_behind hr (by omega) rfl pass0 (pa_cons (pv 0) (pa_cons (pv 1) (pa_cons (pv 4) pa_nil)))) (pa_cons (pe_slice (ksl (K := K) rfl) (pv 2) (po_some pe_int) po_none) pa_nil)))) (kpg_tup (K := K) rfl rfl (pgs_cons (pg_name (i := 5) sc_best_path.nd rfl (by first | exact Or.inl rfl | exact Or.inr rfl)) (pgs_cons (pg_name (i := 6) sc_best_path.nd rfl (by first | exact Or.inl rfl | exact Or.inr rfl)) pgs_nil))))
 (pss_one (ps_expr (kpe_bm (K := K) rfl PySem.F.plainAttrs_list PySem.F.slot_list_append PySem.F.type_list_append mt_append (pv 3) (pa_cons (pe_tup (pa_cons (pe_op (kop_add (K := K) rfl) (pe_callB call_absA rfl B.abs (by decide +kernel) (pa_cons (pv 4) pa_nil)) (pv 5)) (pa_cons (pe_op (kop_add (K := K) rfl) (pe_lst (pa_cons (pv 4) pa_nil)) (pv 6)) pa_nil))) pa_nil))))))
 (pss_cons (ps_set (i := 7) sc_best_path.nd rfl (by first | exact Or.inl rfl | exact Or.inr rfl) (pe_callB (kc_min (K := K) rfl rfl) rfl B.min (by decide +kernel) (pa_cons (pe_lc (own := [("size", 5), ("row", 8)]) (g := (gTup K 2 (gCons (gName 5) (gCons (gName 8) gNil)))) rfl sc_best_path.nd (kpi_list (K := K) rfl (pv 3)) (blkOk_by (N := ["gear", "standing", "goals", "found", "steps", "size", "rest", "least", "row"]) (sc := defScope s_best_path) (own := [("size", 5), ("row", 8)]) (by decide +kernel)) (fun _ _ _ _ _ => (kpg_tup (K := K) rfl rfl (pgs_cons (pg_name (i := 5) sc_best_path.nd rfl (by first | exact Or.inl rfl | exact Or.inr rfl)) (pgs_cons (pg_name (i := 8) sc_best_path.nd rfl (by first | exact Or.inl rfl | exact Or.inr rfl)) pgs_nil)))) (fun _ _ _ _ _ => pts_nil) (fun _ _ _ _ _ => (pv 5))) pa_nil)))
 (pss_one (ps_ret (pe_tup (pa_cons (pv 7) (pa_cons (pe_callB (kc_maxLL (K := K) rfl rfl hr.units) rfl B.max (by decide +kernel) (pa_cons (pe_lc (own := [("size", 5), ("row", 8)]) (g := (gTup K 2 (gCons (gName 5) (gCons (gName 8) gNil)))) rfl sc_best_path.nd (kpi_list (K := K) rfl (pv 3)) (blkOk_by (N := ["gear", "standing", "goals", "found", "steps", "size", "rest", "least", "row"]) (sc := defScope s_best_path) (own := [("size", 5), ("row", 8)]) (by decide +kernel)) (fun _ _ _ _ _ => (kpg_tup (K := K) rfl rfl (pgs_cons (pg_name (i := 5) sc_best_path.nd rfl (by first | exact Or.inl rfl | exact Or.inr rfl)) (pgs_cons (pg_name (i := 8) sc_best_path.nd rfl (by first | exact Or.inl rfl | exact Or.inr rfl)) pgs_nil)))) (fun _ _ _ _ _ => (pts_one (pt_cmpR (kop_eq (K := K) rfl hr.units) (pv 5) (pv 7) (nomark _)))) (fun _ _ _ _ _ => (pv 8))) pa_nil)) pa_nil))))))))), ?_⟩
      refine r_start (σ' := [some (.ref g), some (.ref z), some (.ref l), none, none, none, none, none, none]) rfl ?_
      walk_at "go"
      intro t0 n0
      refine r_eqNil (at_new n0 hl) upd_same ?_
      walk_at "go"
      have s0 : Same H (upd H t0 (.lst [])) := same_new n0
      generalize upd H t0 (.lst []) = H0 at s0
      cases gs with
      | nil =>
        refine iteDT rfl ?_
        walk_at "go"
        intro a na
        walk_at "go"
        intro t nt
        walk_at "go"
        exact k t a (0, []) _ (s0.free (na.symm ▸ (Same.free (same_new na) nt))) (s0.free na) ((s0.trans (same_new na)).trans (same_new nt)) upd_same (at_new nt upd_same) (by decide) ⟨List.mem_singleton.mpr rfl, fun z hz => by
          rw [List.mem_singleton.mp hz]
          exact ⟨Int.le_refl _, fun _ => ltL_irrefl _⟩⟩
      | cons gl gs =>
        refine iteDF (fun e => nomatch e) ?_
        walk_at "go"
        obtain ⟨m, rfl⟩ : ∃ m, n = m + 1 := ⟨n - 1, by rw [List.length_cons] at hn; omega⟩
        have hn' : gs.length ≤ m := by rw [List.length_cons] at hn; omega
        intro fd nfd
        walk_at "go"
        have s1 : Same H (upd H0 fd (.lst [])) := s0.trans (same_new nfd)
        have hfd : upd H0 fd (.lst []) fd = some (.lst []) := upd_same
        have nfH : H fd = none := s0.free nfd
        generalize upd H0 fd (.lst []) = H1 at s1 hfd ⊢
        refine r_ix (v := .int gl) (.inl (SqL.of (s1 _ _ hl))) (at_of (j := 0) rfl rfl) ?_
        walk_at "go"
        refine spChoices_i (s1 _ _ hg) h0 (s1 _ _ hz) fun cl H2 ncl h2 hcl => ?_
        have s2 : Same H H2 := s1.trans h2
        have hfd2 := h2 _ _ hfd
        have ncl' : cl ≠ fd := fun e => by rw [e, hfd] at ncl; cases ncl
        walk_at "go"
        refine ⟨_, rfl, ⟨_, SqL.of hcl⟩, fw_list (K := K) (a := cl) (xs := (chs r p x gl).map V.int) (fun j σ H3 => ∃ (v4 v5 v6 : Option V) (ts as : List Addr) (rws : List (Int × List Int)), σ = [some (.ref g), some (.ref z), some (.ref l), some (.ref fd), v4, v5, v6, none, none] ∧
            Same H H3 ∧ H3 cl = some (.lst ((chs r p x gl).map V.int)) ∧ H3 fd = some (.lst (ts.map V.ref)) ∧ NRows H3 ts as rws ∧ Behind r p x gs ((chs r p x gl).take j) rws ∧ (∀ a ∈ as, H a = none ∧ a ≠ fd) ∧ ∀ t ∈ ts, t ≠ fd)
          ⟨_, _, _, [], [], [], rfl, s2, hcl, hfd2, NRows.nil, ⟨rfl, fun j k q h => by simp at h⟩, fun a h => (by simp at h), fun a h => by simp at h⟩ (fun j σ H3 _ h => ?_) ?_ ?_⟩
        · obtain ⟨_, _, _, _, _, _, _, _, e, _⟩ := h
          exact SqL.of e
        · rintro j y σ H3 hj ⟨v4, v5, v6, ts, as, rws, rfl, s3, hcl3, hfd3, hN, hB, hA, hT⟩
          obtain ⟨kk, hkk, rfl⟩ := map_at hj
          have hjl : j < (chs r p x gl).length := (List.getElem?_eq_some_iff.mp hkk).1
          have hc2 : (chs r p x gl).length ≤ 2 := chs_le r p x gl
          walk_at "go"
          refine spBehind_i (s3 _ _ hg) (s3 _ _ hz) fun bz H4 nbz h4 hbz => ?_
          walk_at "go"
          have s4 : Same H H4 := s3.trans h4
          refine r_slL (SqL.of (s4 _ _ hl)) fun c nc => ?_
          rw [cut_drop V.int (gl :: gs) (by decide)]
          walk_at "go"
          refine spBest_i (gs := gs) (at_new nc (s4 _ _ hg)) h0 (at_new nc hbz) upd_same hn' (by omega) fun t5 a5 q5 H5 nt5 na5 h5 ht5 ha5 hq5 bst => ?_
          have h45 : Same H4 H5 := (same_new nc).trans h5
          walk_at "go"
          have h35 : Same H3 H5 := h4.trans h45
          refine ⟨r_tyL (h35 _ _ hfd3), ?_⟩
          walk_at "go"
          intro d6 nd6
          walk_at "go"
          refine r_addL upd_same (at_new nd6 ha5) (by rw [List.length_map]; show 1 + _ ≤ sizeLine; exact Nat.le_of_lt (small1000 (by omega))) fun c7 nc7 => ?_
          walk_at "go"
          intro t8 nt8
          walk_at "go"
          have h38 : Same H3 (upd (upd (upd H5 d6 (.lst [.int kk])) c7 (.lst ([.int kk] ++ q5.2.map V.int))) t8 (.tup [.int (kk.natAbs + q5.1), .ref c7])) := h35.trans ((same_new nd6).trans ((same_new nc7).trans (same_new nt8)))
          have ht8 : upd (upd (upd H5 d6 (.lst [.int kk])) c7 (.lst ([.int kk] ++ q5.2.map V.int))) t8 (.tup [.int (kk.natAbs + q5.1), .ref c7]) t8 = some (.tup [.int (kk.natAbs + q5.1), .ref c7]) := upd_same
          have hc7 : upd (upd (upd H5 d6 (.lst [.int kk])) c7 (.lst ([.int kk] ++ q5.2.map V.int))) t8 (.tup [.int (kk.natAbs + q5.1), .ref c7]) c7 = some (.lst ((kk :: q5.2).map V.int)) := at_new nt8 upd_same
          have c7H : H c7 = none := (s3.trans (h35.trans (same_new nd6))).free nc7
          have c7fd : c7 ≠ fd := (ne_of_none (at_new (u := .lst [.int kk]) nd6 (h35 _ _ hfd3)) nc7).symm
          have t8fd : t8 ≠ fd := (ne_of_none (at_new (u := .lst ([.int kk] ++ q5.2.map V.int)) nc7 (at_new (u := .lst [.int kk]) nd6 (h35 _ _ hfd3))) nt8).symm
          generalize upd (upd (upd H5 d6 (.lst [.int kk])) c7 (.lst ([.int kk] ++ q5.2.map V.int))) t8 (.tup [.int (kk.natAbs + q5.1), .ref c7]) = H8 at h38 ht8 hc7 ⊢
          have hts : ts.length ≤ 2 := by
            have := hN.1
            have := hB.1
            rw [List.length_take] at this
            omega
          refine r_appA (h38 _ _ hfd3) (by rw [List.length_map]; exact small1000 (by omega)) fun H9 e9 w9 => ?_
          walk_at "go"
          refine ⟨_, _, _, ts ++ [t8], as ++ [c7], rws ++ [((kk.natAbs : Int) + q5.1, kk :: q5.2)], rfl, fun b o e => w9 _ _ (ne_of_none e nfH) (h38 _ _ (s3 _ _ e)), w9 _ _ ncl' (h38 _ _ hcl3), by rw [e9]; simp, ?_, ?_, fun a ha => ?_, fun t ht => ?_⟩
          · refine NRows.snoc ((hN.mono fun b o e _ => h38 _ _ e).mono fun b o e ⟨i, hi⟩ => w9 _ _ ?_ e) (w9 _ _ t8fd ht8) (w9 _ _ c7fd hc7)
            rcases hi with hi | hi
            · exact hT b (List.mem_of_getElem? hi)
            · exact (hA b (List.mem_of_getElem? hi)).2
          · rw [take_snoc hkk]
            exact hB.snoc bst
          · rcases List.mem_append.mp ha with ha | ha
            · exact hA a ha
            · rw [List.mem_singleton.mp ha]
              exact ⟨c7H, c7fd⟩
          · rcases List.mem_append.mp ht with ht | ht
            · exact hT t ht
            · rw [List.mem_singleton.mp ht]
              exact t8fd
        · rintro σ H3 ⟨v4, v5, v6, ts, as, rws, rfl, s3, hcl3, hfd3, hN, hB, hA, hT⟩
          rw [List.length_map, List.take_length] at hB
          have hrl : rws.length = (chs r p x gl).length := hB.1
          have hr0 : 0 < rws.length := by rw [hrl]; exact chs_pos _ _ _ _
          have hr2 : rws.length ≤ 2 := by rw [hrl]; exact chs_le _ _ _ _
          obtain ⟨lt1, lt2, hNat⟩ := id hN
          walk_at "go"
          refine ⟨_, rfl, ⟨_, SqL.of hfd3⟩, fun D nD => lcw_list (K := K) (a := fd) (xs := ts.map V.ref) (σw := [some (.ref g), some (.ref z), some (.ref l), some (.ref fd), v4, none, v6, none, none])
            (fun i H8 => Same H3 H8 ∧ H8 D = some (.lst (((rws.take i).map Prod.fst).map V.int))) rfl ⟨same_new nD, upd_same⟩ (fun i H8 _ h => SqL.of (h.1 _ _ hfd3)) (fun i y H8 hi h => ?_) fun H8 h => ?_⟩
          · obtain ⟨h8, hD⟩ := h
            obtain ⟨t, ht, rfl⟩ := map_at hi
            have hil : i < rws.length := by rw [← lt1]; exact (List.getElem?_eq_some_iff.mp ht).1
            obtain ⟨a, ha⟩ : ∃ a, as[i]? = some a := ⟨_, List.getElem?_eq_getElem (by omega)⟩
            obtain ⟨row, hrow⟩ : ∃ row, rws[i]? = some row := ⟨_, List.getElem?_eq_getElem hil⟩
            have htt := h8 _ _ (hNat i t a row ht ha hrow).1
            walk_at "go"
            refine ⟨rfl, ?_⟩
            walk_at "go"
            refine iteT ?_
            walk_at "go"
            refine ⟨_, hD, by rw [List.length_map, List.length_map, List.length_take]; exact small1000 (by omega), fun b o e => at_wr (ne_of_none e nD) (h8 _ _ e), ?_⟩
            rw [upd_same, take_snoc hrow]
            simp
          obtain ⟨h8, hD⟩ := h
          rw [List.length_map, lt1, List.take_length] at hD
          have hfd8 := h8 _ _ hfd3
          walk_at "go"
          refine r_minL (SqL.of hD) (by rw [List.length_map]; exact hr0) fun least lm ll => ?_
          walk_at "go"
          refine ⟨_, rfl, ⟨_, SqL.of hfd8⟩, fun D2 nD2 => lcw_list (K := K) (a := fd) (xs := ts.map V.ref) (σw := [some (.ref g), some (.ref z), some (.ref l), some (.ref fd), v4, none, v6, some (.int least), none])
            (fun i H9 => Same H8 H9 ∧ ∃ (fs : List Addr) (frs : List (List Int)), H9 D2 = some (.lst (fs.map V.ref)) ∧ fs.length ≤ i ∧ Rows H9 fs frs ∧ (∀ a ∈ fs, H a = none ∧ a ≠ D2) ∧ ∀ q, q ∈ frs ↔ ∃ j, j < i ∧ rws[j]? = some (least, q)) rfl
            ⟨same_new nD2, [], [], upd_same, Nat.le_refl _, ⟨rfl, fun i a row h => by simp at h⟩, fun a h => by simp at h, fun q => ⟨fun h => (by simp at h), fun ⟨j, hj, _⟩ => by omega⟩⟩ (fun i H9 _ h => SqL.of (h.1 _ _ hfd8)) (fun i y H9 hi h => ?_) fun H9 h => ?_⟩
          · obtain ⟨h9, fs, frs, hD2, hle, hR, hF, hiff⟩ := h
            obtain ⟨t, ht, rfl⟩ := map_at hi
            have hil : i < rws.length := by rw [← lt1]; exact (List.getElem?_eq_some_iff.mp ht).1
            obtain ⟨a, ha⟩ : ∃ a, as[i]? = some a := ⟨_, List.getElem?_eq_getElem (by omega)⟩
            obtain ⟨row, hrow⟩ : ∃ row, rws[i]? = some row := ⟨_, List.getElem?_eq_getElem hil⟩
            have htt := h9 _ _ (h8 _ _ (hNat i t a row ht ha hrow).1)
            have haa8 := h8 _ _ (hNat i t a row ht ha hrow).2
            have haa := h9 _ _ haa8
            have aD2 : a ≠ D2 := ne_of_none haa8 nD2
            walk_at "go"
            refine ⟨rfl, ?_⟩
            walk_at "go"
            refine iteD (fun c => ?_) (fun c => ?_)
            · walk_at "go"
              refine ⟨_, hD2, by rw [List.length_map]; exact small1000 (by omega), fun b o e => at_wr (ne_of_none e nD2) (h9 _ _ e), fs ++ [a], frs ++ [row.2], by rw [upd_same]; simp, by rw [List.length_append, List.length_singleton]; omega, ?_, fun b hb => ?_, fun q => ?_⟩
              · refine ⟨by simp [hR.1], fun i' a' row' e1 e2 => ?_⟩
                rcases at_snoc e1 with ⟨f1, g1⟩ | ⟨f1, rfl⟩
                · rcases at_snoc e2 with ⟨f2, g2⟩ | ⟨f2, rfl⟩
                  · exact at_wr (hF a' (List.mem_of_getElem? f1)).2 (hR.2 i' a' row' f1 f2)
                  · have := hR.1
                    omega
                · rcases at_snoc e2 with ⟨f2, g2⟩ | ⟨f2, rfl⟩
                  · have := hR.1
                    omega
                  · exact at_wr aD2 haa
              · rcases List.mem_append.mp hb with hb | hb
                · exact hF b hb
                · rw [List.mem_singleton.mp hb]
                  exact ⟨(hA a (List.mem_of_getElem? ha)).1, aD2⟩
              · rw [List.mem_append, hiff, List.mem_singleton]
                constructor
                · rintro (⟨j, hj, e⟩ | rfl)
                  · exact ⟨j, by omega, e⟩
                  · exact ⟨i, by omega, by rw [hrow, ← c]⟩
                · rintro ⟨j, hj, e⟩
                  by_cases z : j = i
                  · subst z
                    rw [hrow] at e
                    exact .inr (congrArg Prod.snd (Option.some.inj e)).symm
                  · exact .inl ⟨j, by omega, e⟩
            · refine ⟨h9, fs, frs, hD2, by omega, hR, hF, fun q => ?_⟩
              rw [hiff]
              constructor
              · rintro ⟨j, hj, e⟩
                exact ⟨j, by omega, e⟩
              · rintro ⟨j, hj, e⟩
                by_cases z : j = i
                · subst z
                  rw [hrow] at e
                  exact absurd (congrArg Prod.fst (Option.some.inj e)) c
                · exact ⟨j, by omega, e⟩
          · obtain ⟨h9, fs, frs, hD2, hle, hR, hF, hiff⟩ := h
            rw [List.length_map, lt1] at hiff
            walk_at "go"
            have hp : 0 < frs.length := by
              obtain ⟨z, hz, e⟩ := List.mem_map.mp lm
              obtain ⟨j, hj⟩ := List.mem_iff_getElem?.mp hz
              have : z.2 ∈ frs := (hiff z.2).mpr ⟨j, (List.getElem?_eq_some_iff.mp hj).1, by rw [hj, ← e]⟩
              exact List.length_pos_of_mem this
            refine ⟨D2, fs, frs, rfl, SqL.of hD2, hR, hp, fun i a row ha hrow best => ?_⟩
            walk_at "go"
            intro t nt
            walk_at "go"
            have hs : Same H H9 := s3.trans (h8.trans h9)
            obtain ⟨j, hj, hrj⟩ := (hiff row).mp (List.mem_of_getElem? hrow)
            have bb : BestR rws (least, row) := ⟨List.mem_of_getElem? hrj, fun z hz => ⟨ll _ (List.mem_map.mpr ⟨z, hz, rfl⟩), fun e => by
              obtain ⟨j', hj'⟩ := List.mem_iff_getElem?.mp hz
              exact best z.2 ((hiff z.2).mpr ⟨j', (List.getElem?_eq_some_iff.mp hj').1, by rw [hj']; exact congrArg some (Prod.ext e rfl)⟩)⟩⟩
            have bo := best_of hB bb
            have hlen := rows_len bo.1
            exact k t a (least, row) _ (hs.free nt) (hF a (List.mem_of_getElem? ha)).1 (hs.trans (same_new nt)) upd_same (at_new nt (hR.2 i a row ha hrow)) (by rw [hlen]; omega) bo
def spPath (K : PySem.W.Frag) : Sp := fun vs H Q _ => ∃ (g : Addr) (r p : Int) (z : Addr) (x : Int × Int) (l : Addr) (gs : List Int), vs = [.ref g, .ref z, .ref l] ∧ GearAt H g r p ∧ H z = some (.tup [.int x.1, .int x.2]) ∧ Stg p x ∧ SqL K H l (gs.map V.int) ∧ gs.length ≤ 8 ∧ (∀ y ∈ gs, 0 ≤ y ∧ y < r) ∧
  ∀ (a : Addr) (q : Int × List Int) (H' : Hp), H a = none → Same H H' → H' a = some (.lst (q.2.map V.int)) → q.2.length ≤ 100 → BestR (rowsOf r p x gs) q → Q (.ref a) H'
theorem spPath_i {g z l : Addr} {r p : Int} {x : Int × Int} {gs : List Int} {H : Hp} {Q : VK} {E : XK} (G : GearAt H g r p) (hz : H z = some (.tup [.int x.1, .int x.2])) (hs : Stg p x) (hl : SqL K H l (gs.map V.int)) (hn : gs.length ≤ 8) (hg : ∀ y ∈ gs, 0 ≤ y ∧ y < r)
    (k : ∀ (a : Addr) (q : Int × List Int) (H' : Hp), H a = none → Same H H' → H' a = some (.lst (q.2.map V.int)) → q.2.length ≤ 100 → BestR (rowsOf r p x gs) q → Q (.ref a) H') : spPath K [.ref g, .ref z, .ref l] H Q E := ⟨g, r, p, z, x, l, gs, rfl, G, hz, hs, hl, hn, hg, k⟩
theorem ok_path (B : Bl mg) (F : FunAt K mg "path" s_path) (M_MOST_GOALS : Cn mg "MOST_GOALS" 8) (H_need_goals : Has P w K mg base CX0 3 "need_goals" (spGoals K)) (H_best_path : Has P w K mg base CX0 10 "best_path" (spBest K 9)) : Has P w K mg base CX0 11 "path" (spPath K) := by
  refine F.ok sc_path bo_path (fun vs H Q E h => ?_) (fun f cdv A outer s H vs Q E hr h => ?_)
  · obtain ⟨g, r, p, z, x, l, gs, rfl, _⟩ := h
    rfl
  · obtain ⟨g, r, p, z, x, l, gs, rfl, G, hz, hs, hl, hn, hg, k⟩ := h
    refine ⟨_, (pss_cons (ps_expr (pe_has H_need_goals hr (by omega) rfl pass0 (pa_cons (pv 0) (pa_cons (pv 1) (pa_cons (pv 2) (pa_cons (pe_cn M_MOST_GOALS rfl) pa_nil))))))
 (pss_one (ps_ret (pe_ix (kix (K := K) rfl) (pe_has H_best_path hr (by omega) rfl pass0 (pa_cons (pv 0) (pa_cons (pv 1) (pa_cons (pe_callTy (kc_list (K := K) rfl) rfl B.list (by decide +kernel) (pa_cons (pv 2) pa_nil)) pa_nil)))) pe_int (fun _ _ => rfl))))), ?_⟩
    refine r_start (σ' := [some (.ref g), some (.ref z), some (.ref l)]) rfl ?_
    walk_at "go"
    refine spGoals_i G hz hs hl (by omega) (by omega) hg fun H2 h2 => ?_
    walk_at "go"
    refine r_listOf (.inl (h2.seq hl)) fun c nc => ?_
    walk_at "go"
    have h3 : Same H (upd H2 c (.lst (gs.map V.int))) := h2.trans (same_new nc)
    refine spBest_i (h3 _ _ G.at_) (by have := G.r2; omega) (h3 _ _ hz) upd_same hn (by decide) fun t a q H4 nt na h4 ht ha hq bst => ?_
    walk_at "go"
    exact k a q H4 (h3.free na) (h3.trans h4) ha hq bst
/-- all orders of some places; n: at least their number -/
def perms : Nat → List Int → List (List Int)
  | 0, _ => [[]]
  | n + 1, ps => if ps = [] then [[]] else (List.range ps.length).flatMap fun k => (perms n (ps.take k ++ ps.drop (k + 1))).map (ps.getD k 0 :: ·)
def fac : Nat → Nat
  | 0 => 1
  | n + 1 => (n + 1) * fac n
theorem fac_pos : ∀ n, 0 < fac n
  | 0 => Nat.zero_lt_one
  | n + 1 => Nat.mul_pos (Nat.succ_pos n) (fac_pos n)
theorem perms_len : ∀ (n : Nat) (ps : List Int), ps.length ≤ n → (perms n ps).length ≤ fac n
  | 0, _, _ => Nat.le_refl 1
  | n + 1, ps, h => by
    rw [perms]
    split
    · exact fac_pos (n + 1)
    · have part : ∀ m, m ≤ ps.length → ((List.range m).flatMap fun k => (perms n (ps.take k ++ ps.drop (k + 1))).map (ps.getD k 0 :: ·)).length ≤ m * fac n := by
        intro m
        induction m with
        | zero => intro _; exact Nat.zero_le _
        | succ m ih =>
          intro hm
          rw [List.range_succ, List.flatMap_append, List.length_append]
          have a := ih (by omega)
          have b : ((List.flatMap (fun k => (perms n (ps.take k ++ ps.drop (k + 1))).map (ps.getD k 0 :: ·)) [m])).length ≤ fac n := by
            rw [List.flatMap_cons, List.flatMap_nil, List.append_nil, List.length_map]
            exact perms_len n _ (by rw [List.length_append, List.length_take, List.length_drop]; omega)
          rw [Nat.succ_mul]
          omega
      exact Nat.le_trans (part _ (Nat.le_refl _)) (Nat.mul_le_mul_right _ h)
theorem perms_row : ∀ (n : Nat) (ps row : List Int), row ∈ perms n ps → row.length ≤ n
  | 0, _, row, h => by
    rw [List.mem_singleton.mp h]
    exact Nat.le_refl 0
  | n + 1, ps, row, h => by
    rw [perms] at h
    split at h
    · rw [List.mem_singleton.mp h]
      exact Nat.zero_le _
    · obtain ⟨k, _, h⟩ := List.mem_flatMap.mp h
      obtain ⟨z, hz, e⟩ := List.mem_map.mp h
      rw [← e]
      exact Nat.succ_le_succ (perms_row n _ z hz)
theorem Rows.mono {H H' : Hp} {as : List Addr} {rows : List (List Int)} (h : Rows H as rows) (R : ∀ b o, H b = some o → b ∈ as → H' b = some o) : Rows H' as rows :=
  ⟨h.1, fun i a row h1 h2 => R _ _ (h.2 i a row h1 h2) (List.mem_of_getElem? h1)⟩
theorem Rows.nil {H : Hp} : Rows H [] [] := ⟨rfl, fun i a row h => by simp at h⟩
theorem Rows.snoc {H : Hp} {as : List Addr} {rows : List (List Int)} {a : Addr} {row : List Int} (h : Rows H as rows) (h2 : H a = some (.lst (row.map V.int))) : Rows H (as ++ [a]) (rows ++ [row]) := by
  refine ⟨by simp [h.1], fun i a' row' e1 e2 => ?_⟩
  rcases at_snoc e1 with ⟨f1, g1⟩ | ⟨f1, rfl⟩
  · rcases at_snoc e2 with ⟨f2, g2⟩ | ⟨f2, rfl⟩
    · exact h.2 i a' row' f1 f2
    · have := h.1
      omega
  · rcases at_snoc e2 with ⟨f2, g2⟩ | ⟨f2, rfl⟩
    · have := h.1
      omega
    · exact h2
theorem Rows.app {H : Hp} {as : List Addr} {rows : List (List Int)} (h : Rows H as rows) : ∀ {bs : List Addr} {rows2 : List (List Int)}, Rows H bs rows2 → Rows H (as ++ bs) (rows ++ rows2) := fun {bs rows2} h2 => by
  refine ⟨by rw [List.length_append, List.length_append, h.1, h2.1], fun i a row e1 e2 => ?_⟩
  rw [List.getElem?_append] at e1 e2
  rw [h.1] at e1
  by_cases c : i < rows.length
  · rw [if_pos c] at e1 e2
    exact h.2 i a row e1 e2
  · rw [if_neg c] at e1 e2
    exact h2.2 _ a row e1 e2
/-- lists at addresses that weren't there -/
def spAO (K : PySem.W.Frag) : Nat → Sp
  | 0 => fun _ _ _ _ => False
  | n + 1 => fun vs H Q _ => ∃ (l : Addr) (ps : List Int), vs = [.ref l] ∧ H l = some (.lst (ps.map V.int)) ∧ ps.length ≤ n ∧ n ≤ 5 ∧
    ∀ (q : Addr) (as : List Addr) (H' : Hp), H q = none → Same H H' → H' q = some (.lst (as.map V.ref)) → Rows H' as (perms n ps) → (∀ a ∈ as, H a = none ∧ a ≠ q) → Q (.ref q) H'
theorem spAO_i {n : Nat} {l : Addr} {ps : List Int} {H : Hp} {Q : VK} {E : XK} (hl : H l = some (.lst (ps.map V.int))) (hn : ps.length ≤ n) (h5 : n ≤ 5)
    (k : ∀ (q : Addr) (as : List Addr) (H' : Hp), H q = none → Same H H' → H' q = some (.lst (as.map V.ref)) → Rows H' as (perms n ps) → (∀ a ∈ as, H a = none ∧ a ≠ q) → Q (.ref q) H') : spAO K (n + 1) [.ref l] H Q E := ⟨l, ps, rfl, hl, hn, h5, k⟩
theorem fac_5 {n : Nat} (h : n ≤ 5) : fac n ≤ 120 := by
  match n, h with
  | 0, _ => decide
  | 1, _ => decide
  | 2, _ => decide
  | 3, _ => decide
  | 4, _ => decide
  | 5, _ => decide
theorem ok_all_orders (B : Bl mg) (F : FunAt K mg "all_orders" s_all_orders) : ∀ n, Has P w K mg base CX0 n "all_orders" (spAO K n)
  | 0 => void_at F bo_all_orders
  | n + 1 => by
    have H_all_orders : Has P w K mg base CX0 n "all_orders" (spAO K n) := ok_all_orders B F n
    refine F.ok sc_all_orders bo_all_orders (fun vs H Q E h => ?_) (fun f cdv A outer s H vs Q E hr h => ?_)
    · obtain ⟨l, ps, rfl, _⟩ := h
      rfl
    · obtain ⟨l, ps, rfl, hl, hn, h5, k⟩ := h
      refine ⟨_, (pss_cons (ps_if (pt_cmpR (kop_eq (K := K) rfl hr.units) (pv 0) (pe_lst pa_nil) (nomark _)) (pss_one (ps_ret (pe_lst (pa_cons (pe_lst pa_nil) pa_nil)))) pss_nil)
 (pss_cons (ps_set (i := 1) sc_all_orders.nd rfl (by first | exact Or.inl rfl | exact Or.inr rfl) (pe_lst pa_nil))
 (pss_cons (ps_for PassesOwn.never rfl (pi_range1 rfl B.range (pa_cons (pe_callB (kc_len (K := K) rfl) rfl B.len (by decide +kernel) (pa_cons (pv 0) pa_nil)) pa_nil)) (pg_name (i := 2) sc_all_orders.nd rfl (by first | exact Or.inl rfl | exact Or.inr rfl)) (pss_one (ps_expr (kpe_bm (K := K) rfl PySem.F.plainAttrs_list PySem.F.slot_list_extend PySem.F.type_list_extend mt_extend (pv 1) (pa_cons (pe_lc (own := [("rest", 3)]) (g := (gName 3)) rfl sc_all_orders.nd (kpi_list (K := K) rfl (pe_has H_all_orders hr (by omega) rfl pass0 (pa_cons (pe_op (kop_add (K := K) rfl) (pe_slice (ksl (K := K) rfl) (pv 0) po_none (po_some (pv 2))) (pe_slice (ksl (K := K) rfl) (pv 0) (po_some (pe_op (kop_add (K := K) rfl) (pv 2) pe_int)) po_none)) pa_nil))) (blkOk_by (N := ["places", "found", "k", "rest"]) (sc := defScope s_all_orders) (own := [("rest", 3)]) (by decide +kernel)) (fun _ _ _ _ _ => (pg_name (i := 3) sc_all_orders.nd rfl (by first | exact Or.inl rfl | exact Or.inr rfl))) (fun _ _ _ _ _ => pts_nil) (fun _ _ _ _ _ => (pe_op (kop_add (K := K) rfl) (pe_lst (pa_cons (pe_ix (kix (K := K) rfl) (pv 0) (pv 2) (fun _ _ => rfl)) pa_nil)) (pv 3)))) pa_nil)))))
 (pss_one (ps_ret (pv 1)))))), ?_⟩
      refine r_start (σ' := [some (.ref l), none, none, none]) rfl ?_
      walk_at "go"
      intro t0 n0
      walk_at "go"
      refine r_eqNil (at_new n0 hl) upd_same ?_
      walk_at "go"
      have s0 : Same H (upd H t0 (.lst [])) := same_new n0
      generalize upd H t0 (.lst []) = H0 at s0
      refine iteD (fun c => ?_) (fun c => ?_)
      · walk_at "go"
        intro a na
        walk_at "go"
        intro q nq
        refine k q [a] _ ((s0.trans (same_new na)).free nq) ((s0.trans (same_new na)).trans (same_new nq)) upd_same ?_ fun b hb => ?_
        · have e : perms n ps = [[]] := by
            rw [c]
            cases n with
            | zero => rfl
            | succ n => rw [perms, if_pos rfl]
          rw [e]
          exact Rows.snoc Rows.nil (at_new nq upd_same)
        · rw [List.mem_singleton.mp hb]
          exact ⟨s0.free na, ne_of_none upd_same nq⟩
      · walk_at "go"
        intro fd nfd
        walk_at "go"
        have hps : 0 < ps.length := List.length_pos_iff.mpr c
        obtain ⟨m, rfl⟩ : ∃ m, n = m + 1 := ⟨n - 1, by omega⟩
        have nfH : H fd = none := s0.free nfd
        rw [List.length_map]
        refine ⟨_, rfl, by omega, by omega, fw_range (fun j σ H3 => ∃ (v2 v3 : Option V) (as : List Addr), σ = [some (.ref l), some (.ref fd), v2, v3] ∧ Same H H3 ∧ H3 fd = some (.lst (as.map V.ref)) ∧
            Rows H3 as ((List.range j).flatMap fun k => (perms m (ps.take k ++ ps.drop (k + 1))).map (ps.getD k 0 :: ·)) ∧ ∀ a ∈ as, H a = none ∧ a ≠ fd)
          ⟨_, _, [], rfl, s0.trans (same_new nfd), upd_same, Rows.nil, fun a h => by simp at h⟩ ?_ ?_⟩
        · rintro j σ H3 hj ⟨v2, v3, as, rfl, s3, hfd3, hR, hA⟩
          have hjl : j < ps.length := hj
          have ej : (0 + (j : Int)).toNat = j := by omega
          have ej1 : (0 + (j : Int) + 1).toNat = j + 1 := by omega
          walk_at "go"
          refine ⟨r_tyL hfd3, ?_⟩
          walk_at "go"
          refine r_slL (SqL.of (s3 _ _ hl)) fun c1 nc1 => ?_
          rw [cut_take V.int ps (by omega), ej]
          walk_at "go"
          refine r_slL (SqL.of (at_new nc1 (s3 _ _ hl))) fun c2 nc2 => ?_
          rw [cut_drop V.int ps (by omega), ej1]
          walk_at "go"
          refine r_addL (at_new nc2 upd_same) upd_same (by rw [List.length_map, List.length_map, List.length_take, List.length_drop]; exact Nat.le_of_lt (small1000 (by omega))) fun c3 nc3 => ?_
          walk_at "go"
          have hc3 : upd (upd (upd H3 c1 (.lst ((ps.take j).map V.int))) c2 (.lst ((ps.drop (j + 1)).map V.int))) c3 (.lst ((ps.take j).map V.int ++ (ps.drop (j + 1)).map V.int)) c3 = some (.lst ((ps.take j ++ ps.drop (j + 1)).map V.int)) := by rw [upd_same, List.map_append]
          have s34 : Same H3 (upd (upd (upd H3 c1 (.lst ((ps.take j).map V.int))) c2 (.lst ((ps.drop (j + 1)).map V.int))) c3 (.lst ((ps.take j).map V.int ++ (ps.drop (j + 1)).map V.int))) := (same_new nc1).trans ((same_new nc2).trans (same_new nc3))
          generalize upd (upd (upd H3 c1 (.lst ((ps.take j).map V.int))) c2 (.lst ((ps.drop (j + 1)).map V.int))) c3 (.lst ((ps.take j).map V.int ++ (ps.drop (j + 1)).map V.int)) = H4 at hc3 s34
          refine spAO_i hc3 (by rw [List.length_append, List.length_take, List.length_drop]; omega) (by omega) fun q5 bs H5 nq5 h45 hq5 hR5 hF5 => ?_
          have s35 : Same H3 H5 := s34.trans h45
          walk_at "go"
          have hrl : bs.length = (perms m (ps.take j ++ ps.drop (j + 1))).length := hR5.1
          have hpl : (perms m (ps.take j ++ ps.drop (j + 1))).length ≤ 120 := Nat.le_trans (perms_len m _ (by rw [List.length_append, List.length_take, List.length_drop]; omega)) (fac_5 (by omega))
          generalize hX : perms m (ps.take j ++ ps.drop (j + 1)) = rws at hR5 hrl hpl
          have hrw : ∀ row ∈ rws, row.length ≤ m := fun row h => perms_row m _ row (by rw [hX]; exact h)
          refine ⟨q5, rfl, ⟨_, SqL.of hq5⟩, fun D nD => lcw_list (K := K) (a := q5) (xs := bs.map V.ref) (σw := [some (.ref l), some (.ref fd), some (.int (0 + j)), none])
            (fun i H8 => Same H5 H8 ∧ ∃ ds : List Addr, H8 D = some (.lst (ds.map V.ref)) ∧ Rows H8 ds ((rws.take i).map (ps.getD j 0 :: ·)) ∧ ∀ a ∈ ds, H5 a = none ∧ a ≠ D) rfl
            ⟨same_new nD, [], upd_same, Rows.nil, fun a h => by simp at h⟩ (fun i H8 _ h => SqL.of (h.1 _ _ hq5)) (fun i y H8 hi h => ?_) fun H8 h => ?_⟩
          · obtain ⟨h8, ds, hD, hR8, hF8⟩ := h
            obtain ⟨b, hb, rfl⟩ := map_at hi
            have hil : i < rws.length := by rw [← hrl]; exact (List.getElem?_eq_some_iff.mp hb).1
            obtain ⟨row, hrow⟩ : ∃ row, rws[i]? = some row := ⟨_, List.getElem?_eq_getElem hil⟩
            have hbb := h8 _ _ (hR5.2 i b row hb hrow)
            have hll := h8 _ _ (s35 _ _ (s3 _ _ hl))
            have hrlen := hrw row (List.mem_of_getElem? hrow)
            walk_at "go"
            refine ⟨rfl, ?_⟩
            walk_at "go"
            refine iteT ?_
            walk_at "go"
            refine r_ix (v := .int (ps.getD j 0)) (.inl (SqL.of hll)) (at_of (j := j) (by omega) (by rw [List.getElem?_map, List.getElem?_eq_getElem hjl, List.getD_eq_getElem?_getD, List.getElem?_eq_getElem hjl] <;> rfl)) ?_
            walk_at "go"
            intro d nd
            walk_at "go"
            refine r_addL upd_same (at_new nd hbb) (by rw [List.length_map]; show 1 + _ ≤ sizeLine; exact Nat.le_of_lt (small1000 (by omega))) fun c7 nc7 => ?_
            walk_at "go"
            have hds : ds.length ≤ 120 := by
              have := hR8.1
              rw [List.length_map, List.length_take] at this
              omega
            have h8c : Same H8 (upd (upd H8 d (.lst [.int (ps.getD j 0)])) c7 (.lst ([.int (ps.getD j 0)] ++ row.map V.int))) := (same_new nd).trans (same_new nc7)
            have hc7 : upd (upd H8 d (.lst [.int (ps.getD j 0)])) c7 (.lst ([.int (ps.getD j 0)] ++ row.map V.int)) c7 = some (.lst ((ps.getD j 0 :: row).map V.int)) := upd_same
            have c7D : c7 ≠ D := (ne_of_none (at_new (u := .lst [.int (ps.getD j 0)]) nd hD) nc7).symm
            refine ⟨_, h8c _ _ hD, by rw [List.length_map]; exact small1000 (by omega), fun b' o e => at_wr (ne_of_none e nD) (h8c _ _ (h8 _ _ e)), ds ++ [c7], by rw [upd_same]; simp, ?_, fun a ha => ?_⟩
            · rw [take_snoc hrow, List.map_append]
              exact Rows.snoc ((hR8.mono fun b' o e _ => h8c _ _ e).mono fun b' o e hb' => at_wr (hF8 b' hb').2 e) (at_wr c7D hc7)
            · rcases List.mem_append.mp ha with ha | ha
              · exact hF8 a ha
              · rw [List.mem_singleton.mp ha]
                exact ⟨(h8.trans (same_new nd)).free nc7, c7D⟩
          · obtain ⟨h8, ds, hD, hR8, hF8⟩ := h
            rw [List.length_map, hrl, List.take_length] at hR8
            walk_at "go"
            have hfd8 := h8 _ _ (s35 _ _ hfd3)
            have hds : ds.length ≤ 120 := by
              have := hR8.1
              rw [List.length_map] at this
              omega
            have has : as.length ≤ 600 := by
              have e := hR.1
              have part : ∀ q, q ≤ j → ((List.range q).flatMap fun k => (perms m (ps.take k ++ ps.drop (k + 1))).map (ps.getD k 0 :: ·)).length ≤ q * 120 := by
                intro q
                induction q with
                | zero => intro _; exact Nat.zero_le _
                | succ q ih =>
                  intro hq
                  rw [List.range_succ, List.flatMap_append, List.length_append]
                  have a := ih (by omega)
                  have b : ((List.flatMap (fun k => (perms m (ps.take k ++ ps.drop (k + 1))).map (ps.getD k 0 :: ·)) [q])).length ≤ 120 := by
                    rw [List.flatMap_cons, List.flatMap_nil, List.append_nil, List.length_map]
                    exact Nat.le_trans (perms_len m _ (by rw [List.length_append, List.length_take, List.length_drop]; omega)) (fac_5 (by omega))
                  rw [Nat.succ_mul]
                  omega
              have := part j (Nat.le_refl _)
              omega
            have Dfd : D ≠ fd := fun e => by
              rw [e] at nD
              rw [s35 _ _ hfd3] at nD
              cases nD
            refine r_extend hfd8 hD (by rw [List.length_map, List.length_map]; exact Nat.le_of_lt (small1000 (by omega))) fun H9 e9 w9 => ?_
            walk_at "go"
            have s38 : Same H3 H8 := s35.trans h8
            refine ⟨_, _, as ++ ds, rfl, fun b o e => w9 _ _ (ne_of_none e nfH) (s38 _ _ (s3 _ _ e)), by rw [e9]; simp, ?_, fun a ha => ?_⟩
            · rw [List.range_succ, List.flatMap_append, List.flatMap_cons, List.flatMap_nil, List.append_nil, hX]
              refine Rows.app ((hR.mono fun b o e _ => s38 _ _ e).mono fun b o e hb => w9 _ _ (hA b hb).2 e) (hR8.mono fun b o e hb => w9 _ _ ?_ e)
              exact fun z => by
                have := (hF8 b hb).1
                rw [z, s35 _ _ hfd3] at this
                cases this
            · rcases List.mem_append.mp ha with ha | ha
              · exact hA a ha
              · refine ⟨(s3.trans s35).free (hF8 a ha).1, fun z => ?_⟩
                have := (hF8 a ha).1
                rw [z, s35 _ _ hfd3] at this
                cases this
        · rintro σ H3 ⟨v2, v3, as, rfl, s3, hfd3, hR, hA⟩
          walk_at "go"
          refine k fd as H3 nfH s3 hfd3 ?_ hA
          rw [perms, if_neg c]
          exact hR
theorem perms_mem : ∀ (n : Nat) (ps row : List Int), row ∈ perms n ps → ∀ k ∈ row, k ∈ ps
  | 0, _, row, h, k, hk => by
    rw [List.mem_singleton.mp h] at hk
    cases hk
  | n + 1, ps, row, h, k, hk => by
    rw [perms] at h
    split at h
    · rw [List.mem_singleton.mp h] at hk
      cases hk
    · obtain ⟨i, hi, h⟩ := List.mem_flatMap.mp h
      obtain ⟨z, hz, e⟩ := List.mem_map.mp h
      rw [List.mem_range] at hi
      rw [← e] at hk
      rcases List.mem_cons.mp hk with e | hk
      · rw [e, List.getD_eq_getElem?_getD, List.getElem?_eq_getElem hi]
        exact List.getElem_mem hi
      · rcases List.mem_append.mp (perms_mem n _ z hz k hk) with m | m
        · exact List.mem_of_mem_take m
        · exact List.mem_of_mem_drop m
theorem perms_pos : ∀ (n : Nat) (ps : List Int), ps.length ≤ n → 0 < (perms n ps).length
  | 0, _, _ => Nat.zero_lt_one
  | n + 1, ps, h => by
    rw [perms]
    split
    · exact Nat.zero_lt_one
    · rename_i c
      have hp : 0 < ps.length := List.length_pos_iff.mpr c
      have a := perms_pos n (ps.take 0 ++ ps.drop (0 + 1)) (by rw [List.length_append, List.length_take, List.length_drop]; omega)
      obtain ⟨z, hz⟩ := List.exists_mem_of_length_pos a
      exact List.length_pos_of_mem (List.mem_flatMap.mpr ⟨0, List.mem_range.mpr hp, List.mem_map.mpr ⟨z, hz, rfl⟩⟩)
/-- the places 0, 1, .. -/
def idx (n : Nat) : List Int := (List.range n).map fun i : Nat => (i : Int)
theorem idx_rg (n : Nat) : rgV 0 (n : Int) = (idx n).map V.int := by
  unfold rgV idx
  rw [List.map_map, show ((n : Int) - 0).toNat = n by omega]
  refine List.map_congr_left fun i _ => ?_
  show V.int (0 + (i : Int)) = V.int (i : Int)
  congr 1
  omega
theorem idx_len (n : Nat) : (idx n).length = n := by
  unfold idx
  rw [List.length_map, List.length_range]
def pick (gs o : List Int) : List Int := o.map fun k => gs.getD k.toNat 0
/-- what tour tells: the least sum and the first order that has it -/
def TourR (r p : Int) (x : Int × Int) (gs : List Int) (q : Int × List Int) : Prop := q.2 ∈ perms 5 (idx gs.length) ∧ (∃ row, BestR (rowsOf r p x (pick gs q.2)) (q.1, row)) ∧
  ∀ o ∈ perms 5 (idx gs.length), ∀ (s : Int) (row : List Int), BestR (rowsOf r p x (pick gs o)) (s, row) → ltL (s :: o) (q.1 :: q.2) = false
def spTour (K : PySem.W.Frag) : Sp := fun vs H Q _ => ∃ (g : Addr) (r p : Int) (z : Addr) (x : Int × Int) (l : Addr) (gs : List Int), vs = [.ref g, .ref z, .ref l] ∧ GearAt H g r p ∧ H z = some (.tup [.int x.1, .int x.2]) ∧ Stg p x ∧ SqL K H l (gs.map V.int) ∧ gs.length ≤ 5 ∧ (∀ y ∈ gs, 0 ≤ y ∧ y < r) ∧
  ∀ (t a : Addr) (q : Int × List Int) (H' : Hp), H t = none → H a = none → Same H H' → H' t = some (.tup [.int q.1, .ref a]) → H' a = some (.lst (q.2.map V.int)) → q.2.length ≤ 100 → TourR r p x gs q → Q (.ref t) H'
theorem spTour_i {g z l : Addr} {r p : Int} {x : Int × Int} {gs : List Int} {H : Hp} {Q : VK} {E : XK} (G : GearAt H g r p) (hz : H z = some (.tup [.int x.1, .int x.2])) (hs : Stg p x) (hl : SqL K H l (gs.map V.int)) (hn : gs.length ≤ 5) (hg : ∀ y ∈ gs, 0 ≤ y ∧ y < r)
    (k : ∀ (t a : Addr) (q : Int × List Int) (H' : Hp), H t = none → H a = none → Same H H' → H' t = some (.tup [.int q.1, .ref a]) → H' a = some (.lst (q.2.map V.int)) → q.2.length ≤ 100 → TourR r p x gs q → Q (.ref t) H') : spTour K [.ref g, .ref z, .ref l] H Q E := ⟨g, r, p, z, x, l, gs, rfl, G, hz, hs, hl, hn, hg, k⟩
theorem r_lstRg1 {ta : TE} {σ : L2.St} {H : Hp} {Q : VK} (k : ta σ H fun x H1 => ∃ i, x = .int i ∧ RgOk 0 i ∧ ∀ q, H1 q = none → Q (.ref q) (upd H1 q (.lst (rgV 0 i)))) : tLstRg (tRg1 ta) σ H Q := k
theorem ok_tour (B : Bl mg) (F : FunAt K mg "tour" s_tour) (M_MOST_TOUR : Cn mg "MOST_TOUR" 5) (H_need_goals : Has P w K mg base CX0 3 "need_goals" (spGoals K)) (H_best_path : Has P w K mg base CX0 10 "best_path" (spBest K 9)) (H_all_orders : Has P w K mg base CX0 6 "all_orders" (spAO K 6)) : Has P w K mg base CX0 11 "tour" (spTour K) := by
  refine F.ok sc_tour bo_tour (fun vs H Q E h => ?_) (fun f cdv A outer s H vs Q E hr h => ?_)
  · obtain ⟨g, r, p, z, x, l, gs, rfl, _⟩ := h
    rfl
  · obtain ⟨g, r, p, z, x, l, gs, rfl, G, hz, hs, hl, hn, hg, k⟩ := h
    refine ⟨_, (pss_cons (ps_expr (pe_has H_need_goals hr (by omega) rfl pass0 (pa_cons (pv 0) (pa_cons (pv 1) (pa_cons (pv 2) (pa_cons (pe_cn M_MOST_TOUR rfl) pa_nil))))))
 (pss_cons (ps_set (i := 3) sc_tour.nd rfl (by first | exact Or.inl rfl | exact Or.inr rfl) (pe_lst pa_nil))
 (pss_cons (ps_for PassesOwn.never rfl (kpi_list (K := K) rfl (pe_has H_all_orders hr (by omega) rfl pass0 (pa_cons (pe_listRg rfl rfl B.list (prg_1 rfl B.range (pe_callB (kc_len (K := K) rfl) rfl B.len (by decide +kernel) (pa_cons (pv 2) pa_nil)))) pa_nil))) (pg_name (i := 4) sc_tour.nd rfl (by first | exact Or.inl rfl | exact Or.inr rfl)) (pss_one (ps_expr (kpe_bm (K := K) rfl PySem.F.plainAttrs_list PySem.F.slot_list_append PySem.F.type_list_append mt_append (pv 3) (pa_cons (pe_tup (pa_cons (pe_ix (kix (K := K) rfl) (pe_has H_best_path hr (by omega) rfl pass0 (pa_cons (pv 0) (pa_cons (pv 1) (pa_cons (pe_lc (own := [("k", 5)]) (g := (gName 5)) rfl sc_tour.nd (kpi_list (K := K) rfl (pv 4)) (blkOk_by (N := ["gear", "standing", "goals", "found", "order", "k"]) (sc := defScope s_tour) (own := [("k", 5)]) (by decide +kernel)) (fun _ _ _ _ _ => (pg_name (i := 5) sc_tour.nd rfl (by first | exact Or.inl rfl | exact Or.inr rfl))) (fun _ _ _ _ _ => pts_nil) (fun _ _ _ _ _ => (pe_ix (kix (K := K) rfl) (pv 2) (pv 5) (fun _ _ => rfl)))) pa_nil)))) pe_int (fun _ _ => rfl)) (pa_cons (pv 4) pa_nil))) pa_nil)))))
 (pss_one (ps_ret (pe_callB (kc_minTL (K := K) rfl rfl hr.units) rfl B.min (by decide +kernel) (pa_cons (pv 3) pa_nil))))))), ?_⟩
    refine r_start (σ' := [some (.ref g), some (.ref z), some (.ref l), none, none, none]) rfl ?_
    walk_at "go"
    refine spGoals_i G hz hs hl (by omega) (by omega) hg fun H2 h2 => ?_
    walk_at "go"
    intro fd nfd
    walk_at "go"
    have s3 : Same H (upd H2 fd (.lst [])) := h2.trans (same_new nfd)
    have hfd : upd H2 fd (.lst []) fd = some (.lst []) := upd_same
    have nfH : H fd = none := h2.free nfd
    generalize upd H2 fd (.lst []) = H3 at s3 hfd ⊢
    refine r_lstRg1 ?_
    have hl3 := s3.seq hl
    walk_at "go"
    rw [List.length_map]
    refine ⟨⟨by omega, by omega, by omega, by omega, by omega⟩, fun q4 nq4 => ?_⟩
    rw [idx_rg]
    walk_at "go"
    refine spAO_i upd_same (by rw [idx_len]; exact hn) (by decide) fun q5 as H5 nq5 h5 hq5 hR5 hF5 => ?_
    have h35 : Same H3 H5 := (same_new nq4).trans h5
    have s5 : Same H H5 := s3.trans h35
    have hfd5 := h35 _ _ hfd
    have q5fd : q5 ≠ fd := fun e => by
      rw [e, at_new (u := .lst ((idx gs.length).map V.int)) nq4 hfd] at nq5
      cases nq5
    have hAfd : ∀ a ∈ as, H a = none ∧ a ≠ fd := fun a ha => by
      refine ⟨(s3.trans (same_new nq4)).free (hF5 a ha).1, fun e => ?_⟩
      have := (hF5 a ha).1
      rw [e, at_new (u := .lst ((idx gs.length).map V.int)) nq4 hfd] at this
      cases this
    have hpos := perms_pos 5 (idx gs.length) (by rw [idx_len]; exact hn)
    have hle : (perms 5 (idx gs.length)).length ≤ 120 := perms_len 5 _ (by rw [idx_len]; exact hn)
    have hro : ∀ o ∈ perms 5 (idx gs.length), o.length ≤ 5 ∧ ∀ k ∈ o, ∃ n : Nat, k = n ∧ n < gs.length := fun o ho => ⟨perms_row 5 _ o ho, fun k hk => by
      obtain ⟨n, hn, e⟩ := List.mem_map.mp (perms_mem 5 _ o ho k hk)
      exact ⟨n, e.symm, List.mem_range.mp hn⟩⟩
    have hlen5 : as.length = (perms 5 (idx gs.length)).length := hR5.1
    walk_at "go"
    refine ⟨q5, rfl, ⟨_, SqL.of hq5⟩, fw_list (K := K) (a := q5) (xs := as.map V.ref) (fun j σ H6 => ∃ (v4 v5 : Option V) (ts : List Addr) (rws : List (Int × List Int)), σ = [some (.ref g), some (.ref z), some (.ref l), some (.ref fd), v4, v5] ∧ Same H H6 ∧ H6 q5 = some (.lst (as.map V.ref)) ∧
        H6 fd = some (.lst (ts.map V.ref)) ∧ Rows H6 as (perms 5 (idx gs.length)) ∧ NRows H6 ts (as.take j) rws ∧ (∀ t ∈ ts, H t = none ∧ t ≠ fd) ∧ ∀ (i : Nat) (q : Int × List Int), rws[i]? = some q → (perms 5 (idx gs.length))[i]? = some q.2 ∧ ∃ row, BestR (rowsOf r p x (pick gs q.2)) (q.1, row))
      ⟨_, _, [], [], rfl, s5, hq5, hfd5, hR5, NRows.nil, fun t h => (by simp at h), fun i q h => by simp at h⟩ (fun j σ H6 _ h => ?_) ?_ ?_⟩
    · obtain ⟨_, _, _, _, _, _, e, _⟩ := h
      exact SqL.of e
    · rintro j y σ H6 hj ⟨v4, v5, ts, rws, rfl, s6, hq6, hfd6, hR6, hN, hT, hB⟩
      obtain ⟨a, ha, rfl⟩ := map_at hj
      have hjl : j < as.length := (List.getElem?_eq_some_iff.mp ha).1
      obtain ⟨o, ho⟩ : ∃ o, (perms 5 (idx gs.length))[j]? = some o := ⟨_, List.getElem?_eq_getElem (by omega)⟩
      have hom := List.mem_of_getElem? ho
      obtain ⟨ho5, hok⟩ := hro o hom
      have hao := hR6.2 j a o ha ho
      walk_at "go"
      refine ⟨r_tyL hfd6, ?_⟩
      walk_at "go"
      refine ⟨a, rfl, ⟨_, SqL.of hao⟩, fun D nD => lcw_list (K := K) (a := a) (xs := o.map V.int) (σw := [some (.ref g), some (.ref z), some (.ref l), some (.ref fd), some (.ref a), none])
        (fun i H8 => Same H6 H8 ∧ H8 D = some (.lst (((o.take i).map fun k => gs.getD k.toNat 0).map V.int))) rfl ⟨same_new nD, upd_same⟩ (fun i H8 _ h => SqL.of (h.1 _ _ hao)) (fun i y H8 hi h => ?_) fun H8 h => ?_⟩
      · obtain ⟨h8, hD⟩ := h
        obtain ⟨kk, hk, rfl⟩ := map_at hi
        obtain ⟨n, rfl, hnl⟩ := hok kk (List.mem_of_getElem? hk)
        have hl8 : SqL K H8 l (gs.map V.int) := (s6.trans h8).seq hl
        walk_at "go"
        refine ⟨rfl, ?_⟩
        walk_at "go"
        refine iteT ?_
        walk_at "go"
        refine r_ix (v := .int (gs.getD n 0)) (.inl hl8) (at_of (j := n) rfl (by rw [List.getElem?_map, List.getElem?_eq_getElem hnl, List.getD_eq_getElem?_getD, List.getElem?_eq_getElem hnl] <;> rfl)) ?_
        refine ⟨_, hD, by rw [List.length_map, List.length_map, List.length_take]; exact small1000 (by omega), fun b' o' e => at_wr (ne_of_none e nD) (h8 _ _ e), ?_⟩
        rw [upd_same, take_snoc hk]
        simp
      · obtain ⟨h8, hD⟩ := h
        rw [List.length_map, List.take_length] at hD
        have s8 : Same H H8 := s6.trans h8
        walk_at "go"
        refine spBest_i (gs := pick gs o) (s8 _ _ G.at_) (by have := G.r2; omega) (s8 _ _ hz) hD (by unfold pick; rw [List.length_map]; omega) (by decide) fun t9 a9 q9 H9 nt9 na9 h9 ht9 ha9 hq9 bst => ?_
        walk_at "go"
        have h69 : Same H6 H9 := h8.trans h9
        intro t nt
        walk_at "go"
        have h6t : Same H6 (upd H9 t (.tup [.int q9.1, .ref a])) := h69.trans (same_new nt)
        have ht : upd H9 t (.tup [.int q9.1, .ref a]) t = some (.tup [.int q9.1, .ref a]) := upd_same
        have tfd : t ≠ fd := (ne_of_none (h69 _ _ hfd6) nt).symm
        have tH : H t = none := (s6.trans h69).free nt
        generalize upd H9 t (.tup [.int q9.1, .ref a]) = H10 at h6t ht ⊢
        have hts : ts.length ≤ 120 := by
          have e1 := hN.1
          have e2 := hN.2.1
          rw [List.length_take] at e2
          omega
        refine r_appA (h6t _ _ hfd6) (by rw [List.length_map]; exact small1000 (by omega)) fun H11 e11 w11 => ?_
        walk_at "go"
        have amem := List.mem_of_getElem? ha
        have hrl : rws.length = j := by
          have e2 := hN.2.1
          rw [List.length_take] at e2
          omega
        refine ⟨_, _, ts ++ [t], rws ++ [(q9.1, o)], rfl, fun b o' e => w11 _ _ (ne_of_none e nfH) (h6t _ _ (s6 _ _ e)), w11 _ _ q5fd (h6t _ _ hq6), by rw [e11]; simp, ?_, ?_, fun b hb => ?_, fun i q e => ?_⟩
        · exact (hR6.mono fun b o' e _ => h6t _ _ e).mono fun b o' e hb => w11 _ _ (hAfd b hb).2 e
        · rw [take_snoc ha]
          refine NRows.snoc ((hN.mono fun b o' e _ => h6t _ _ e).mono fun b o' e ⟨i, hi⟩ => w11 _ _ ?_ e) (w11 _ _ tfd ht) (w11 _ _ (hAfd a amem).2 (h6t _ _ hao))
          rcases hi with hi | hi
          · exact (hT b (List.mem_of_getElem? hi)).2
          · exact (hAfd b (List.mem_of_mem_take (List.mem_of_getElem? hi))).2
        · rcases List.mem_append.mp hb with hb | hb
          · exact hT b hb
          · rw [List.mem_singleton.mp hb]
            exact ⟨tH, tfd⟩
        · rcases at_snoc e with ⟨f1, _⟩ | ⟨f1, rfl⟩
          · exact hB i q f1
          · rw [f1, hrl]
            exact ⟨ho, q9.2, bst⟩
    · rintro σ H6 ⟨v4, v5, ts, rws, rfl, s6, hq6, hfd6, hR6, hN, hT, hB⟩
      rw [List.length_map, List.take_length] at hN
      have hrl : rws.length = (perms 5 (idx gs.length)).length := by
        have := hN.2.1
        omega
      walk_at "go"
      refine ⟨fd, ts, as, rws, rfl, SqL.of hfd6, hN, by omega, fun i t row ht hrow best => ?_⟩
      obtain ⟨a, ha⟩ : ∃ a, as[i]? = some a := ⟨_, List.getElem?_eq_getElem (by
        have := (List.getElem?_eq_some_iff.mp hrow).1
        have := hN.2.1
        omega)⟩
      obtain ⟨e1, e2⟩ := hN.2.2 i t a row ht ha hrow
      obtain ⟨b1, b2⟩ := hB i row hrow
      have hm := List.mem_of_getElem? b1
      refine k t a row H6 (hT t (List.mem_of_getElem? ht)).1 (hAfd a (List.mem_of_getElem? ha)).1 s6 e1 e2 (by have := (hro _ hm).1; omega) ⟨hm, b2, fun o' ho' s' row' bb => ?_⟩
      obtain ⟨j, hj⟩ := List.mem_iff_getElem?.mp ho'
      have hjl : j < rws.length := by
        rw [hrl]
        exact (List.getElem?_eq_some_iff.mp hj).1
      obtain ⟨c1, row2, c2⟩ := hB j _ (List.getElem?_eq_getElem hjl)
      rw [hj] at c1
      have e3 := Option.some.inj c1
      rw [← e3] at c2
      have e4 := bb.one c2
      have e5 : s' = (rws[j]'hjl).1 := congrArg Prod.fst e4
      rw [e5, e3]
      exact best _ (List.getElem_mem hjl)
end
end Rd

namespace Rd
open PySem L2 LamX
theorem kn1 : ¬ (("gear" : Str) = "marks") := by decide +kernel
theorem kn2 : ¬ (("gear" : Str) = "standing") := by decide +kernel
theorem kn3 : ¬ (("marks" : Str) = "standing") := by decide +kernel
/-- a keeper's attributes -/
def flds (g ml z : Addr) : List (Str × V) := putF "standing" (.ref z) (putF "marks" (.ref ml) (putF "gear" (.ref g) []))
theorem fl_g (g ml z : Addr) : (flds g ml z).lookup ("gear" : Str) = some (.ref g) := by
  unfold flds
  rw [lookup_putF, if_neg kn2, lookup_putF, if_neg kn1, lookup_putF, if_pos rfl]
theorem fl_m (g ml z : Addr) : (flds g ml z).lookup ("marks" : Str) = some (.ref ml) := by
  unfold flds
  rw [lookup_putF, if_neg kn3, lookup_putF, if_pos rfl]
theorem fl_s (g ml z : Addr) : (flds g ml z).lookup ("standing" : Str) = some (.ref z) := by
  unfold flds
  rw [lookup_putF, if_pos rfl]
theorem fl_no (g ml z : Addr) {m : Str} (h1 : ¬ m = "gear") (h2 : ¬ m = "marks") (h3 : ¬ m = "standing") : (flds g ml z).lookup m = none := by
  unfold flds
  rw [lookup_putF, if_neg h3, lookup_putF, if_neg h2, lookup_putF, if_neg h1]
  rfl
theorem fl_put (g ml z z' : Addr) : putF "standing" (.ref z') (flds g ml z) = flds g ml z' := by
  unfold flds
  show putF "standing" (.ref z') (if ("gear" : Str) = "standing" then _ else (("gear" : Str), V.ref g) :: _) = (if ("gear" : Str) = "standing" then _ else (("gear" : Str), V.ref g) :: _)
  have e1 : putF "marks" (.ref ml) (putF "gear" (.ref g) []) = [(("gear" : Str), V.ref g), ("marks", V.ref ml)] := by
    show (if ("gear" : Str) = "marks" then _ else _) = _
    rw [if_neg kn1]
    rfl
  have e2 : ∀ y : Addr, putF "standing" (.ref y) [(("gear" : Str), V.ref g), ("marks", V.ref ml)] = [(("gear" : Str), V.ref g), ("marks", V.ref ml), ("standing", V.ref y)] := fun y => by
    show (if ("gear" : Str) = "standing" then _ else (("gear" : Str), V.ref g) :: (if ("marks" : Str) = "standing" then _ else _)) = _
    rw [if_neg kn2, if_neg kn3]
    rfl
  show putF "standing" (.ref z') (putF "standing" (.ref z) (putF "marks" (.ref ml) (putF "gear" (.ref g) []))) = putF "standing" (.ref z') (putF "marks" (.ref ml) (putF "gear" (.ref g) []))
  rw [e1, e2, e2]
  show (if ("gear" : Str) = "standing" then _ else (("gear" : Str), V.ref g) :: (if ("marks" : Str) = "standing" then _ else (("marks" : Str), V.ref ml) :: (if ("standing" : Str) = "standing" then _ else _))) = _
  rw [if_neg kn2, if_neg kn3, if_pos rfl]
/-- a keeper stands at p -/
def KpAt (C : Addr) (H : Hp) (p g ml z : Addr) : Prop := ∃ dx, H p = some (.ins C dx (flds g ml z))
structure KTxt (K : PySem.W.Frag) (C : Addr) : Prop where
  cl : Cls K C
  nG : NoAttr K C "gear"
  nM : NoAttr K C "marks"
  nS : NoAttr K C "standing"
/-- all but one address stays -/
def But (p : Addr) (H H' : Hp) : Prop := ∀ b o, b ≠ p → H b = some o → H' b = some o
theorem But.refl (p : Addr) (H : Hp) : But p H H := fun _ _ _ e => e
theorem But.trans {p : Addr} {H H1 H2 : Hp} (a : But p H H1) (b : But p H1 H2) : But p H H2 := fun c o n e => b c o n (a c o n e)
theorem But.of {p : Addr} {H H1 : Hp} (a : Same H H1) : But p H H1 := fun c o _ e => a c o e
theorem But.same {p : Addr} {H H0 H1 : Hp} (a : But p H H1) (n : H0 p = none) (s : Same H0 H) : Same H0 H1 := fun b o e => a b o (ne_of_none e n) (s b o e)
theorem Tabs.but {T : List (Addr × Str)} {H H' : Hp} {p C dx : Addr} {fs : List (Str × V)} (t : Tabs T H) (h : H p = some (.ins C dx fs)) (R : But p H H') : Tabs T H' := fun q hq => by
  obtain ⟨ps, h1, h2, h3⟩ := t q hq
  refine ⟨ps, R _ _ (ne_of h1 h fun z => nomatch z) h1, h2, fun pos cv hc => ?_⟩
  obtain ⟨c, e1, e2⟩ := h3 pos cv hc
  exact ⟨c, e1, R _ _ (ne_of e2 h fun z => nomatch z) e2⟩
section
variable {P : Program} {w : World} {K : PySem.W.Frag} {mg : Str → Option Value} {base : Heap} {C : Addr}
section
variable {H : Hp} {Q : VK} {p g ml z : Addr}
theorem rk_g {R : V → Prop} (T : KTxt K C) (h : KpAt C H p g ml z) (k : R (.ref g)) : ∃ a C dx fs v, V.ref p = .ref a ∧ H a = some (.ins C dx fs) ∧ Cls K C ∧ NoAttr K C "gear" ∧ fs.lookup ("gear" : Str) = some v ∧ R v := by
  obtain ⟨dx, e⟩ := h
  exact ⟨p, C, dx, _, _, rfl, e, T.cl, T.nG, fl_g _ _ _, k⟩
theorem rk_m {R : V → Prop} (T : KTxt K C) (h : KpAt C H p g ml z) (k : R (.ref ml)) : ∃ a C dx fs v, V.ref p = .ref a ∧ H a = some (.ins C dx fs) ∧ Cls K C ∧ NoAttr K C "marks" ∧ fs.lookup ("marks" : Str) = some v ∧ R v := by
  obtain ⟨dx, e⟩ := h
  exact ⟨p, C, dx, _, _, rfl, e, T.cl, T.nM, fl_m _ _ _, k⟩
theorem rk_s {R : V → Prop} (T : KTxt K C) (h : KpAt C H p g ml z) (k : R (.ref z)) : ∃ a C dx fs v, V.ref p = .ref a ∧ H a = some (.ins C dx fs) ∧ Cls K C ∧ NoAttr K C "standing" ∧ fs.lookup ("standing" : Str) = some v ∧ R v := by
  obtain ⟨dx, e⟩ := h
  exact ⟨p, C, dx, _, _, rfl, e, T.cl, T.nS, fl_s _ _ _, k⟩
theorem rk_set {R : Hp → Prop} {z' : Addr} (T : KTxt K C) (h : KpAt C H p g ml z) (k : ∀ H', KpAt C H' p g ml z' → But p H H' → R H') : ∃ a C dx fs, V.ref p = .ref a ∧ H a = some (.ins C dx fs) ∧ Cls K C ∧ NoAttr K C "standing" ∧ fs.length < 1000 ∧ R (upd H a (.ins C dx (putF "standing" (.ref z') fs))) := by
  obtain ⟨dx, e⟩ := h
  refine ⟨p, C, dx, _, rfl, e, T.cl, T.nS, ?_, k _ ⟨dx, by rw [fl_put]; exact upd_same⟩ fun b o n q => at_wr n q⟩
  have : (flds g ml z).length = 3 := by
    unfold flds
    show (putF "standing" (.ref z) (if ("gear" : Str) = "marks" then _ else (("gear" : Str), V.ref g) :: [("marks", V.ref ml)])).length = 3
    rw [if_neg kn1]
    show (if ("gear" : Str) = "standing" then _ else (("gear" : Str), V.ref g) :: (if ("marks" : Str) = "standing" then _ else _)).length = 3
    rw [if_neg kn2, if_neg kn3]
    rfl
  omega
theorem rk_o {m : Str} {R : Prop} (h : KpAt C H p g ml z) (h1 : ¬ m = "gear") (h2 : ¬ m = "marks") (h3 : ¬ m = "standing") (k : R) : ∃ a dx fs, V.ref p = .ref a ∧ H a = some (.ins C dx fs) ∧ fs.lookup m = none ∧ R := by
  obtain ⟨dx, e⟩ := h
  exact ⟨p, dx, _, rfl, e, fl_no _ _ _ h1 h2 h3, k⟩
theorem KpAt.same {H' : Hp} (h : KpAt C H p g ml z) (R : Same H H') : KpAt C H' p g ml z := by
  obtain ⟨dx, e⟩ := h
  exact ⟨dx, R _ _ e⟩
theorem KpAt.ext {H' : Hp} (h : KpAt C H p g ml z) (R : ExtN H H') : KpAt C H' p g ml z := by
  obtain ⟨dx, e⟩ := h
  exact ⟨dx, R _ _ e fun ps q => nomatch q⟩
theorem KpAt.ne {b : Addr} {xs : List V} (h : KpAt C H p g ml z) (e : H b = some (.tup xs)) : b ≠ p := by
  obtain ⟨dx, e2⟩ := h
  exact ne_of e e2 fun q => nomatch q
end
def spInit (C : Addr) : Sp := fun vs H Q _ => ∃ (p dx g : Addr) (r pl : Int) (ml : Addr) (ms : List Int) (z : Addr) (x : Int × Int), vs = [.ref p, .ref g, .ref ml, .ref z] ∧ H p = some (.ins C dx []) ∧ GearAt H g r pl ∧ H ml = some (.tup (ms.map V.int)) ∧ Marks r ms ∧ H z = some (.tup [.int x.1, .int x.2]) ∧ Stg pl x ∧
  ∀ H', KpAt C H' p g ml z → But p H H' → Q .non H'
theorem spInit_i {p dx g ml z : Addr} {r pl : Int} {ms : List Int} {x : Int × Int} {H : Hp} {Q : VK} {E : XK} (hp : H p = some (.ins C dx [])) (G : GearAt H g r pl) (hm : H ml = some (.tup (ms.map V.int))) (M : Marks r ms) (hz : H z = some (.tup [.int x.1, .int x.2])) (hs : Stg pl x)
    (k : ∀ H', KpAt C H' p g ml z → But p H H' → Q .non H') : spInit C [.ref p, .ref g, .ref ml, .ref z] H Q E := ⟨p, dx, g, r, pl, ml, ms, z, x, rfl, hp, G, hm, M, hz, hs, k⟩
theorem ok_Keeper_init (B : Bl mg) (T : KTxt K C) (mk : PySem.W.makesIn K C = true) (kC : PySem.W.keepIn K (.ref C) = true) (hC : mg "Keeper" = some (.ref C)) (F : MethAt K C "__init__" "Keeper.__init__" s_Keeper_init) (H_need_marks : Has P w K mg base CX0 2 "need_marks" spNMk) (H_need_standing : Has P w K mg base CX0 2 "need_standing" spNS) :
    HasMk P w K mg base CX0 C 3 "Keeper" (spInit C) := by
  refine F.make hC mk kC sc_Keeper_init bo_Keeper_init (fun vs H Q E h => ?_) (fun f cdv A outer s H vs Q E hr h => ?_)
  · obtain ⟨p, dx, g, r, pl, ml, ms, z, x, rfl, _⟩ := h
    rfl
  · obtain ⟨p, dx, g, r, pl, ml, ms, z, x, rfl, hp, G, hm, M, hz, hs, k⟩ := h
    refine ⟨_, (pss_cons (ps_expr (pe_has H_need_marks hr (by omega) rfl pass0 (pa_cons (pv 1) (pa_cons (pv 2) pa_nil))))
 (pss_cons (ps_expr (pe_has H_need_standing hr (by omega) rfl pass0 (pa_cons (pv 1) (pa_cons (pv 3) pa_nil))))
 (pss_cons (kps_fld (K := K) rfl (pv 0) (pe_callTy (kc_tup (K := K) rfl) rfl B.tuple (by decide +kernel) (pa_cons (pv 1) pa_nil)))
 (pss_cons (kps_fld (K := K) rfl (pv 0) (pe_callTy (kc_tup (K := K) rfl) rfl B.tuple (by decide +kernel) (pa_cons (pv 2) pa_nil)))
 (pss_one (kps_fld (K := K) rfl (pv 0) (pe_callTy (kc_tup (K := K) rfl) rfl B.tuple (by decide +kernel) (pa_cons (pv 3) pa_nil)))))))), ?_⟩
    refine r_start (σ' := [some (.ref p), some (.ref g), some (.ref ml), some (.ref z)]) rfl ?_
    walk_at "go"
    refine spNMk_i G hm M fun H1 h1 => ?_
    walk_at "go"
    refine spNS_i (G.mono (h1 _ _ G.at_)) (h1 _ _ hz) hs ?_
    walk_at "go"
    refine r_setFld ?_
    walk_at "go"
    refine r_tupT (SqT.of (h1 _ _ G.at_)) ?_
    walk_at "go"
    have hp1 := h1 _ _ hp
    have ne : ∀ {b : Addr} {xs : List V}, H1 b = some (.tup xs) → b ≠ p := fun e => ne_of e hp1 fun q => nomatch q
    refine ⟨p, C, dx, [], rfl, hp1, T.cl, T.nG, by show 0 < 1000; decide, ?_⟩
    have w2 : But p H1 (upd H1 p (.ins C dx (putF "gear" (.ref g) []))) := fun b o n e => at_wr n e
    have hp2 : upd H1 p (.ins C dx (putF "gear" (.ref g) [])) p = some (.ins C dx (putF "gear" (.ref g) [])) := upd_same
    generalize upd H1 p (.ins C dx (putF "gear" (.ref g) [])) = H2 at w2 hp2 ⊢
    walk_at "go"
    refine r_setFld ?_
    walk_at "go"
    have hm1 := h1 _ _ hm
    have hz1 := h1 _ _ hz
    refine r_tupT (SqT.of (w2 _ _ (ne hm1) hm1)) ?_
    walk_at "go"
    refine ⟨p, C, dx, _, rfl, hp2, T.cl, T.nM, by show 1 < 1000; decide, ?_⟩
    have w3 : But p H2 (upd H2 p (.ins C dx (putF "marks" (.ref ml) (putF "gear" (.ref g) [])))) := fun b o n e => at_wr n e
    have hp3 : upd H2 p (.ins C dx (putF "marks" (.ref ml) (putF "gear" (.ref g) []))) p = some (.ins C dx (putF "marks" (.ref ml) (putF "gear" (.ref g) []))) := upd_same
    generalize upd H2 p (.ins C dx (putF "marks" (.ref ml) (putF "gear" (.ref g) []))) = H3 at w3 hp3 ⊢
    walk_at "go"
    refine r_setFld ?_
    walk_at "go"
    refine r_tupT (SqT.of (w3 _ _ (ne hz1) (w2 _ _ (ne hz1) hz1))) ?_
    walk_at "go"
    refine ⟨p, C, dx, _, rfl, hp3, T.cl, T.nS, ?_, ?_⟩
    · show (if ("gear" : Str) = "marks" then _ else (("gear" : Str), V.ref g) :: [("marks", V.ref ml)]).length < 1000
      rw [if_neg kn1]
      show 2 < 1000
      decide
    · walk_at "go"
      exact k _ ⟨dx, upd_same⟩ fun b o n e => at_wr n (w3 _ _ n (w2 _ _ n (h1 _ _ e)))
def spMove (C : Addr) : Sp := fun vs H Q _ => ∃ (p g ml z : Addr) (r pl : Int) (x : Int × Int) (d : Int), vs = [.ref p, .int d] ∧ KpAt C H p g ml z ∧ H g = some (.tup [.int r, .int pl]) ∧ H z = some (.tup [.int x.1, .int x.2]) ∧
  ∀ (z' : Addr) (H' : Hp), KpAt C H' p g ml z' → H z' = none → H' z' = some (.tup [.int (nx pl x d).1, .int (nx pl x d).2]) → But p H H' → Q .non H'
theorem spMove_i {p g ml z : Addr} {r pl d : Int} {x : Int × Int} {H : Hp} {Q : VK} {E : XK} (h : KpAt C H p g ml z) (hg : H g = some (.tup [.int r, .int pl])) (hz : H z = some (.tup [.int x.1, .int x.2]))
    (k : ∀ (z' : Addr) (H' : Hp), KpAt C H' p g ml z' → H z' = none → H' z' = some (.tup [.int (nx pl x d).1, .int (nx pl x d).2]) → But p H H' → Q .non H') : spMove C [.ref p, .int d] H Q E := ⟨p, g, ml, z, r, pl, x, d, rfl, h, hg, hz, k⟩
theorem ok_Keeper_move (T : KTxt K C) (F : MethAt K C "move" "Keeper.move" s_Keeper_move) (H_behind : Has P w K mg base CX0 1 "behind" spBehind) : HasM P w K mg base CX0 C 2 "move" (spMove C) := by
  refine F.ok sc_Keeper_move bo_Keeper_move (fun vs H Q E h => ?_) (fun f cdv A outer s H vs Q E hr h => ?_)
  · obtain ⟨p, g, ml, z, r, pl, x, d, rfl, _⟩ := h
    rfl
  · obtain ⟨p, g, ml, z, r, pl, x, d, rfl, h, hg, hz, k⟩ := h
    refine ⟨_, (pss_one (kps_fld (K := K) rfl (pv 0) (pe_has H_behind hr (by omega) rfl pass0 (pa_cons (kpe_fld (K := K) rfl (pv 0)) (pa_cons (kpe_fld (K := K) rfl (pv 0)) (pa_cons (pv 1) pa_nil)))))), ?_⟩
    refine r_start (σ' := [some (.ref p), some (.int d)]) rfl ?_
    walk_at "go"
    refine r_setFld ?_
    walk_at "go"
    refine r_fld ?_
    walk_at "go"
    refine rk_g T h ?_
    walk_at "go"
    refine r_fld ?_
    walk_at "go"
    refine rk_s T h ?_
    walk_at "go"
    refine spBehind_i hg hz fun q H1 nq h1 hq => ?_
    walk_at "go"
    refine rk_set T (h.same h1) fun H2 h2 w2 => ?_
    walk_at "go"
    exact k q H2 h2 nq (w2 _ _ ((h.same h1).ne hq) hq) ((But.of h1).trans w2)
def spBelieved (C : Addr) : Sp := fun vs H Q _ => ∃ (p g ml z : Addr), vs = [.ref p] ∧ KpAt C H p g ml z ∧ Q (.ref z) H
theorem spBelieved_i {p g ml z : Addr} {H : Hp} {Q : VK} {E : XK} (h : KpAt C H p g ml z) (k : Q (.ref z) H) : spBelieved C [.ref p] H Q E := ⟨p, g, ml, z, rfl, h, k⟩
theorem ok_Keeper_believed (T : KTxt K C) (F : MethAt K C "believed" "Keeper.believed" s_Keeper_believed) : HasM P w K mg base CX0 C 1 "believed" (spBelieved C) := by
  refine F.ok sc_Keeper_believed bo_Keeper_believed (fun vs H Q E h => ?_) (fun f cdv A outer s H vs Q E hr h => ?_)
  · obtain ⟨p, g, ml, z, rfl, _⟩ := h
    rfl
  · obtain ⟨p, g, ml, z, rfl, h, k⟩ := h
    refine ⟨_, (pss_one (ps_ret (kpe_fld (K := K) rfl (pv 0)))), ?_⟩
    refine r_start (σ' := [some (.ref p)]) rfl ?_
    walk_at "go"
    refine r_fld ?_
    walk_at "go"
    exact rk_s T h k
def spMovedBy (C : Addr) : Sp := fun vs H Q _ => ∃ (p g ml z : Addr) (x : Int × Int) (v : Int), vs = [.ref p, .int v] ∧ KpAt C H p g ml z ∧ H z = some (.tup [.int x.1, .int x.2]) ∧
  ∀ (z' : Addr) (H' : Hp), KpAt C H' p g ml z' → H z' = none → H' z' = some (.tup [.int (x.1 + v), .int (x.2 + v)]) → But p H H' → Q (.int v) H'
theorem spMovedBy_i {p g ml z : Addr} {v : Int} {x : Int × Int} {H : Hp} {Q : VK} {E : XK} (h : KpAt C H p g ml z) (hz : H z = some (.tup [.int x.1, .int x.2]))
    (k : ∀ (z' : Addr) (H' : Hp), KpAt C H' p g ml z' → H z' = none → H' z' = some (.tup [.int (x.1 + v), .int (x.2 + v)]) → But p H H' → Q (.int v) H') : spMovedBy C [.ref p, .int v] H Q E := ⟨p, g, ml, z, x, v, rfl, h, hz, k⟩
theorem ok_Keeper_moved_by (T : KTxt K C) (F : MethAt K C "moved_by" "Keeper.moved_by" s_Keeper_moved_by) : HasM P w K mg base CX0 C 1 "moved_by" (spMovedBy C) := by
  refine F.ok sc_Keeper_moved_by bo_Keeper_moved_by (fun vs H Q E h => ?_) (fun f cdv A outer s H vs Q E hr h => ?_)
  · obtain ⟨p, g, ml, z, x, v, rfl, _⟩ := h
    rfl
  · obtain ⟨p, g, ml, z, x, v, rfl, h, hz, k⟩ := h
    refine ⟨_, (pss_cons (kps_fld (K := K) rfl (pv 0) (pe_tup (pa_cons (pe_op (kop_add (K := K) rfl) (pe_ix (kix (K := K) rfl) (kpe_fld (K := K) rfl (pv 0)) pe_int (fun _ _ => rfl)) (pv 1)) (pa_cons (pe_op (kop_add (K := K) rfl) (pe_ix (kix (K := K) rfl) (kpe_fld (K := K) rfl (pv 0)) pe_int (fun _ _ => rfl)) (pv 1)) pa_nil))))
 (pss_one (ps_ret (pv 1)))), ?_⟩
    refine r_start (σ' := [some (.ref p), some (.int v)]) rfl ?_
    walk_at "go"
    refine r_setFld ?_
    walk_at "go"
    refine r_fld ?_
    walk_at "go"
    refine rk_s T h ?_
    walk_at "go"
    refine r_fld ?_
    walk_at "go"
    refine rk_s T h ?_
    walk_at "go"
    intro q nq
    walk_at "go"
    refine rk_set T (h.same (same_new nq)) fun H2 h2 w2 => ?_
    walk_at "go"
    have hq : upd H q (.tup [.int (x.1 + v), .int (x.2 + v)]) q = some (.tup [.int (x.1 + v), .int (x.2 + v)]) := upd_same
    exact k q H2 h2 nq (w2 _ _ ((h.same (same_new nq)).ne hq) hq) ((But.of (same_new nq)).trans w2)
def spFound (C : Addr) : Sp := fun vs H Q _ => ∃ (p g ml z : Addr) (r pl : Int) (ms : List Int) (x : Int × Int) (n : Nat), vs = [.ref p, .int n] ∧ KpAt C H p g ml z ∧ H g = some (.tup [.int r, .int pl]) ∧ 0 < r ∧ H ml = some (.tup (ms.map V.int)) ∧ n < ms.length ∧ H z = some (.tup [.int x.1, .int x.2]) ∧
  ∀ (v : Int) (z' : Addr) (H' : Hp), v = offT r x.2 (ms.getD n 0) → KpAt C H' p g ml z' → H z' = none → H' z' = some (.tup [.int (x.1 + v), .int (x.2 + v)]) → But p H H' → Q (.int v) H'
theorem spFound_i {p g ml z : Addr} {r pl : Int} {ms : List Int} {x : Int × Int} {n : Nat} {H : Hp} {Q : VK} {E : XK} (h : KpAt C H p g ml z) (hg : H g = some (.tup [.int r, .int pl])) (h0 : 0 < r) (hm : H ml = some (.tup (ms.map V.int))) (hn : n < ms.length) (hz : H z = some (.tup [.int x.1, .int x.2]))
    (k : ∀ (v : Int) (z' : Addr) (H' : Hp), v = offT r x.2 (ms.getD n 0) → KpAt C H' p g ml z' → H z' = none → H' z' = some (.tup [.int (x.1 + v), .int (x.2 + v)]) → But p H H' → Q (.int v) H') : spFound C [.ref p, .int n] H Q E := ⟨p, g, ml, z, r, pl, ms, x, n, rfl, h, hg, h0, hm, hn, hz, k⟩
theorem at_getD9 {ms : List Int} {k : Nat} (h : k < ms.length) : (ms.map V.int)[k]? = some (.int (ms.getD k 0)) := by
  rw [List.getElem?_map, List.getElem?_eq_getElem h, List.getD_eq_getElem?_getD, List.getElem?_eq_getElem h]
  rfl
theorem ok_Keeper_found (B : Bl mg) (T : KTxt K C) (F : MethAt K C "found" "Keeper.found" s_Keeper_found) (H_off_to : Has P w K mg base CX0 1 "off_to" spOff) (HM_Keeper_moved_by : HasM P w K mg base CX0 C 1 "moved_by" (spMovedBy C)) : HasM P w K mg base CX0 C 2 "found" (spFound C) := by
  refine F.ok sc_Keeper_found bo_Keeper_found (fun vs H Q E h => ?_) (fun f cdv A outer s H vs Q E hr h => ?_)
  · obtain ⟨p, g, ml, z, r, pl, ms, x, n, rfl, _⟩ := h
    rfl
  · obtain ⟨p, g, ml, z, r, pl, ms, x, n, rfl, h, hg, h0, hm, hn, hz, k⟩ := h
    have T_Keeper := T
    refine ⟨_, (pss_cons (ps_if (pt_not (pt_chain op_le op_lt pe_int (pv 1) (pe_callB (kc_len (K := K) rfl) rfl B.len (by decide +kernel) (pa_cons (kpe_fld (K := K) rfl (pv 0)) pa_nil)))) (pss_one ps_never) pss_nil)
 (pss_one (ps_ret (pe_hasM HM_Keeper_moved_by T_Keeper.cl hr (by omega) (pv 0) pass0 (pa_cons (pe_has H_off_to hr (by omega) rfl pass0 (pa_cons (pe_ix (kix (K := K) rfl) (kpe_fld (K := K) rfl (pv 0)) pe_int (fun _ _ => rfl)) (pa_cons (pe_ix (kix (K := K) rfl) (kpe_fld (K := K) rfl (pv 0)) pe_int (fun _ _ => rfl)) (pa_cons (pe_ix (kix (K := K) rfl) (kpe_fld (K := K) rfl (pv 0)) (pv 1) (fun _ _ => rfl)) pa_nil)))) pa_nil))))), ?_⟩
    refine r_start (σ' := [some (.ref p), some (.int n)]) rfl ?_
    walk_at "go"
    refine iteDT (by omega) ?_
    walk_at "go"
    refine r_fld ?_
    walk_at "go"
    refine rk_m T h ?_
    walk_at "go"
    rw [List.length_map]
    refine iteNF (by omega) ?_
    walk_at "go"
    refine r_meth ?_
    walk_at "go"
    refine rk_o h (by decide +kernel) (by decide +kernel) (by decide +kernel) ?_
    walk_at "go"
    refine r_fld ?_
    walk_at "go"
    refine rk_g T h ?_
    walk_at "go"
    refine r_fld ?_
    walk_at "go"
    refine rk_s T h ?_
    walk_at "go"
    refine r_fld ?_
    walk_at "go"
    refine rk_m T h ?_
    walk_at "go"
    refine r_ix (v := .int (ms.getD n 0)) (.inr (SqT.of hm)) (at_of (j := n) rfl (at_getD9 hn)) ?_
    walk_at "go"
    refine spOff_i h0 ?_
    walk_at "go"
    exact spMovedBy_i h hz fun z' H' h2 n2 e2 w2 => k _ z' H' rfl h2 n2 e2 w2
end
end Rd

namespace Rd
open PySem PySem.Spec PyProof.Rows L2
/-- what a callee lets out is let out -/
theorem passX {P : Program} {w : World} {K : PySem.W.Frag} {mg : Str → Option Value} {base : Heap} {N : List Str} {q : Str} {sc : Scope} {f : Addr} {cdv : Value} {A : Around} {outer : List Env} {s : Shared} {H : Hp} {E : XK} :
    Passes (L2.CX P w) (cxOf (L2.CX P w) P w K mg base N q sc f cdv A outer s H E) E := passes_call (X := cxOf (L2.CX P w) P w K mg base N q sc f cdv A outer s H E) (W := fun cls d _ H => E cls d H) (takes_of rfl rfl rfl rfl) fun _ _ _ _ h => h
/-- what is never reached -/
theorem pss_no {X : Cx} {l : List Stmt} : PSs X l (fun _ _ _ => False) := ⟨fun _ _ _ _ _ _ h => h.elim⟩
section
variable {P : Program} {w : World} {K : PySem.W.Frag} {mg : Str → Option Value} {base : Heap}
theorem MethAt.makeX {C : Addr} {q : Str} {x : Str} {st : Stmt} {N ps : List Str} {k : Nat} {sp : Sp} (F : MethAt K C "__init__" q st) (hm : mg x = some (.ref C)) (mk : PySem.W.makesIn K C = true) (kC : PySem.W.keepIn K (.ref C) = true) (S : FnScope N ps (defScope st)) (bo : BindOkQ "__init__" q st ps) (len : ∀ vs H Q E, sp vs H Q E → vs.length = ps.length)
    (hbody : ∀ (f : Addr) (cdv : Value) (A : Around) (outer : List Env) (s : Shared) (H : Hp) (vs : List V) (Q : VK) (E : XK), Room k (A.deeper (envOfC q (defScope st) s.heap.objs.size f cdv)) → sp vs H Q E →
      ∃ t, PSs (cxOf (L2.CX P w) P w K mg base N q (defScope st) f cdv A outer s H E) (defBody st) t ∧ t { nx := fun _ H' => Q .non H', rt := Q } (start N vs) H) : HasMk P w K mg base (L2.CX P w) C (k + 1) x sp := by
  obtain ⟨f, fd, F, at_, fn⟩ := F.ex
  exact ⟨f, fd, ps, F.okX S len fun cdv A outer s H vs Q E hr h => hbody f cdv A outer s H vs Q E hr h, ⟨mk, at_, fn, kC⟩, F.binds bo, hm⟩
end
theorem r_eqInts {K : PySem.W.Frag} {H : Hp} {Q : VK} {a b : Addr} {xs ys : List Int} (h1 : H a = some (.lst (xs.map V.int))) (h2 : H b = some (.lst (ys.map V.int))) (k : Q (.bl (decide (xs = ys))) H) : rEqA K (.ref a) (.ref b) H Q :=
  .inr ⟨dInts xs, dInts ys, Is.dp _ _ (Is.ints h1), Is.dp _ _ (Is.ints h2), (Fl.ints 0 xs).shaped (by decide), (Fl.ints 0 ys).shaped (by decide), by rw [eqv_ints]; exact k⟩
end Rd
namespace Rd
open PySem L2
structure GearOk (r p : Int) : Prop where
  r2 : 2 ≤ r
  r6 : r ≤ 1000000
  p0 : 0 ≤ p
  p6 : p ≤ 1000000
/-- out of the round -/
def outs (r : Int) (gs : List Int) : List Int := gs.filter fun y => !decide (0 ≤ y ∧ y < r)
theorem outs_nil {r : Int} {gs : List Int} : outs r gs = [] ↔ ∀ y ∈ gs, 0 ≤ y ∧ y < r := by
  unfold outs
  rw [List.filter_eq_nil_iff]
  refine ⟨fun h y hy => ?_, fun h y hy => ?_⟩
  · have := h y hy
    simp at this
    omega
  · have := h y hy
    simp
    omega
section
variable {P : Program} {w : World} {K : PySem.W.Frag} {mg : Str → Option Value} {base : Heap}
def spNGX (cG : Addr) : Sp := fun vs H Q E => ∃ (g : Addr) (r p : Int), vs = [.ref g] ∧ H g = some (.tup [.int r, .int p]) ∧ (GearOk r p → Q .non H) ∧ (¬ GearOk r p → E (.ref cG) none H)
theorem ok_need_gearX {cG : Addr} (F : FunAt K mg "need_gear" s_need_gear) (M_MOST : Cn mg "MOST" 1000000) (G_BadGear : ClsG mg "BadGear" cG) (R_BadGear : ErrR K cG) : Has P w K mg base (L2.CX P w) 1 "need_gear" (spNGX cG) := by
  refine F.okX sc_need_gear bo_need_gear (fun vs H Q E h => ?_) (fun f cdv A outer s H vs Q E hr h => ?_)
  · obtain ⟨g, r, p, rfl, _⟩ := h
    rfl
  · obtain ⟨g, r, p, rfl, hg, k1, k2⟩ := h
    refine ⟨_, (pss_cons (ps_asg (pv 0) (kpg_tup (K := K) rfl rfl (pgs_cons (pg_name (i := 1) sc_need_gear.nd rfl (by first | exact Or.inl rfl | exact Or.inr rfl)) (pgs_cons (pg_name (i := 2) sc_need_gear.nd rfl (by first | exact Or.inl rfl | exact Or.inr rfl)) pgs_nil))))
 (pss_one (ps_if (PW.pt (pw_or (pt_not (pt_chain op_le op_le pe_int (pv 1) (pe_cn M_MOST rfl))) (pw_or1 (pt_not (pt_chain op_le op_le pe_int (pv 2) (pe_cn M_MOST rfl)))))) (pss_one (ps_raiseC rfl (takes_of rfl rfl rfl rfl) G_BadGear R_BadGear)) pss_nil))), ?_⟩
    refine r_start (σ' := [some (.ref g), none, none]) rfl ?_
    walk_at "go"
    refine iteD (fun c1 => ?_) (fun c1 => ?_)
    · walk_at "go"
      refine iteN (fun c2 => ?_) (fun c2 => ?_)
      · exact k2 fun z => c2 z.r6
      · walk_at "go"
        refine iteD (fun c3 => ?_) (fun c3 => ?_)
        · walk_at "go"
          refine iteN (fun c4 => ?_) (fun c4 => ?_)
          · exact k2 fun z => c4 z.p6
          · walk_at "go"
            exact k1 ⟨c1, c2, c3, c4⟩
        · exact ⟨false, rfl, k2 fun z => c3 z.p0⟩
    · exact ⟨false, rfl, k2 fun z => c1 z.r2⟩
def spNSX (cG cS : Addr) : Sp := fun vs H Q E => ∃ (g : Addr) (r p : Int) (z : Addr) (x : Int × Int), vs = [.ref g, .ref z] ∧ H g = some (.tup [.int r, .int p]) ∧ H z = some (.tup [.int x.1, .int x.2]) ∧
  (¬ GearOk r p → E (.ref cG) none H) ∧ (GearOk r p → ¬ Stg p x → E (.ref cS) none H) ∧ (GearOk r p → Stg p x → Q .non H)
theorem ok_need_standingX {cG cS : Addr} (F : FunAt K mg "need_standing" s_need_standing) (G_BadStanding : ClsG mg "BadStanding" cS) (R_BadStanding : ErrR K cS) (HX_need_gear : Has P w K mg base (L2.CX P w) 1 "need_gear" (spNGX cG)) : Has P w K mg base (L2.CX P w) 2 "need_standing" (spNSX cG cS) := by
  refine F.okX sc_need_standing bo_need_standing (fun vs H Q E h => ?_) (fun f cdv A outer s H vs Q E hr h => ?_)
  · obtain ⟨g, r, p, z, x, rfl, _⟩ := h
    rfl
  · obtain ⟨g, r, p, z, x, rfl, hg, hz, k1, k2, k3⟩ := h
    refine ⟨_, (pss_cons (ps_expr (pe_has HX_need_gear hr (by omega) rfl passX (pa_cons (pv 0) pa_nil)))
 (pss_cons (ps_asg (pv 1) (kpg_tup (K := K) rfl rfl (pgs_cons (pg_name (i := 2) sc_need_standing.nd rfl (by first | exact Or.inl rfl | exact Or.inr rfl)) (pgs_cons (pg_name (i := 3) sc_need_standing.nd rfl (by first | exact Or.inl rfl | exact Or.inr rfl)) pgs_nil))))
 (pss_one (ps_if (pt_not (pt_chain op_le op_le (pe_op op_sub (pv 2) (pe_ix (kix (K := K) rfl) (pv 0) pe_int (fun _ _ => rfl))) (pv 3) (pv 2))) (pss_one (ps_raiseC rfl (takes_of rfl rfl rfl rfl) G_BadStanding R_BadStanding)) pss_nil)))), ?_⟩
    refine r_start (σ' := [some (.ref g), some (.ref z), none, none]) rfl ?_
    walk_at "go"
    refine ⟨g, r, p, rfl, hg, fun ok => ?_, fun bad => k1 bad⟩
    walk_at "go"
    refine iteD (fun c1 => ?_) (fun c1 => ?_)
    · walk_at "go"
      refine iteN (fun c2 => ?_) (fun c2 => ?_)
      · exact k2 ok fun z => c2 z.2
      · walk_at "go"
        exact k3 ok ⟨c1, c2⟩
    · exact ⟨false, rfl, k2 ok fun z => c1 z.1⟩
def spNMX (K : PySem.W.Frag) (cM : Addr) : Sp := fun vs H Q E => ∃ (l : Addr) (xs : List V), vs = [.ref l] ∧ SqL K H l xs ∧ (xs.length ≤ 100 → Q .non H) ∧ (100 < xs.length → E (.ref cM) none H)
theorem ok_need_movesX {cM : Addr} (B : Bl mg) (F : FunAt K mg "need_moves" s_need_moves) (M_MOST_MOVES : Cn mg "MOST_MOVES" 100) (G_BadMoves : ClsG mg "BadMoves" cM) (R_BadMoves : ErrR K cM) : Has P w K mg base (L2.CX P w) 1 "need_moves" (spNMX K cM) := by
  refine F.okX sc_need_moves bo_need_moves (fun vs H Q E h => ?_) (fun f cdv A outer s H vs Q E hr h => ?_)
  · obtain ⟨l, xs, rfl, _⟩ := h
    rfl
  · obtain ⟨l, xs, rfl, hl, k1, k2⟩ := h
    refine ⟨_, (pss_one (ps_if (pt_cmpR op_gt (pe_callB (kc_len (K := K) rfl) rfl B.len (by decide +kernel) (pa_cons (pv 0) pa_nil)) (pe_cn M_MOST_MOVES rfl) (nomark _)) (pss_one (ps_raiseC rfl (takes_of rfl rfl rfl rfl) G_BadMoves R_BadMoves)) pss_nil)), ?_⟩
    refine r_start (σ' := [some (.ref l)]) rfl ?_
    walk_at "go"
    refine iteD (fun c => ?_) (fun c => ?_)
    · exact k2 (by omega)
    · walk_at "go"
      exact k1 (by omega)
/-- goals are refused -/
def spGoalsX (K : PySem.W.Frag) (cG cS cO : Addr) : Sp := fun vs H _ E => ∃ (g : Addr) (r p : Int) (z : Addr) (x : Int × Int) (l : Addr) (gs : List Int) (most : Int), vs = [.ref g, .ref z, .ref l, .int most] ∧ H g = some (.tup [.int r, .int p]) ∧ H z = some (.tup [.int x.1, .int x.2]) ∧ SqL K H l (gs.map V.int) ∧ gs.length ≤ 500 ∧
  (¬ GearOk r p → E (.ref cG) none H) ∧ (GearOk r p → ¬ Stg p x → E (.ref cS) none H) ∧ (GearOk r p → Stg p x → (most < gs.length ∨ outs r gs ≠ []) ∧ ∀ H', Same H H' → E (.ref cO) none H')
theorem ok_need_goalsX {cG cS cO : Addr} (B : Bl mg) (F : FunAt K mg "need_goals" s_need_goals) (G_BadGoal : ClsG mg "BadGoal" cO) (R_BadGoal : ErrR K cO) (HX_need_standing : Has P w K mg base (L2.CX P w) 2 "need_standing" (spNSX cG cS)) : Has P w K mg base (L2.CX P w) 3 "need_goals" (spGoalsX K cG cS cO) := by
  refine F.okX sc_need_goals bo_need_goals (fun vs H Q E h => ?_) (fun f cdv A outer s H vs Q E hr h => ?_)
  · obtain ⟨g, r, p, z, x, l, gs, most, rfl, _⟩ := h
    rfl
  · obtain ⟨g, r, p, z, x, l, gs, most, rfl, hg, hz, hl, h5, k1, k2, k3⟩ := h
    refine ⟨_, (pss_cons (ps_expr (pe_has HX_need_standing hr (by omega) rfl passX (pa_cons (pv 0) (pa_cons (pv 1) pa_nil))))
 (pss_one (ps_if (PW.pt (pw_or (pt_cmpR op_gt (pe_callB (kc_len (K := K) rfl) rfl B.len (by decide +kernel) (pa_cons (pv 2) pa_nil)) (pv 3) (nomark _)) (pw_or1 (pt_cmpR (kop_ne (K := K) rfl hr.units) (pe_lc (own := [("goal", 4)]) (g := (gName 4)) rfl sc_need_goals.nd (kpi_list (K := K) rfl (pv 2)) (blkOk_by (N := ["gear", "standing", "goals", "most", "goal"]) (sc := defScope s_need_goals) (own := [("goal", 4)]) (by decide +kernel)) (fun _ _ _ _ _ => (pg_name (i := 4) sc_need_goals.nd rfl (by first | exact Or.inl rfl | exact Or.inr rfl))) (fun _ _ _ _ _ => (pts_one (pt_not (pt_chain op_le op_lt pe_int (pv 4) (pe_ix (kix (K := K) rfl) (pv 0) pe_int (fun _ _ => rfl)))))) (fun _ _ _ _ _ => (pv 4))) (pe_lst pa_nil) (nomark _))))) (pss_one (ps_raiseC rfl (takes_of rfl rfl rfl rfl) G_BadGoal R_BadGoal)) pss_nil))), ?_⟩
    refine r_start (σ' := [some (.ref g), some (.ref z), some (.ref l), some (.int most), none]) rfl ?_
    walk_at "go"
    refine ⟨g, r, p, z, x, rfl, hg, hz, k1, k2, fun ok st => ?_⟩
    obtain ⟨bad, k⟩ := k3 ok st
    walk_at "go"
    rw [List.length_map]
    refine iteD (fun c => ?_) (fun c => ?_)
    · exact k _ (Same.refl _)
    walk_at "go"
    refine ⟨_, rfl, ⟨_, hl⟩, fun D nD => lcw_list (K := K) (a := l) (xs := gs.map V.int) (σw := [some (.ref g), some (.ref z), some (.ref l), some (.int most), none])
      (fun n H8 => Same H H8 ∧ H8 D = some (.lst ((outs r (gs.take n)).map V.int))) rfl ⟨same_new nD, upd_same⟩ (fun n H8 _ h => h.1.seq hl) (fun n y H8 hn h => ?_) fun H8 h => ?_⟩
    · obtain ⟨h8, hD⟩ := h
      obtain ⟨v, hv, rfl⟩ := map_at hn
      have hlt : n < gs.length := by
        rw [List.getElem?_eq_some_iff] at hv
        exact hv.1
      have add : ¬ (0 ≤ v ∧ v < r) → ∃ acc, H8 D = some (.lst acc) ∧ acc.length < sizeLine ∧ Same H (upd H8 D (.lst (acc ++ [.int v]))) ∧ upd H8 D (.lst (acc ++ [.int v])) D = some (.lst ((outs r (gs.take (n + 1))).map V.int)) := fun o => by
        refine ⟨_, hD, ?_, fun b o e => at_wr (ne_of_none e nD) (h8 _ _ e), ?_⟩
        · rw [List.length_map]
          refine small1000 (Nat.le_trans (List.length_filter_le _ _) ?_)
          rw [List.length_take]
          omega
        · have eo : outs r [v] = [v] := by
            unfold outs
            rw [List.filter_cons, if_pos (by rw [decide_eq_false o]; rfl)]
            rfl
          have ea : outs r (gs.take n ++ [v]) = outs r (gs.take n) ++ outs r [v] := List.filter_append ..
          rw [upd_same, take_snoc hv, ea, eo, List.map_append]
          rfl
      have stay : (0 ≤ v ∧ v < r) → Same H H8 ∧ H8 D = some (.lst ((outs r (gs.take (n + 1))).map V.int)) := fun i => by
        refine ⟨h8, ?_⟩
        have eo : outs r [v] = [] := by
          unfold outs
          rw [List.filter_cons, if_neg (by rw [decide_eq_true i]; decide)]
          rfl
        have ea : outs r (gs.take n ++ [v]) = outs r (gs.take n) ++ outs r [v] := List.filter_append ..
        rw [take_snoc hv, ea, eo, List.append_nil]
        exact hD
      walk_at "go"
      refine ⟨rfl, ?_⟩
      walk_at "go"
      refine iteD (fun c1 => ?_) (fun c1 => ?_)
      · walk_at "go"
        refine iteN (fun c2 => ?_) (fun c2 => ?_)
        · walk_at "go"
          obtain ⟨acc, a1, a2, a3, a4⟩ := add fun z => c2 z.2
          exact ⟨acc, a1, a2, a3, a4⟩
        · walk_at "go"
          exact stay ⟨c1, c2⟩
      · walk_at "go"
        refine iteT ?_
        walk_at "go"
        obtain ⟨acc, a1, a2, a3, a4⟩ := add fun z => c1 z.1
        exact ⟨acc, a1, a2, a3, a4⟩
    · obtain ⟨h8, hD⟩ := h
      rw [List.length_map, List.take_length] at hD
      walk_at "go"
      intro t nt
      refine r_neNil (at_new nt hD) upd_same ?_
      walk_at "go"
      refine iteNT (fun e => ?_) ?_
      · rcases bad with b | b
        · exact c (by omega)
        · exact b e
      · exact k _ (h8.trans (same_new nt))
/-- marks are refused, or pass -/
def spNMkX (cG cK : Addr) : Sp := fun vs H Q E => ∃ (g : Addr) (r p : Int) (l : Addr) (ms : List Int), vs = [.ref g, .ref l] ∧ H g = some (.tup [.int r, .int p]) ∧ H l = some (.tup (ms.map V.int)) ∧ ms.length ≤ 60 ∧
  (¬ GearOk r p → E (.ref cG) none H) ∧ (GearOk r p → ¬ Marks r ms → ∀ H', Same H H' → E (.ref cK) none H') ∧ (GearOk r p → Marks r ms → ∀ H', Same H H' → Q .non H')
theorem ok_need_marksX {cG cK : Addr} (B : Bl mg) (F : FunAt K mg "need_marks" s_need_marks) (M_MOST_MARKS : Cn mg "MOST_MARKS" 12) (G_BadMarks : ClsG mg "BadMarks" cK) (R_BadMarks : ErrR K cK) (HX_need_gear : Has P w K mg base (L2.CX P w) 1 "need_gear" (spNGX cG)) : Has P w K mg base (L2.CX P w) 2 "need_marks" (spNMkX cG cK) := by
  refine F.okX sc_need_marks bo_need_marks (fun vs H Q E h => ?_) (fun f cdv A outer s H vs Q E hr h => ?_)
  · obtain ⟨g, r, p, l, ms, rfl, _⟩ := h
    rfl
  · obtain ⟨g, r, p, l, ms, rfl, hg, hl, hn, k1, k2, k3⟩ := h
    refine ⟨_, (pss_cons (ps_expr (pe_has HX_need_gear hr (by omega) rfl passX (pa_cons (pv 0) pa_nil)))
 (pss_cons (ps_set (i := 2) sc_need_marks.nd rfl (by first | exact Or.inl rfl | exact Or.inr rfl) (pe_mid (pe_and (pe_chain op_le op_le pe_int (pe_callB (kc_len (K := K) rfl) rfl B.len (by decide +kernel) (pa_cons (pv 1) pa_nil)) (pe_cn M_MOST_MARKS rfl)) (pe_one (pe_cmpR (kop_eq (K := K) rfl hr.units) (pe_callB (kc_sortedS (w := w) rfl rfl) rfl B.sorted (by decide +kernel) (pa_cons (pe_callTy (kc_setI (K := K) (w := w) rfl rfl rfl) rfl B.set (by decide +kernel) (pa_cons (pv 1) pa_nil)) pa_nil)) (pe_callTy (kc_list (K := K) rfl) rfl B.list (by decide +kernel) (pa_cons (pv 1) pa_nil)) (nomark _))))))
 (pss_one (ps_if (PW.pt (pw_or (pt_not (pt_val (pv 2))) (pw_or1 (pt_cmpR (kop_ne (K := K) rfl hr.units) (pe_lc (own := [("mark", 3)]) (g := (gName 3)) rfl sc_need_marks.nd (kpi_tup (K := K) rfl (pv 1)) (blkOk_by (N := ["gear", "marks", "good", "mark"]) (sc := defScope s_need_marks) (own := [("mark", 3)]) (by decide +kernel)) (fun _ _ _ _ _ => (pg_name (i := 3) sc_need_marks.nd rfl (by first | exact Or.inl rfl | exact Or.inr rfl))) (fun _ _ _ _ _ => (pts_one (pt_not (pt_chain op_le op_lt pe_int (pv 3) (pe_ix (kix (K := K) rfl) (pv 0) pe_int (fun _ _ => rfl)))))) (fun _ _ _ _ _ => (pv 3))) (pe_lst pa_nil) (nomark _))))) (pss_one (ps_raiseC rfl (takes_of rfl rfl rfl rfl) G_BadMarks R_BadMarks)) pss_nil)))), ?_⟩
    refine r_start (σ' := [some (.ref g), some (.ref l), none, none]) rfl ?_
    walk_at "go"
    refine ⟨g, r, p, rfl, hg, fun ok => ?_, fun bad => k1 bad⟩
    walk_at "go"
    refine r_mid (fun v H' => v = .bl (decide (0 < ms.length ∧ ms.length ≤ 12 ∧ ms.Pairwise (· < ·))) ∧ Same H H') ?_ ?_
    · walk_at "go"
      rw [List.length_map]
      refine iteD (fun c1 => ?_) (fun c1 => ?_)
      · walk_at "go"
        refine iteD (fun c2 => ?_) (fun c2 => ?_)
        · walk_at "go"
          refine r_setI (.inr (SqT.of hl)) (by omega) fun p3 c n3 hc => ?_
          walk_at "go"
          refine r_sortedS (ns := ms) (c := c) upd_same (by omega) fun ms' p4 h1 h2 h3 n4 => ?_
          walk_at "go"
          have hl4 := at_new (u := .lst (ms'.map V.int)) n4 (at_new (u := SetO w p3 (fun j => decide (j ∈ ms)) c) n3 hl)
          refine r_listOf (.inr (SqT.of hl4)) fun l5 n5 => ?_
          walk_at "go"
          refine r_eqInts (at_new n5 upd_same) upd_same ?_
          refine ⟨?_, (same_new n3).trans ((same_new n4).trans (same_new n5))⟩
          refine congrArg V.bl (decide_eq_decide.mpr ⟨fun e => ⟨by omega, by omega, by rw [← e]; exact h1⟩, fun e => rise_one h1 e.2.2 h2⟩)
        · have e := decide_eq_false (p := 0 < ms.length ∧ ms.length ≤ 12 ∧ ms.Pairwise (· < ·)) (fun z => c2 (by omega))
          rw [e]
          first | exact ⟨rfl, Same.refl _⟩ | exact ⟨false, rfl, rfl, Same.refl _⟩
      · have e := decide_eq_false (p := 0 < ms.length ∧ ms.length ≤ 12 ∧ ms.Pairwise (· < ·)) (fun z => c1 (by omega))
        rw [e]
        first | exact ⟨rfl, Same.refl _⟩ | exact ⟨false, rfl, rfl, Same.refl _⟩
    · rintro _ H5 ⟨rfl, s5⟩
      walk_at "go"
      refine iteN (fun c => ?_) (fun c => ?_)
      · exact k2 ok (fun M => c ⟨M.some_, M.few, M.rise⟩) _ s5
      · walk_at "go"
        refine r_iTup ?_
        walk_at "go"
        refine ⟨_, rfl, ⟨_, SqT.of (s5 _ _ hl)⟩, fun D nD => lcw_tup (K := K) (a := l) (xs := ms.map V.int) (σw := [some (.ref g), some (.ref l), some (.bl (decide (0 < ms.length ∧ ms.length ≤ 12 ∧ ms.Pairwise (· < ·)))), none])
          (fun n H8 => Same H5 H8 ∧ H8 D = some (.lst ((outs r (ms.take n)).map V.int))) rfl ⟨same_new nD, upd_same⟩ (fun n H8 _ h => SqT.of (h.1 _ _ (s5 _ _ hl))) (fun n y H8 hn h => ?_) fun H8 h => ?_⟩
        · obtain ⟨h8, hD⟩ := h
          obtain ⟨v, hv, rfl⟩ := map_at hn
          have hlt : n < ms.length := by
            rw [List.getElem?_eq_some_iff] at hv
            exact hv.1
          have hg8 := h8 _ _ (s5 _ _ hg)
          have add : ¬ (0 ≤ v ∧ v < r) → ∃ acc, H8 D = some (.lst acc) ∧ acc.length < sizeLine ∧ Same H5 (upd H8 D (.lst (acc ++ [.int v]))) ∧ upd H8 D (.lst (acc ++ [.int v])) D = some (.lst ((outs r (ms.take (n + 1))).map V.int)) := fun o => by
            refine ⟨_, hD, ?_, fun b o e => at_wr (ne_of_none e nD) (h8 _ _ e), ?_⟩
            · rw [List.length_map]
              refine small1000 (Nat.le_trans (List.length_filter_le _ _) ?_)
              rw [List.length_take]
              omega
            · have eo : outs r [v] = [v] := by
                unfold outs
                rw [List.filter_cons, if_pos (by rw [decide_eq_false o]; rfl)]
                rfl
              have ea : outs r (ms.take n ++ [v]) = outs r (ms.take n) ++ outs r [v] := List.filter_append ..
              rw [upd_same, take_snoc hv, ea, eo, List.map_append]
              rfl
          have stay : (0 ≤ v ∧ v < r) → Same H5 H8 ∧ H8 D = some (.lst ((outs r (ms.take (n + 1))).map V.int)) := fun i => by
            refine ⟨h8, ?_⟩
            have eo : outs r [v] = [] := by
              unfold outs
              rw [List.filter_cons, if_neg (by rw [decide_eq_true i]; decide)]
              rfl
            have ea : outs r (ms.take n ++ [v]) = outs r (ms.take n) ++ outs r [v] := List.filter_append ..
            rw [take_snoc hv, ea, eo, List.append_nil]
            exact hD
          walk_at "go"
          refine ⟨rfl, ?_⟩
          walk_at "go"
          refine iteD (fun c1 => ?_) (fun c1 => ?_)
          · walk_at "go"
            refine iteN (fun c2 => ?_) (fun c2 => ?_)
            · walk_at "go"
              obtain ⟨acc, a1, a2, a3, a4⟩ := add fun z => c2 z.2
              exact ⟨acc, a1, a2, a3, a4⟩
            · walk_at "go"
              exact stay ⟨c1, c2⟩
          · walk_at "go"
            refine iteT ?_
            walk_at "go"
            obtain ⟨acc, a1, a2, a3, a4⟩ := add fun z => c1 z.1
            exact ⟨acc, a1, a2, a3, a4⟩
        · obtain ⟨h8, hD⟩ := h
          rw [List.length_map, List.take_length] at hD
          walk_at "go"
          intro t nt
          refine r_neNil (at_new nt hD) upd_same ?_
          walk_at "go"
          refine iteN (fun e => ?_) (fun e => ?_)
          · exact k2 ok (fun M => e (outs_nil.mpr M.in_)) _ (s5.trans (h8.trans (same_new nt)))
          · walk_at "go"
            exact k3 ok ⟨c.2.1, c.1, c.2.2, outs_nil.mp e⟩ _ (s5.trans (h8.trans (same_new nt)))
end
end Rd

namespace Rd
open PySem L2
/-- an error of the class at c is let out; what was tracked stands -/
def Rf (c : Addr) (E : XK) (H : Hp) : Prop := ∀ H', Same H H' → E (.ref c) none H'
theorem Rf.now {c : Addr} {E : XK} {H : Hp} (h : Rf c E H) : E (.ref c) none H := h _ (Same.refl _)
theorem Rf.later {c : Addr} {E : XK} {H H1 : Hp} (h : Rf c E H) (s : Same H H1) : Rf c E H1 := fun H' s' => h _ (s.trans s')
section
variable {P : Program} {w : World} {K : PySem.W.Frag} {mg : Str → Option Value} {base : Heap} {cG cS cM cO cK : Addr}
/-- the first refusal of a gear, a standing, and what comes behind them -/
def Ref (cG cS c : Addr) (r p : Int) (x : Int × Int) (bad : Prop) (E : XK) (H : Hp) : Prop := (¬ GearOk r p ∧ Rf cG E H) ∨ (GearOk r p ∧ ¬ Stg p x ∧ Rf cS E H) ∨ (GearOk r p ∧ Stg p x ∧ bad ∧ Rf c E H)
def spStX (K : PySem.W.Frag) (cG cS cM : Addr) : Sp := fun vs H _ E => ∃ (g : Addr) (r p : Int) (z : Addr) (x : Int × Int) (l : Addr) (xs : List V), vs = [.ref g, .ref z, .ref l] ∧ H g = some (.tup [.int r, .int p]) ∧ H z = some (.tup [.int x.1, .int x.2]) ∧ SqL K H l xs ∧ Ref cG cS cM r p x (100 < xs.length) E H
def spToX (cG cS cO : Addr) : Sp := fun vs H _ E => ∃ (g : Addr) (r p : Int) (z : Addr) (x : Int × Int) (goal : Int), vs = [.ref g, .ref z, .int goal] ∧ H g = some (.tup [.int r, .int p]) ∧ H z = some (.tup [.int x.1, .int x.2]) ∧ Ref cG cS cO r p x (¬ (0 ≤ goal ∧ goal < r)) E H
def spPaX (K : PySem.W.Frag) (cG cS cO : Addr) (most : Int) : Sp := fun vs H _ E => ∃ (g : Addr) (r p : Int) (z : Addr) (x : Int × Int) (l : Addr) (gs : List Int), vs = [.ref g, .ref z, .ref l] ∧ H g = some (.tup [.int r, .int p]) ∧ H z = some (.tup [.int x.1, .int x.2]) ∧ SqL K H l (gs.map V.int) ∧ gs.length ≤ 500 ∧ Ref cG cS cO r p x (most < gs.length ∨ outs r gs ≠ []) E H
def spKnX (K : PySem.W.Frag) (cG cM : Addr) : Sp := fun vs H _ E => ∃ (g : Addr) (r p : Int) (l : Addr) (xs : List V), vs = [.ref g, .ref l] ∧ H g = some (.tup [.int r, .int p]) ∧ SqL K H l xs ∧ ((¬ GearOk r p ∧ Rf cG E H) ∨ (GearOk r p ∧ 100 < xs.length ∧ Rf cM E H))
def spInX (cG cK cS : Addr) : Sp := fun vs H _ E => ∃ (q g : Addr) (r p : Int) (l : Addr) (ms : List Int) (z : Addr) (x : Int × Int), vs = [.ref q, .ref g, .ref l, .ref z] ∧ H g = some (.tup [.int r, .int p]) ∧ H l = some (.tup (ms.map V.int)) ∧ ms.length ≤ 60 ∧ H z = some (.tup [.int x.1, .int x.2]) ∧
  ((¬ GearOk r p ∧ Rf cG E H) ∨ (GearOk r p ∧ ¬ Marks r ms ∧ Rf cK E H) ∨ (GearOk r p ∧ Marks r ms ∧ ¬ Stg p x ∧ Rf cS E H))
def spSuX (cG cK : Addr) : Sp := fun vs H _ E => ∃ (g : Addr) (r p : Int) (l : Addr) (ms : List Int), vs = [.ref g, .ref l] ∧ H g = some (.tup [.int r, .int p]) ∧ H l = some (.tup (ms.map V.int)) ∧ ms.length ≤ 60 ∧ ((¬ GearOk r p ∧ Rf cG E H) ∨ (GearOk r p ∧ ¬ Marks r ms ∧ Rf cK E H))
def spWrX (K : PySem.W.Frag) (cM : Addr) : Sp := fun vs H _ E => ∃ (l : Addr) (xs : List V), vs = [.ref l] ∧ SqL K H l xs ∧ 100 < xs.length ∧ Rf cM E H
theorem spNSX_ref {g z : Addr} {r p : Int} {x : Int × Int} {c : Addr} {bad : Prop} {H : Hp} {Q : VK} {E : XK} (hg : H g = some (.tup [.int r, .int p])) (hz : H z = some (.tup [.int x.1, .int x.2])) (h : Ref cG cS c r p x bad E H) (k : bad → Rf c E H → Q .non H) : spNSX cG cS [.ref g, .ref z] H Q E := by
  refine ⟨g, r, p, z, x, rfl, hg, hz, fun n => ?_, fun o n => ?_, fun o st => ?_⟩
  · rcases h with h | h | h
    · exact h.2.now
    · exact absurd h.1 n
    · exact absurd h.1 n
  · rcases h with h | h | h
    · exact absurd o h.1
    · exact h.2.2.now
    · exact absurd h.2.1 n
  · rcases h with h | h | h
    · exact absurd o h.1
    · exact absurd st h.2.1
    · exact k h.2.2.1 h.2.2.2
theorem spGoalsX_ref {g z l : Addr} {r p most : Int} {x : Int × Int} {gs : List Int} {H : Hp} {Q : VK} {E : XK} (hg : H g = some (.tup [.int r, .int p])) (hz : H z = some (.tup [.int x.1, .int x.2])) (hl : SqL K H l (gs.map V.int)) (h5 : gs.length ≤ 500) (h : Ref cG cS cO r p x (most < gs.length ∨ outs r gs ≠ []) E H) : spGoalsX K cG cS cO [.ref g, .ref z, .ref l, .int most] H Q E := by
  refine ⟨g, r, p, z, x, l, gs, most, rfl, hg, hz, hl, h5, fun n => ?_, fun o n => ?_, fun o st => ?_⟩
  · rcases h with h | h | h
    · exact h.2.now
    · exact absurd h.1 n
    · exact absurd h.1 n
  · rcases h with h | h | h
    · exact absurd o h.1
    · exact h.2.2.now
    · exact absurd h.2.1 n
  · rcases h with h | h | h
    · exact absurd o h.1
    · exact absurd st h.2.1
    · exact h.2.2
theorem ok_standsX (F : FunAt K mg "stands" s_stands) (HX_need_standing : Has P w K mg base (L2.CX P w) 2 "need_standing" (spNSX cG cS)) (HX_need_moves : Has P w K mg base (L2.CX P w) 1 "need_moves" (spNMX K cM)) : Has P w K mg base (L2.CX P w) 3 "stands" (spStX K cG cS cM) := by
  refine F.okX sc_stands bo_stands (fun vs H Q E h => ?_) (fun f cdv A outer s H vs Q E hr h => ?_)
  · obtain ⟨g, r, p, z, x, l, xs, rfl, _⟩ := h
    rfl
  · obtain ⟨g, r, p, z, x, l, xs, rfl, hg, hz, hl, h⟩ := h
    refine ⟨_, (pss_cons (ps_expr (pe_has HX_need_standing hr (by omega) rfl passX (pa_cons (pv 0) (pa_cons (pv 1) pa_nil))))
 (pss_cons (ps_expr (pe_has HX_need_moves hr (by omega) rfl passX (pa_cons (pv 2) pa_nil)))
 pss_no)), ?_⟩
    refine r_start (σ' := [some (.ref g), some (.ref z), some (.ref l)]) rfl ?_
    walk_at "go"
    refine spNSX_ref hg hz h fun bad k => ?_
    walk_at "go"
    exact ⟨l, xs, rfl, hl, fun c => by omega, fun _ => k.now⟩
theorem ok_trailX (F : FunAt K mg "trail" s_trail) (HX_need_standing : Has P w K mg base (L2.CX P w) 2 "need_standing" (spNSX cG cS)) (HX_need_moves : Has P w K mg base (L2.CX P w) 1 "need_moves" (spNMX K cM)) : Has P w K mg base (L2.CX P w) 3 "trail" (spStX K cG cS cM) := by
  refine F.okX sc_trail bo_trail (fun vs H Q E h => ?_) (fun f cdv A outer s H vs Q E hr h => ?_)
  · obtain ⟨g, r, p, z, x, l, xs, rfl, _⟩ := h
    rfl
  · obtain ⟨g, r, p, z, x, l, xs, rfl, hg, hz, hl, h⟩ := h
    refine ⟨_, (pss_cons (ps_expr (pe_has HX_need_standing hr (by omega) rfl passX (pa_cons (pv 0) (pa_cons (pv 1) pa_nil))))
 (pss_cons (ps_expr (pe_has HX_need_moves hr (by omega) rfl passX (pa_cons (pv 2) pa_nil)))
 pss_no)), ?_⟩
    refine r_start (σ' := [some (.ref g), some (.ref z), some (.ref l)]) rfl ?_
    walk_at "go"
    refine spNSX_ref hg hz h fun bad k => ?_
    walk_at "go"
    exact ⟨l, xs, rfl, hl, fun c => by omega, fun _ => k.now⟩
theorem ok_toX (F : FunAt K mg "to" s_to) (HX_need_goals : Has P w K mg base (L2.CX P w) 3 "need_goals" (spGoalsX K cG cS cO)) : Has P w K mg base (L2.CX P w) 4 "to" (spToX cG cS cO) := by
  refine F.okX sc_to bo_to (fun vs H Q E h => ?_) (fun f cdv A outer s H vs Q E hr h => ?_)
  · obtain ⟨g, r, p, z, x, goal, rfl, _⟩ := h
    rfl
  · obtain ⟨g, r, p, z, x, goal, rfl, hg, hz, h⟩ := h
    refine ⟨_, (pss_cons (ps_expr (pe_has HX_need_goals hr (by omega) rfl passX (pa_cons (pv 0) (pa_cons (pv 1) (pa_cons (pe_lst (pa_cons (pv 2) pa_nil)) (pa_cons pe_int pa_nil))))))
 pss_no), ?_⟩
    refine r_start (σ' := [some (.ref g), some (.ref z), some (.int goal)]) rfl ?_
    walk_at "go"
    intro l nl
    walk_at "go"
    have s1 : Same H (upd H l (.lst [V.int goal])) := same_new nl
    refine spGoalsX_ref (gs := [goal]) (s1 _ _ hg) (s1 _ _ hz) (SqL.of upd_same) (by show 1 ≤ 500; decide) ?_
    rcases h with h | h | h
    · exact .inl ⟨h.1, h.2.later s1⟩
    · exact .inr (.inl ⟨h.1, h.2.1, h.2.2.later s1⟩)
    · exact .inr (.inr ⟨h.1, h.2.1, .inr (fun e => h.2.2.1 (outs_nil.mp e goal (List.mem_singleton.mpr rfl))), h.2.2.2.later s1⟩)
theorem ok_pathX (F : FunAt K mg "path" s_path) (M_MOST_GOALS : Cn mg "MOST_GOALS" 8) (HX_need_goals : Has P w K mg base (L2.CX P w) 3 "need_goals" (spGoalsX K cG cS cO)) : Has P w K mg base (L2.CX P w) 4 "path" (spPaX K cG cS cO 8) := by
  refine F.okX sc_path bo_path (fun vs H Q E h => ?_) (fun f cdv A outer s H vs Q E hr h => ?_)
  · obtain ⟨g, r, p, z, x, l, gs, rfl, _⟩ := h
    rfl
  · obtain ⟨g, r, p, z, x, l, gs, rfl, hg, hz, hl, h5, h⟩ := h
    refine ⟨_, (pss_cons (ps_expr (pe_has HX_need_goals hr (by omega) rfl passX (pa_cons (pv 0) (pa_cons (pv 1) (pa_cons (pv 2) (pa_cons (pe_cn M_MOST_GOALS rfl) pa_nil))))))
 pss_no), ?_⟩
    refine r_start (σ' := [some (.ref g), some (.ref z), some (.ref l)]) rfl ?_
    walk_at "go"
    exact spGoalsX_ref hg hz hl h5 h
theorem ok_tourX (F : FunAt K mg "tour" s_tour) (M_MOST_TOUR : Cn mg "MOST_TOUR" 5) (HX_need_goals : Has P w K mg base (L2.CX P w) 3 "need_goals" (spGoalsX K cG cS cO)) : Has P w K mg base (L2.CX P w) 4 "tour" (spPaX K cG cS cO 5) := by
  refine F.okX sc_tour bo_tour (fun vs H Q E h => ?_) (fun f cdv A outer s H vs Q E hr h => ?_)
  · obtain ⟨g, r, p, z, x, l, gs, rfl, _⟩ := h
    rfl
  · obtain ⟨g, r, p, z, x, l, gs, rfl, hg, hz, hl, h5, h⟩ := h
    refine ⟨_, (pss_cons (ps_expr (pe_has HX_need_goals hr (by omega) rfl passX (pa_cons (pv 0) (pa_cons (pv 1) (pa_cons (pv 2) (pa_cons (pe_cn M_MOST_TOUR rfl) pa_nil))))))
 pss_no), ?_⟩
    refine r_start (σ' := [some (.ref g), some (.ref z), some (.ref l), none, none, none]) rfl ?_
    walk_at "go"
    exact spGoalsX_ref hg hz hl h5 h
theorem ok_knownX (F : FunAt K mg "known" s_known) (HX_need_gear : Has P w K mg base (L2.CX P w) 1 "need_gear" (spNGX cG)) (HX_need_moves : Has P w K mg base (L2.CX P w) 1 "need_moves" (spNMX K cM)) : Has P w K mg base (L2.CX P w) 2 "known" (spKnX K cG cM) := by
  refine F.okX sc_known bo_known (fun vs H Q E h => ?_) (fun f cdv A outer s H vs Q E hr h => ?_)
  · obtain ⟨g, r, p, l, xs, rfl, _⟩ := h
    rfl
  · obtain ⟨g, r, p, l, xs, rfl, hg, hl, h⟩ := h
    refine ⟨_, (pss_cons (ps_expr (pe_has HX_need_gear hr (by omega) rfl passX (pa_cons (pv 0) pa_nil)))
 (pss_cons (ps_expr (pe_has HX_need_moves hr (by omega) rfl passX (pa_cons (pv 1) pa_nil)))
 pss_no)), ?_⟩
    refine r_start (σ' := [some (.ref g), some (.ref l), none, none]) rfl ?_
    walk_at "go"
    refine ⟨g, r, p, rfl, hg, fun ok => ?_, fun bad => ?_⟩
    · rcases h with h | h
      · exact absurd ok h.1
      · walk_at "go"
        exact ⟨l, xs, rfl, hl, fun c => by omega, fun _ => h.2.2.now⟩
    · rcases h with h | h
      · exact h.2.now
      · exact absurd h.1 bad
theorem ok_settledX (F : FunAt K mg "settled" s_settled) (HX_need_gear : Has P w K mg base (L2.CX P w) 1 "need_gear" (spNGX cG)) (HX_need_moves : Has P w K mg base (L2.CX P w) 1 "need_moves" (spNMX K cM)) : Has P w K mg base (L2.CX P w) 2 "settled" (spKnX K cG cM) := by
  refine F.okX sc_settled bo_settled (fun vs H Q E h => ?_) (fun f cdv A outer s H vs Q E hr h => ?_)
  · obtain ⟨g, r, p, l, xs, rfl, _⟩ := h
    rfl
  · obtain ⟨g, r, p, l, xs, rfl, hg, hl, h⟩ := h
    refine ⟨_, (pss_cons (ps_expr (pe_has HX_need_gear hr (by omega) rfl passX (pa_cons (pv 0) pa_nil)))
 (pss_cons (ps_expr (pe_has HX_need_moves hr (by omega) rfl passX (pa_cons (pv 1) pa_nil)))
 pss_no)), ?_⟩
    refine r_start (σ' := [some (.ref g), some (.ref l), none, none, none]) rfl ?_
    walk_at "go"
    refine ⟨g, r, p, rfl, hg, fun ok => ?_, fun bad => ?_⟩
    · rcases h with h | h
      · exact absurd ok h.1
      · walk_at "go"
        exact ⟨l, xs, rfl, hl, fun c => by omega, fun _ => h.2.2.now⟩
    · rcases h with h | h
      · exact h.2.now
      · exact absurd h.1 bad
theorem ok_Keeper_initX {C : Addr} (mk : PySem.W.makesIn K C = true) (kC : PySem.W.keepIn K (.ref C) = true) (hC : mg "Keeper" = some (.ref C)) (F : MethAt K C "__init__" "Keeper.__init__" s_Keeper_init) (HX_need_marks : Has P w K mg base (L2.CX P w) 2 "need_marks" (spNMkX cG cK)) (HX_need_standing : Has P w K mg base (L2.CX P w) 2 "need_standing" (spNSX cG cS)) :
    HasMk P w K mg base (L2.CX P w) C 3 "Keeper" (spInX cG cK cS) := by
  refine F.makeX hC mk kC sc_Keeper_init bo_Keeper_init (fun vs H Q E h => ?_) (fun f cdv A outer s H vs Q E hr h => ?_)
  · obtain ⟨q, g, r, p, l, ms, z, x, rfl, _⟩ := h
    rfl
  · obtain ⟨q, g, r, p, l, ms, z, x, rfl, hg, hl, hn, hz, h⟩ := h
    refine ⟨_, (pss_cons (ps_expr (pe_has HX_need_marks hr (by omega) rfl passX (pa_cons (pv 1) (pa_cons (pv 2) pa_nil))))
 (pss_cons (ps_expr (pe_has HX_need_standing hr (by omega) rfl passX (pa_cons (pv 1) (pa_cons (pv 3) pa_nil))))
 pss_no)), ?_⟩
    refine r_start (σ' := [some (.ref q), some (.ref g), some (.ref l), some (.ref z)]) rfl ?_
    walk_at "go"
    refine ⟨g, r, p, l, ms, rfl, hg, hl, hn, fun bad => ?_, fun ok bad H' s' => ?_, fun ok M H' s' => ?_⟩
    · rcases h with h | h | h
      · exact h.2.now
      · exact absurd h.1 bad
      · exact absurd h.1 bad
    · rcases h with h | h | h
      · exact absurd ok h.1
      · exact h.2.2 _ s'
      · exact absurd h.2.1 bad
    · rcases h with h | h | h
      · exact absurd ok h.1
      · exact absurd M h.2.1
      · walk_at "go"
        exact ⟨g, r, p, z, x, rfl, s' _ _ hg, s' _ _ hz, fun bad => absurd ok bad, fun _ _ => h.2.2.2 _ s', fun _ st => absurd st h.2.2.1⟩
theorem ok_sureX (F : FunAt K mg "sure" s_sure) (HX_need_marks : Has P w K mg base (L2.CX P w) 2 "need_marks" (spNMkX cG cK)) : Has P w K mg base (L2.CX P w) 3 "sure" (spSuX cG cK) := by
  refine F.okX sc_sure bo_sure (fun vs H Q E h => ?_) (fun f cdv A outer s H vs Q E hr h => ?_)
  · obtain ⟨g, r, p, l, ms, rfl, _⟩ := h
    rfl
  · obtain ⟨g, r, p, l, ms, rfl, hg, hl, hn, h⟩ := h
    refine ⟨_, (pss_cons (ps_expr (pe_has HX_need_marks hr (by omega) rfl passX (pa_cons (pv 0) (pa_cons (pv 1) pa_nil))))
 pss_no), ?_⟩
    refine r_start (σ' := [some (.ref g), some (.ref l), none, none, none, none]) rfl ?_
    walk_at "go"
    refine ⟨g, r, p, l, ms, rfl, hg, hl, hn, fun bad => ?_, fun ok bad H' s' => ?_, fun ok M H' s' => ?_⟩
    · rcases h with h | h
      · exact h.2.now
      · exact absurd h.1 bad
    · rcases h with h | h
      · exact absurd ok h.1
      · exact h.2.2 _ s'
    · rcases h with h | h
      · exact absurd ok h.1
      · exact absurd M h.2.1
theorem ok_writtenX (F : FunAt K mg "written" s_written) (HX_need_moves : Has P w K mg base (L2.CX P w) 1 "need_moves" (spNMX K cM)) : Has P w K mg base (L2.CX P w) 2 "written" (spWrX K cM) := by
  refine F.okX sc_written bo_written (fun vs H Q E h => ?_) (fun f cdv A outer s H vs Q E hr h => ?_)
  · obtain ⟨l, xs, rfl, _⟩ := h
    rfl
  · obtain ⟨l, xs, rfl, hl, hb, k⟩ := h
    refine ⟨_, (pss_cons (ps_expr (pe_has HX_need_moves hr (by omega) rfl passX (pa_cons (pv 0) pa_nil)))
 pss_no), ?_⟩
    refine r_start (σ' := [some (.ref l), none]) rfl ?_
    walk_at "go"
    exact ⟨l, xs, rfl, hl, fun c => by omega, fun _ => k.now⟩
end
end Rd

namespace Rd
open PySem PySem.Spec PyProof.Rows L2 LamX NdefX
/-! ## the nine works of a gear -/
def lamOf : Stmt → Expr
  | .Assign _ (.List (e :: _) _) _ => e
  | .Expr (.Call _ (e :: _) _ _) _ => e
  | _ => .List [] ⟨0, 0, 0, 0⟩
def laPa : Expr → Arguments
  | .Lambda p _ _ _ => p
  | _ => ⟨[], [], none, [], [], none, []⟩
def laBd : Expr → Expr
  | .Lambda _ b _ _ => b
  | e => e
def laSc : Expr → Scope
  | .Lambda _ _ s _ => s
  | _ => { kind := .function, names := [], isGenerator := false, isCoroutine := false, more := [] }
def LF.of (q : Str) (e : Expr) (cl : List (Str × Addr)) (c : Addr) : LF := ⟨q, laPa e, laBd e, laSc e, cl, c⟩
/-- the lambda e of the qualified name q stands at f; its captured names fr hold ws -/
def LamAt (H : Hp) (f : Addr) (q : Str) (e : Expr) (fr : List Str) (ws : List V) : Prop := ∃ cl c', H f = some (LamO f (LF.of q e cl c')) ∧ H c' = some (CodeO c' q) ∧ CellsIn cl fr ws H
theorem CellsIn.ext {cl : List (Str × Addr)} {fr : List Str} {ws : List V} {H H' : Hp} (C : CellsIn cl fr ws H) (R : ExtN H H') : CellsIn cl fr ws H' := by
  refine ⟨C.len, fun c hc => ?_, C.inj, fun i y e => ?_⟩
  · obtain ⟨o, u, q, d⟩ := C.all c hc
    exact ⟨o, u, R _ _ q (fun _ z => nomatch z), d⟩
  · obtain ⟨c, hc, hv⟩ := C.has i y e
    refine ⟨c, hc, fun v ev => ?_⟩
    obtain ⟨o, u, r, q, d⟩ := hv v ev
    exact ⟨o, u, r, R _ _ q (fun _ z => nomatch z), d⟩
theorem LamAt.ext {H H' : Hp} {f : Addr} {q : Str} {e : Expr} {fr : List Str} {ws : List V} (h : LamAt H f q e fr ws) (R : ExtN H H') : LamAt H' f q e fr ws := by
  obtain ⟨cl, c', h1, h2, h3⟩ := h
  exact ⟨cl, c', R _ _ h1 lamO_ne, R _ _ h2 codeO_ne, h3.ext R⟩
/-- the list of the works while it grows -/
structure WkC (cells : List (Str × Addr)) (q : Str) (H : Hp) (l : Addr) (es : List Expr) : Prop where
  ex : ∃ fs : List Addr, H l = some (.lst (fs.map V.ref)) ∧ fs.length = es.length ∧ ∀ (i : Nat) (f : Addr) (e : Expr), fs[i]? = some f → es[i]? = some e → ∃ c', H f = some (LamO f (LF.of q e (cloFrom cells (laSc e).names []) c')) ∧ H c' = some (CodeO c' q)
theorem WkC.ext {cells : List (Str × Addr)} {q : Str} {H H' : Hp} {l : Addr} {es : List Expr} (W : WkC cells q H l es) (R : ExtN H H') : WkC cells q H' l es := by
  obtain ⟨fs, h1, h2, h3⟩ := W.ex
  refine ⟨fs, ExtN.at_lst R h1, h2, fun i f e e1 e2 => ?_⟩
  obtain ⟨c', a, b⟩ := h3 i f e e1 e2
  exact ⟨c', R _ _ a lamO_ne, R _ _ b codeO_ne⟩
theorem WkC.ty {K : PySem.W.Frag} {cells : List (Str × Addr)} {q : Str} {H : Hp} {l : Addr} {es : List Expr} (W : WkC cells q H l es) : tyV K "list" (.ref l) H := by
  obtain ⟨fs, h, _⟩ := W.ex
  exact r_tyL h
theorem Tabs.wrL {T : List (Addr × Str)} {H H' : Hp} {p : Addr} {xs : List V} (t : Tabs T H) (h : H p = some (.lst xs)) (R : ∀ b o, b ≠ p → H b = some o → H' b = some o) : Tabs T H' := fun q hq => by
  obtain ⟨ps, h1, h2, h3⟩ := t q hq
  refine ⟨ps, R _ _ (ne_of h1 h fun z => nomatch z) h1, h2, fun pos cv hc => ?_⟩
  obtain ⟨c, e1, e2⟩ := h3 pos cv hc
  exact ⟨c, e1, R _ _ (ne_of e2 h fun z => nomatch z) e2⟩
/-- what stands at the start of a growing: the base heap, the tables -/
structure WkG (TT : List (Addr × Str)) (H0 H : Hp) (l : Addr) : Prop where
  ext : ∀ b o, H0 b = some o → (∀ ps, o ≠ .tbl ps) → H b = some o
  tabs : Tabs TT H
  new : H0 l = none
theorem wk_first {TT : List (Addr × Str)} {cells : List (Str × Addr)} {q : Str} {H0 H1 : Hp} {f c' l : Addr} {e : Expr} (R : ExtN H0 H1) (T : Tabs TT H1) (nn : ∀ b, H1 b = none → H0 b = none) (hf : H1 f = some (LamO f (LF.of q e (cloFrom cells (laSc e).names []) c'))) (hc : H1 c' = some (CodeO c' q)) (nl : H1 l = none) :
    WkC cells q (upd H1 l (.lst [.ref f])) l [e] ∧ WkG TT H0 (upd H1 l (.lst [.ref f])) l := by
  have s := same_new (u := .lst [V.ref f]) nl
  refine ⟨⟨[f], upd_same, rfl, fun i f' e' e1 e2 => ?_⟩, fun b o e n => s _ _ (R b o e n), T.ext s, nn l nl⟩
  cases i with
  | zero =>
    cases e1
    cases e2
    exact ⟨c', s _ _ hf, s _ _ hc⟩
  | succ i =>
    simp at e1
theorem wk_app {TT : List (Addr × Str)} {cells : List (Str × Addr)} {q : Str} {H0 H H1 : Hp} {f c' l : Addr} {e : Expr} {es : List Expr} {Q : VK} (W : WkC cells q H l es) (G : WkG TT H0 H l) (R : ExtN H H1) (T : Tabs TT H1) (hf : H1 f = some (LamO f (LF.of q e (cloFrom cells (laSc e).names []) c'))) (hc : H1 c' = some (CodeO c' q)) (hz : es.length ≤ 100)
    (k : ∀ H2, WkC cells q H2 l (es ++ [e]) → WkG TT H0 H2 l → Q .non H2) : rAppend (.ref l) [.ref f] H1 Q := by
  obtain ⟨fs, h1, h2, h3⟩ := (W.ext R).ex
  refine r_appA h1 (by rw [List.length_map]; exact small1000 (by omega)) fun H2 e2 w2 => ?_
  have at_ : ∀ {b : Addr} {o : HO}, H1 b = some o → o ≠ .lst (fs.map V.ref) → H2 b = some o := fun {b o} e n => w2 _ _ (ne_of e h1 n) e
  refine k H2 ⟨fs ++ [f], by rw [e2, List.map_append]; rfl, by rw [List.length_append, List.length_append, h2]; rfl, fun i f' e' q1 q2 => ?_⟩ ⟨fun b o q1 q2 => ?_, Tabs.wrL T h1 w2, G.new⟩
  · by_cases hi : i < fs.length
    · rw [List.getElem?_append_left hi] at q1
      rw [List.getElem?_append_left (by omega)] at q2
      obtain ⟨c2, a, b⟩ := h3 i f' e' q1 q2
      exact ⟨c2, at_ a (fun z => nomatch z), at_ b (fun z => nomatch z)⟩
    · rw [List.getElem?_append_right (by omega)] at q1
      rw [List.getElem?_append_right (by omega)] at q2
      cases hj : i - fs.length with
      | zero =>
        rw [hj] at q1
        rw [← h2, hj] at q2
        cases q1
        cases q2
        exact ⟨c', at_ hf (fun z => nomatch z), at_ hc (fun z => nomatch z)⟩
      | succ n =>
        rw [hj] at q1
        simp at q1
  · have e1 := R b o (G.ext b o q1 q2) q2
    exact w2 _ _ (fun z => by rw [z, G.new] at q1; cases q1) e1
/-- the words of the i-th work, its captured names, and what they hold -/
def wkE (i : Nat) : Expr := lamOf ((defBody s_law_of_gears).getD i (.Pass ⟨0, 0, 0, 0⟩))
def wkFr : Nat → List Str
  | 0 => ["_law_gear_here", "_law_standing_here", "_law_moves_here"]
  | 1 => ["_law_gear_here", "_law_standing_here", "_law_moves_here"]
  | 2 => ["_law_gear_here", "_law_standing_here", "_law_goals"]
  | 3 => ["_law_gear_here", "_law_standing_here", "_law_goals"]
  | 4 => ["_law_gear_here", "_law_standing_here", "_law_goals"]
  | 5 => ["_law_gear_here", "_law_moves_here"]
  | 6 => ["_law_gear_here", "_law_moves_here"]
  | 7 => ["_law_gear_here", "_law_marks", "_law_standing_here"]
  | _ => ["_law_gear_here", "_law_marks"]
def wkWs (g z m o k : Addr) : Nat → List V
  | 0 => [.ref g, .ref z, .ref m]
  | 1 => [.ref g, .ref z, .ref m]
  | 2 => [.ref g, .ref z, .ref o]
  | 3 => [.ref g, .ref z, .ref o]
  | 4 => [.ref g, .ref z, .ref o]
  | 5 => [.ref g, .ref m]
  | 6 => [.ref g, .ref m]
  | 7 => [.ref g, .ref k, .ref z]
  | _ => [.ref g, .ref k]
def qWk : Str := "_law_of_gears" ++ ".<locals>." ++ "<lambda>"
def spOG (TT : List (Addr × Str)) : Sp := fun vs H Q _ => ∃ g z m o k : Addr, vs = [.ref g, .ref z, .ref m, .ref o, .ref k] ∧ Tabs TT H ∧
  ∀ (l : Addr) (fs : List Addr) (H' : Hp), H l = none → ExtN H H' → Tabs TT H' → H' l = some (.lst (fs.map V.ref)) → fs.length = 9 → (∀ (i : Nat) (f : Addr), fs[i]? = some f → LamAt H' f qWk (wkE i) (wkFr i) (wkWs g z m o k i)) → Q (.ref l) H'
theorem wk_scopes : ∀ i < 9, (laSc (wkE i)).names.all (fun y => !decide (y.2 = .free) || decide (y.1 ∈ wkFr i)) = true ∧ (wkFr i).all (fun y => decide ((y, NameKind.free) ∈ (laSc (wkE i)).names)) = true ∧ lamSB (defScope s_law_of_gears) (laSc (wkE i)) = true := by decide +kernel
theorem wk_nofree : ∀ y ∈ (defScope s_law_of_gears).names, y.2 ≠ .free := by decide +kernel
theorem wk_val {g z m o k : Addr} {σ : L2.St} (h0 : σ[0]? = some (some (.ref g))) (h1 : σ[1]? = some (some (.ref z))) (h2 : σ[2]? = some (some (.ref m))) (h3 : σ[3]? = some (some (.ref o))) (h4 : σ[4]? = some (some (.ref k))) :
    ∀ n < 9, ∀ (i : Nat) (y : Str), (wkFr n)[i]? = some y → ∃ (j : Nat) (a : Addr), (["_law_gear_here", "_law_standing_here", "_law_moves_here", "_law_goals", "_law_marks", "_law_works"] : List Str)[j]? = some y ∧ σ[j]? = some (some (.ref a)) ∧ (wkWs g z m o k n)[i]? = some (.ref a) := by
  intro n hn i y e
  have t0 : ∀ {xs : List Str} {vs : List V}, xs = (["_law_gear_here", "_law_standing_here", "_law_moves_here"] : List Str) → vs = [.ref g, .ref z, .ref m] → xs[i]? = some y → ∃ (j : Nat) (a : Addr), (["_law_gear_here", "_law_standing_here", "_law_moves_here", "_law_goals", "_law_marks", "_law_works"] : List Str)[j]? = some y ∧ σ[j]? = some (some (.ref a)) ∧ vs[i]? = some (.ref a) := by
    rintro _ _ rfl rfl e
    match i, e with
    | 0, e => exact ⟨0, g, e, h0, rfl⟩
    | 1, e => exact ⟨1, z, e, h1, rfl⟩
    | 2, e => exact ⟨2, m, e, h2, rfl⟩
  have t1 : ∀ {xs : List Str} {vs : List V}, xs = (["_law_gear_here", "_law_standing_here", "_law_goals"] : List Str) → vs = [.ref g, .ref z, .ref o] → xs[i]? = some y → ∃ (j : Nat) (a : Addr), (["_law_gear_here", "_law_standing_here", "_law_moves_here", "_law_goals", "_law_marks", "_law_works"] : List Str)[j]? = some y ∧ σ[j]? = some (some (.ref a)) ∧ vs[i]? = some (.ref a) := by
    rintro _ _ rfl rfl e
    match i, e with
    | 0, e => exact ⟨0, g, e, h0, rfl⟩
    | 1, e => exact ⟨1, z, e, h1, rfl⟩
    | 2, e => exact ⟨3, o, e, h3, rfl⟩
  have t2 : ∀ {xs : List Str} {vs : List V}, xs = (["_law_gear_here", "_law_moves_here"] : List Str) → vs = [.ref g, .ref m] → xs[i]? = some y → ∃ (j : Nat) (a : Addr), (["_law_gear_here", "_law_standing_here", "_law_moves_here", "_law_goals", "_law_marks", "_law_works"] : List Str)[j]? = some y ∧ σ[j]? = some (some (.ref a)) ∧ vs[i]? = some (.ref a) := by
    rintro _ _ rfl rfl e
    match i, e with
    | 0, e => exact ⟨0, g, e, h0, rfl⟩
    | 1, e => exact ⟨2, m, e, h2, rfl⟩
  have t3 : ∀ {xs : List Str} {vs : List V}, xs = (["_law_gear_here", "_law_marks", "_law_standing_here"] : List Str) → vs = [.ref g, .ref k, .ref z] → xs[i]? = some y → ∃ (j : Nat) (a : Addr), (["_law_gear_here", "_law_standing_here", "_law_moves_here", "_law_goals", "_law_marks", "_law_works"] : List Str)[j]? = some y ∧ σ[j]? = some (some (.ref a)) ∧ vs[i]? = some (.ref a) := by
    rintro _ _ rfl rfl e
    match i, e with
    | 0, e => exact ⟨0, g, e, h0, rfl⟩
    | 1, e => exact ⟨4, k, e, h4, rfl⟩
    | 2, e => exact ⟨1, z, e, h1, rfl⟩
  have t4 : ∀ {xs : List Str} {vs : List V}, xs = (["_law_gear_here", "_law_marks"] : List Str) → vs = [.ref g, .ref k] → xs[i]? = some y → ∃ (j : Nat) (a : Addr), (["_law_gear_here", "_law_standing_here", "_law_moves_here", "_law_goals", "_law_marks", "_law_works"] : List Str)[j]? = some y ∧ σ[j]? = some (some (.ref a)) ∧ vs[i]? = some (.ref a) := by
    rintro _ _ rfl rfl e
    match i, e with
    | 0, e => exact ⟨0, g, e, h0, rfl⟩
    | 1, e => exact ⟨4, k, e, h4, rfl⟩
  match n, hn, e with
  | 0, _, e => exact t0 rfl rfl e
  | 1, _, e => exact t0 rfl rfl e
  | 2, _, e => exact t1 rfl rfl e
  | 3, _, e => exact t1 rfl rfl e
  | 4, _, e => exact t1 rfl rfl e
  | 5, _, e => exact t2 rfl rfl e
  | 6, _, e => exact t2 rfl rfl e
  | 7, _, e => exact t3 rfl rfl e
  | 8, _, e => exact t4 rfl rfl e
  | n + 9, h, _ => exact absurd h (by omega)
theorem wk_len {g z m o k : Addr} : ∀ n, (wkWs g z m o k n).length = (wkFr n).length := fun n => by
  match n with
  | 0 => rfl
  | 1 => rfl
  | 2 => rfl
  | 3 => rfl
  | 4 => rfl
  | 5 => rfl
  | 6 => rfl
  | 7 => rfl
  | n + 8 => rfl
section
variable {P : Program} {w : World} {K : PySem.W.Frag} {mg : Str → Option Value} {base : Heap}
set_option maxHeartbeats 8000000 in
theorem ok_law_of_gears {TT : List (Addr × Str)} {c Pt : Addr} (F : FunTab K mg "_law_of_gears" s_law_of_gears c Pt) (TB : TabB base mg c Pt) (hmT : (Pt, qWk) ∈ TT) (huT : ∀ p ∈ TT, p.1 = Pt → p.2 = qWk) : Has P w K mg base CX0 1 "_law_of_gears" (spOG TT) := by
  refine F.okC sc_law_of_gears bo_law_of_gears (fun vs H Q E h => ?_) (fun f A outer s H vs Q E hr h => ?_)
  · obtain ⟨g, z, m, o, k, rfl, _⟩ := h
    rfl
  · obtain ⟨g, z, m, o, k, rfl, hT, hk⟩ := h
    refine ⟨_, (psk_cons (ps_set (i := 5) sc_law_of_gears.nd rfl (by first | exact Or.inl rfl | exact Or.inr rfl) (pe_lst (pa_cons (pe_lamT TB rfl hmT huT (lamS_by (sc := defScope s_law_of_gears) (by decide +kernel)) rfl) pa_nil)))
 (psk_cons (ps_expr (kpe_bm (K := K) rfl PySem.F.plainAttrs_list PySem.F.slot_list_append PySem.F.type_list_append mt_append (pv 5) (pa_cons (pe_lamT TB rfl hmT huT (lamS_by (sc := defScope s_law_of_gears) (by decide +kernel)) rfl) pa_nil)))
 (psk_cons (ps_expr (kpe_bm (K := K) rfl PySem.F.plainAttrs_list PySem.F.slot_list_append PySem.F.type_list_append mt_append (pv 5) (pa_cons (pe_lamT TB rfl hmT huT (lamS_by (sc := defScope s_law_of_gears) (by decide +kernel)) rfl) pa_nil)))
 (psk_cons (ps_expr (kpe_bm (K := K) rfl PySem.F.plainAttrs_list PySem.F.slot_list_append PySem.F.type_list_append mt_append (pv 5) (pa_cons (pe_lamT TB rfl hmT huT (lamS_by (sc := defScope s_law_of_gears) (by decide +kernel)) rfl) pa_nil)))
 (psk_cons (ps_expr (kpe_bm (K := K) rfl PySem.F.plainAttrs_list PySem.F.slot_list_append PySem.F.type_list_append mt_append (pv 5) (pa_cons (pe_lamT TB rfl hmT huT (lamS_by (sc := defScope s_law_of_gears) (by decide +kernel)) rfl) pa_nil)))
 (psk_cons (ps_expr (kpe_bm (K := K) rfl PySem.F.plainAttrs_list PySem.F.slot_list_append PySem.F.type_list_append mt_append (pv 5) (pa_cons (pe_lamT TB rfl hmT huT (lamS_by (sc := defScope s_law_of_gears) (by decide +kernel)) rfl) pa_nil)))
 (psk_cons (ps_expr (kpe_bm (K := K) rfl PySem.F.plainAttrs_list PySem.F.slot_list_append PySem.F.type_list_append mt_append (pv 5) (pa_cons (pe_lamT TB rfl hmT huT (lamS_by (sc := defScope s_law_of_gears) (by decide +kernel)) rfl) pa_nil)))
 (psk_cons (ps_expr (kpe_bm (K := K) rfl PySem.F.plainAttrs_list PySem.F.slot_list_append PySem.F.type_list_append mt_append (pv 5) (pa_cons (pe_lamT TB rfl hmT huT (lamS_by (sc := defScope s_law_of_gears) (by decide +kernel)) rfl) pa_nil)))
 (psk_cons (ps_expr (kpe_bm (K := K) rfl PySem.F.plainAttrs_list PySem.F.slot_list_append PySem.F.type_list_append mt_append (pv 5) (pa_cons (pe_lamT TB rfl hmT huT (lamS_by (sc := defScope s_law_of_gears) (by decide +kernel)) rfl) pa_nil)))
 (psk_ret (i := 5) rfl (by first | exact Or.inl rfl | exact Or.inr (Or.inl rfl)) rfl (fun _ => rfl))))))))))), ?_⟩
    refine r_start (σ' := [some (.ref g), some (.ref z), some (.ref m), some (.ref o), some (.ref k), none]) rfl ?_
    have step : ∀ {H0 H : Hp} {l : Addr} {es : List Expr}, WkG TT H0 H l → Tabs TT H := fun G => G.tabs
    walk_at "go"
    refine ⟨hT, fun f0 c0 H1 R1 nn1 T1 n0 hf0 hc0 => ?_⟩
    walk_at "go"
    intro l nl
    walk_at "go"
    obtain ⟨W1, G1⟩ := wk_first (cells := cellsFrom (s.heap.objs.size + 1) (defScope s_law_of_gears).names []) (q := qWk) (e := wkE 0) R1 T1 nn1 hf0 hc0 nl
    generalize upd H1 l (.lst [.ref f0]) = H1' at W1 G1 ⊢
    refine ⟨W1.ty, ?_⟩
    walk_at "go"
    refine ⟨G1.tabs, fun f1 c1 H2 R2 nn2 T2 n1 hf1 hc1 => ?_⟩
    walk_at "go"
    refine wk_app (e := wkE 1) W1 G1 R2 T2 hf1 hc1 (by simp) fun H2' W2 G2 => ?_
    walk_at "go"
    refine ⟨W2.ty, ?_⟩
    walk_at "go"
    refine ⟨G2.tabs, fun f2 c2 H3 R3 nn3 T3 n2 hf2 hc2 => ?_⟩
    walk_at "go"
    refine wk_app (e := wkE 2) W2 G2 R3 T3 hf2 hc2 (by simp) fun H3' W3 G3 => ?_
    walk_at "go"
    refine ⟨W3.ty, ?_⟩
    walk_at "go"
    refine ⟨G3.tabs, fun f3 c3 H4 R4 nn4 T4 n3 hf3 hc3 => ?_⟩
    walk_at "go"
    refine wk_app (e := wkE 3) W3 G3 R4 T4 hf3 hc3 (by simp) fun H4' W4 G4 => ?_
    walk_at "go"
    refine ⟨W4.ty, ?_⟩
    walk_at "go"
    refine ⟨G4.tabs, fun f4 c4 H5 R5 nn5 T5 n4 hf4 hc4 => ?_⟩
    walk_at "go"
    refine wk_app (e := wkE 4) W4 G4 R5 T5 hf4 hc4 (by simp) fun H5' W5 G5 => ?_
    walk_at "go"
    refine ⟨W5.ty, ?_⟩
    walk_at "go"
    refine ⟨G5.tabs, fun f5 c5 H6 R6 nn6 T6 n5 hf5 hc5 => ?_⟩
    walk_at "go"
    refine wk_app (e := wkE 5) W5 G5 R6 T6 hf5 hc5 (by simp) fun H6' W6 G6 => ?_
    walk_at "go"
    refine ⟨W6.ty, ?_⟩
    walk_at "go"
    refine ⟨G6.tabs, fun f6 c6 H7 R7 nn7 T7 n6 hf6 hc6 => ?_⟩
    walk_at "go"
    refine wk_app (e := wkE 6) W6 G6 R7 T7 hf6 hc6 (by simp) fun H7' W7 G7 => ?_
    walk_at "go"
    refine ⟨W7.ty, ?_⟩
    walk_at "go"
    refine ⟨G7.tabs, fun f7 c7 H8 R8 nn8 T8 n7 hf7 hc7 => ?_⟩
    walk_at "go"
    refine wk_app (e := wkE 7) W7 G7 R8 T8 hf7 hc7 (by simp) fun H8' W8 G8 => ?_
    walk_at "go"
    refine ⟨W8.ty, ?_⟩
    walk_at "go"
    refine ⟨G8.tabs, fun f8 c8 H9 R9 nn9 T9 n8 hf8 hc8 => ?_⟩
    walk_at "go"
    refine wk_app (e := wkE 8) W8 G8 R9 T9 hf8 hc8 (by simp) fun H9' W9 G9 => ?_
    walk_at "go"
    refine ⟨l, rfl, fun H' GR => ?_⟩
    obtain ⟨fs, h1, h2, h3⟩ := W9.ex
    refine hk l fs H' G9.new (fun b o e n => GR.keep _ _ (G9.ext b o e n)) (G9.tabs.ext GR.keep) (GR.keep _ _ h1) (by rw [h2]; rfl) fun i f hf => ?_
    have hi : i < 9 := by
      have := (List.getElem?_eq_some_iff.mp hf).1
      rw [h2] at this
      exact this
    obtain ⟨c', a, b⟩ := h3 i f (wkE i) hf (match i, hi with
      | 0, _ => rfl
      | 1, _ => rfl
      | 2, _ => rfl
      | 3, _ => rfl
      | 4, _ => rfl
      | 5, _ => rfl
      | 6, _ => rfl
      | 7, _ => rfl
      | 8, _ => rfl
      | n + 9, h => absurd h (by omega))
    obtain ⟨s1, s2, s3⟩ := wk_scopes i hi
    rw [List.all_eq_true] at s1 s2
    refine ⟨_, c', GR.keep _ _ a, GR.keep _ _ b, GR.cells (lamS_by s3) wk_nofree (fun y hy e => ?_) (fun y hy => of_decide_eq_true (s2 y hy)) (wk_len i) (wk_val rfl rfl rfl rfl rfl i hi)⟩
    have q := s1 y hy
    rw [e] at q
    simpa using q
end
end Rd

namespace Rd
open PySem PySem.Spec PyProof.Rows L2 LamX NdefX
def tEor (t u : TE) : TE := fun σ H Q => t σ H Q ∨ u σ H Q
theorem pe_or {X : Cx} {e : Expr} {t u : TE} (h1 : PE X e t) (h2 : PE X e u) : PE X e (tEor t u) := ⟨fun pins s σ H Q I h => h.elim (h1.run pins s σ H Q I) (h2.run pins s σ H Q I)⟩
/-- what a kept lambda's callee lets out is let out by the lambda -/
theorem passN {P : Program} {w : World} {K : PySem.W.Frag} {mg : Str → Option Value} {base : Heap} {N : List Str} {F : NF} {f : Addr} {A : Around} {outer : List Env} {s : Shared} {H : Hp} {E : XK} : Passes (L2.CX P w) (ncx (L2.CX P w) P w K mg base N F f A outer s H E) E :=
  passes_call (X := ncx (L2.CX P w) P w K mg base N F f A outer s H E) (W := fun cls d _ H => E cls d H) (takes_of rfl rfl rfl rfl) fun _ _ _ _ h => h
theorem r_stE {t : TE} {σ σ' : L2.St} {H : Hp} {Q : VK} (e : σ = σ') (k : t σ' H Q) : t σ H Q := by rw [e]; exact k
theorem r_eorL {t u : TE} {σ : L2.St} {H : Hp} {Q : VK} (k : t σ H Q) : tEor t u σ H Q := .inl k
theorem r_eorR {t u : TE} {σ : L2.St} {H : Hp} {Q : VK} (k : u σ H Q) : tEor t u σ H Q := .inr k
section
variable {cs : List Addr} {H H' : Hp}
theorem hide_at {b : Addr} {o : HO} (C : CellsAll cs H) (e : H b = some o) (n : ∀ ob x, o ≠ .frz ob (.own x)) : hideC cs H b = some o := by
  rw [hide_out (C.no e n)]
  exact e
theorem back_at {b : Addr} {o : HO} (n : ∀ c ∈ cs, H' c = none) (e : H' b = some o) : backC cs H H' b = some o := by
  rw [back_out (fun z => by rw [n b z] at e; cases e)]
  exact e
theorem back_same (s : Same (hideC cs H) H') : Same H (backC cs H H') := fun b o e => by
  by_cases hb : b ∈ cs
  · rw [back_in hb]
    exact e
  · rw [back_out hb]
    exact s _ _ (by rw [hide_out hb]; exact e)
theorem back_ext (s : ExtN (hideC cs H) H') : ExtN H (backC cs H H') := fun b o e t => by
  by_cases hb : b ∈ cs
  · rw [back_in hb]
    exact e
  · rw [back_out hb]
    exact s _ _ (by rw [hide_out hb]; exact e) t
theorem hide_tabs {T : List (Addr × Str)} (C : CellsAll cs H) (t : Tabs T H) : Tabs T (hideC cs H) := fun p hp => by
  obtain ⟨ps, h1, h2, h3⟩ := t p hp
  refine ⟨ps, hide_at C h1 (fun _ _ z => nomatch z), h2, fun pos cv hc => ?_⟩
  obtain ⟨c, e1, e2⟩ := h3 pos cv hc
  exact ⟨c, e1, hide_at C e2 (fun _ _ z => nomatch z)⟩
theorem back_tabs {T : List (Addr × Str)} (n : ∀ c ∈ cs, H' c = none) (t : Tabs T H') : Tabs T (backC cs H H') := fun p hp => by
  obtain ⟨ps, h1, h2, h3⟩ := t p hp
  refine ⟨ps, back_at n h1, h2, fun pos cv hc => ?_⟩
  obtain ⟨c, e1, e2⟩ := h3 pos cv hc
  exact ⟨c, e1, back_at n e2⟩
theorem rf_hide {D : Addr} {E : XK} (h : Rf D E H) : Rf D (fun cls d H' => (∀ c ∈ cs, H' c = none) → E cls d (backC cs H H')) (hideC cs H) := fun _ s _ => h _ (back_same s)
end
/-- no text -/
def NotS (K : PySem.W.Frag) (H : Hp) (v : V) : Prop := ∃ t, TyX K H v t ∧ PySem.W.kitOne K t (.type "str") = some false
theorem r_notS {K : PySem.W.Frag} {H : Hp} {Q : VK} {v : V} (h : NotS K H v) (k : Q (.bl false) H) : rIsiA K [v, .ty "str"] H Q := by
  obtain ⟨t, ty, e⟩ := h
  exact .inl ⟨v, .ty "str", t, .type "str", false, rfl, .ty "str", ty, e, k⟩
theorem ns_tup {K : PySem.W.Frag} {H : Hp} {a : Addr} {xs : List V} (e : H a = some (.tup xs)) : NotS K H (.ref a) := ⟨_, .base (.tup e), kit_ty (by decide +kernel)⟩
theorem ns_lst {K : PySem.W.Frag} {H : Hp} {a : Addr} {xs : List V} (e : H a = some (.lst xs)) : NotS K H (.ref a) := ⟨_, .base (.lst e), kit_ty (by decide +kernel)⟩
theorem ns_int {K : PySem.W.Frag} {H : Hp} {i : Int} : NotS K H (.int i) := ⟨_, .base (.int i), kit_ty (by decide +kernel)⟩
theorem ns_non {K : PySem.W.Frag} {H : Hp} : NotS K H .non := ⟨_, .base .non, kit_ty (by decide +kernel)⟩
/-- what isinstance asks of an own class's instance -/
structure InsT (K : PySem.W.Frag) (C : Addr) : Prop where
  ha : PySem.W.findIn K (.ref C) "__class__" = some (some (.builtin "object.__class__"))
  hn : PySem.W.specialIn K (.builtin "object.__class__") "__get__" = some (some (.builtin "getset_descriptor.__get__"))
  ht : PySem.W.takesIn K (.builtin "object.__class__") = some true
  hm : PySem.W.mroIn K C (.type "object") = some true
  ns : PySem.W.kitOne K (.ref C) (.type "str") = some false
/-- what the works are handed -/
structure WkH (H : Hp) (g z m o k : Addr) (r p : Int) (x : Int × Int) (ms gs ks : List Int) : Prop where
  hg : H g = some (.tup [.int r, .int p])
  hz : H z = some (.tup [.int x.1, .int x.2])
  hm : H m = some (.lst (ms.map V.int))
  ho : H o = some (.lst (gs.map V.int))
  hk : H k = some (.tup (ks.map V.int))
  l1 : ms.length ≤ 500
  l2 : gs.length ≤ 500
  l3 : ks.length ≤ 60
  l4 : 0 < gs.length
theorem WkH.hide {cs : List Addr} {H : Hp} {g z m o k : Addr} {r p : Int} {x : Int × Int} {ms gs ks : List Int} (h : WkH H g z m o k r p x ms gs ks) (C : CellsAll cs H) : WkH (hideC cs H) g z m o k r p x ms gs ks :=
  ⟨hide_at C h.hg (fun _ _ z => nomatch z), hide_at C h.hz (fun _ _ z => nomatch z), hide_at C h.hm (fun _ _ z => nomatch z), hide_at C h.ho (fun _ _ z => nomatch z), hide_at C h.hk (fun _ _ z => nomatch z), h.l1, h.l2, h.l3, h.l4⟩
theorem WkH.mono {H H' : Hp} {g z m o k : Addr} {r p : Int} {x : Int × Int} {ms gs ks : List Int} (h : WkH H g z m o k r p x ms gs ks) (s : ExtN H H') : WkH H' g z m o k r p x ms gs ks :=
  ⟨ExtN.at_tup s h.hg, ExtN.at_tup s h.hz, ExtN.at_lst s h.hm, ExtN.at_lst s h.ho, ExtN.at_tup s h.hk, h.l1, h.l2, h.l3, h.l4⟩
theorem WkH.first {H : Hp} {g z m o k : Addr} {r p : Int} {x : Int × Int} {ms gs ks : List Int} (h : WkH H g z m o k r p x ms gs ks) : atI (gs.map V.int) 0 = some (.int (gs.headD 0)) := by
  match gs, h.l4 with
  | y :: _, _ => exact at_of (j := 0) rfl rfl
theorem wk_nsc : ∀ i < 9, nscB (wkFr i) [] (wkFr i) (laSc (wkE i)) = true := by decide +kernel
def WhyA (cG cS c : Addr) (r p : Int) (x : Int × Int) (bad : Prop) (D : Addr) : Prop := (¬ GearOk r p ∧ D = cG) ∨ (GearOk r p ∧ ¬ Stg p x ∧ D = cS) ∨ (GearOk r p ∧ Stg p x ∧ bad ∧ D = c)
def WhyB (cG c : Addr) (r p : Int) (bad : Prop) (D : Addr) : Prop := (¬ GearOk r p ∧ D = cG) ∨ (GearOk r p ∧ bad ∧ D = c)
theorem WhyA.ref {cG cS c : Addr} {r p : Int} {x : Int × Int} {bad bad' : Prop} {D : Addr} {E : XK} {H : Hp} (h : WhyA cG cS c r p x bad D) (i : bad → bad') (k : Rf D E H) : Ref cG cS c r p x bad' E H := by
  rcases h with ⟨a, rfl⟩ | ⟨a, b, rfl⟩ | ⟨a, b, d, rfl⟩
  · exact .inl ⟨a, k⟩
  · exact .inr (.inl ⟨a, b, k⟩)
  · exact .inr (.inr ⟨a, b, i d, k⟩)
theorem WhyB.ref {cG c : Addr} {r p : Int} {bad bad' : Prop} {D : Addr} {E : XK} {H : Hp} (h : WhyB cG c r p bad D) (i : bad → bad') (k : Rf D E H) : (¬ GearOk r p ∧ Rf cG E H) ∨ (GearOk r p ∧ bad' ∧ Rf c E H) := by
  rcases h with ⟨a, rfl⟩ | ⟨a, b, rfl⟩
  · exact .inl ⟨a, k⟩
  · exact .inr ⟨a, i b, k⟩
def WhyK (cG cS cK : Addr) (r p : Int) (x : Int × Int) (ks : List Int) (D : Addr) : Prop := (¬ GearOk r p ∧ D = cG) ∨ (GearOk r p ∧ ¬ Marks r ks ∧ D = cK) ∨ (GearOk r p ∧ Marks r ks ∧ ¬ Stg p x ∧ D = cS)
/-- why the i-th work is refused with an error of the class at D -/
def Why (cG cS cM cO cK : Addr) (r p : Int) (x : Int × Int) (ms gs ks : List Int) : Nat → Addr → Prop
  | 0 => WhyA cG cS cM r p x (100 < ms.length)
  | 1 => WhyA cG cS cM r p x (100 < ms.length)
  | 2 => WhyA cG cS cO r p x (¬ (0 ≤ gs.headD 0 ∧ gs.headD 0 < r))
  | 3 => WhyA cG cS cO r p x ((8 : Int) < gs.length ∨ outs r gs ≠ [])
  | 4 => WhyA cG cS cO r p x ((5 : Int) < gs.length ∨ outs r gs ≠ [])
  | 5 => WhyB cG cM r p (100 < ms.length)
  | 6 => WhyB cG cM r p (100 < ms.length)
  | 7 => WhyK cG cS cK r p x ks
  | _ => WhyB cG cK r p (¬ Marks r ks)
section
variable {P : Program} {w : World} {K : PySem.W.Frag} {mg : Str → Option Value} {base : Heap} {cG cS cM cO cK C D : Addr} {H : Hp} {f g z m o k : Addr} {r p : Int} {x : Int × Int} {ms gs ks : List Int} {TT : List (Addr × Str)}
/-- the lambda at f lets an error of the class at D out -/
def Refuses (P : Program) (w : World) (K : PySem.W.Frag) (mg : Str → Option Value) (base : Heap) (q : Str) (H : Hp) (f D : Addr) : Prop := ∃ (c' : Addr) (tl : XK → Hp → VK → Prop), H c' = some (CodeO c' q) ∧ LamOk P w K mg base 14 f tl ∧ ∀ (E : XK) (Q : VK), Rf D E H → tl E H Q
/-- the lambda at f tells something that is no text -/
def Gives (P : Program) (w : World) (K : PySem.W.Frag) (mg : Str → Option Value) (base : Heap) (q : Str) (TT : List (Addr × Str)) (H : Hp) (f : Addr) : Prop := ∃ (c' : Addr) (tl : XK → Hp → VK → Prop), H c' = some (CodeO c' q) ∧ LamOk P w K mg base 14 f tl ∧ ∀ (E : XK) (Q : VK), (∀ v H', ExtN H H' → Tabs TT H' → NotS K H' v → Q v H') → tl E H Q
theorem setV_ns {v : V} {H' : Hp} (h : SetV p ms v) : NotS K H' v := by
  rcases h with ⟨j, rfl, _⟩ | ⟨rfl, _⟩
  · exact ns_int
  · exact ns_non
theorem wk_refuse0 (H_stands : Has P w K mg base CX0 3 "stands" (spStands K)) (HX_stands : Has P w K mg base (L2.CX P w) 3 "stands" (spStX K cG cS cM)) (hL : LamAt H f qWk (wkE 0) (wkFr 0) (wkWs g z m o k 0)) (h : WkH H g z m o k r p x ms gs ks) (why : Why cG cS cM cO cK r p x ms gs ks 0 D) : Refuses P w K mg base qWk H f D := by
  obtain ⟨cl, c', h1, h2, h3⟩ := hL
  have hh := h.hide h3.all
  have hG := hh.hg
  have hO := hh.ho
  have h0 := hh.first
  refine ⟨c', _, h2, lamOk_dead (f := f) (F := LF.of qWk (wkE 0) cl c') (fr := wkFr 0) (ws := wkWs g z m o k 0) (k := 13) (nscope_by (wk_nsc 0 (by decide))) (fun _ _ => rfl) (fun A outer s H E hr => (pe_or (pe_has H_stands hr (by omega) rfl pass0 (pa_cons (pv 0) (pa_cons (pv 1) (pa_cons (pv 2) pa_nil)))) (pe_has HX_stands hr (by omega) rfl passN (pa_cons (pv 0) (pa_cons (pv 1) (pa_cons (pv 2) pa_nil)))))), fun E Q hE => ⟨h1, h2, h3, ?_⟩⟩
  rw [show (LF.of qWk (wkE 0) cl c').cl = cl from rfl]
  have kE := rf_hide (cs := cl.map (·.2)) hE
  refine r_stE (σ' := [some (.ref g), some (.ref z), some (.ref m)]) rfl ?_
  refine r_eorR ?_
  walk_at "go"
  exact ⟨g, r, p, z, x, m, ms.map V.int, rfl, hh.hg, hh.hz, SqL.of hh.hm, why.ref (fun b => by rw [List.length_map]; exact b) kE⟩
theorem wk_give0 (H_stands : Has P w K mg base CX0 3 "stands" (spStands K)) (HX_stands : Has P w K mg base (L2.CX P w) 3 "stands" (spStX K cG cS cM)) (hL : LamAt H f qWk (wkE 0) (wkFr 0) (wkWs g z m o k 0)) (h : WkH H g z m o k r p x ms gs ks) (ok : GearOk r p) (st : Stg p x) (l1 : ms.length ≤ 100) (l2 : gs.length ≤ 5) (io : ∀ y ∈ gs, 0 ≤ y ∧ y < r) (M : Marks r ks) (hT : Tabs TT H) : Gives P w K mg base qWk TT H f := by
  obtain ⟨cl, c', h1, h2, h3⟩ := hL
  have hh := h.hide h3.all
  have hG := hh.hg
  have hO := hh.ho
  have h0 := hh.first
  have G : GearAt (hideC (cl.map (·.2)) H) g r p := ⟨hG, ok.r2, ok.r6, ok.p0, ok.p6⟩
  have i0 : 0 ≤ gs.headD 0 ∧ gs.headD 0 < r := by
    match gs, h.l4, io with
    | y :: _, _, io => exact io y List.mem_cons_self
  refine ⟨c', _, h2, lamOk_dead (f := f) (F := LF.of qWk (wkE 0) cl c') (fr := wkFr 0) (ws := wkWs g z m o k 0) (k := 13) (nscope_by (wk_nsc 0 (by decide))) (fun _ _ => rfl) (fun A outer s H E hr => (pe_or (pe_has H_stands hr (by omega) rfl pass0 (pa_cons (pv 0) (pa_cons (pv 1) (pa_cons (pv 2) pa_nil)))) (pe_has HX_stands hr (by omega) rfl passN (pa_cons (pv 0) (pa_cons (pv 1) (pa_cons (pv 2) pa_nil)))))), fun E Q kQ => ⟨h1, h2, h3, ?_⟩⟩
  rw [show (LF.of qWk (wkE 0) cl c').cl = cl from rfl]
  have hT' := hide_tabs h3.all hT
  refine r_stE (σ' := [some (.ref g), some (.ref z), some (.ref m)]) rfl ?_
  refine r_eorL ?_
  walk_at "go"
  refine spStands_i G hh.hz st (SqL.of hh.hm) l1 fun q H' s' hq n => ?_
  exact kQ _ _ (ExtN.of (back_same s')) (back_tabs n (hT'.ext s')) (ns_tup (back_at n hq))
theorem wk_refuse1 (H_trail : Has P w K mg base CX0 3 "trail" (spTrail K)) (HX_trail : Has P w K mg base (L2.CX P w) 3 "trail" (spStX K cG cS cM)) (hL : LamAt H f qWk (wkE 1) (wkFr 1) (wkWs g z m o k 1)) (h : WkH H g z m o k r p x ms gs ks) (why : Why cG cS cM cO cK r p x ms gs ks 1 D) : Refuses P w K mg base qWk H f D := by
  obtain ⟨cl, c', h1, h2, h3⟩ := hL
  have hh := h.hide h3.all
  have hG := hh.hg
  have hO := hh.ho
  have h0 := hh.first
  refine ⟨c', _, h2, lamOk_dead (f := f) (F := LF.of qWk (wkE 1) cl c') (fr := wkFr 1) (ws := wkWs g z m o k 1) (k := 13) (nscope_by (wk_nsc 1 (by decide))) (fun _ _ => rfl) (fun A outer s H E hr => (pe_or (pe_has H_trail hr (by omega) rfl pass0 (pa_cons (pv 0) (pa_cons (pv 1) (pa_cons (pv 2) pa_nil)))) (pe_has HX_trail hr (by omega) rfl passN (pa_cons (pv 0) (pa_cons (pv 1) (pa_cons (pv 2) pa_nil)))))), fun E Q hE => ⟨h1, h2, h3, ?_⟩⟩
  rw [show (LF.of qWk (wkE 1) cl c').cl = cl from rfl]
  have kE := rf_hide (cs := cl.map (·.2)) hE
  refine r_stE (σ' := [some (.ref g), some (.ref z), some (.ref m)]) rfl ?_
  refine r_eorR ?_
  walk_at "go"
  exact ⟨g, r, p, z, x, m, ms.map V.int, rfl, hh.hg, hh.hz, SqL.of hh.hm, why.ref (fun b => by rw [List.length_map]; exact b) kE⟩
theorem wk_give1 (H_trail : Has P w K mg base CX0 3 "trail" (spTrail K)) (HX_trail : Has P w K mg base (L2.CX P w) 3 "trail" (spStX K cG cS cM)) (hL : LamAt H f qWk (wkE 1) (wkFr 1) (wkWs g z m o k 1)) (h : WkH H g z m o k r p x ms gs ks) (ok : GearOk r p) (st : Stg p x) (l1 : ms.length ≤ 100) (l2 : gs.length ≤ 5) (io : ∀ y ∈ gs, 0 ≤ y ∧ y < r) (M : Marks r ks) (hT : Tabs TT H) : Gives P w K mg base qWk TT H f := by
  obtain ⟨cl, c', h1, h2, h3⟩ := hL
  have hh := h.hide h3.all
  have hG := hh.hg
  have hO := hh.ho
  have h0 := hh.first
  have G : GearAt (hideC (cl.map (·.2)) H) g r p := ⟨hG, ok.r2, ok.r6, ok.p0, ok.p6⟩
  have i0 : 0 ≤ gs.headD 0 ∧ gs.headD 0 < r := by
    match gs, h.l4, io with
    | y :: _, _, io => exact io y List.mem_cons_self
  refine ⟨c', _, h2, lamOk_dead (f := f) (F := LF.of qWk (wkE 1) cl c') (fr := wkFr 1) (ws := wkWs g z m o k 1) (k := 13) (nscope_by (wk_nsc 1 (by decide))) (fun _ _ => rfl) (fun A outer s H E hr => (pe_or (pe_has H_trail hr (by omega) rfl pass0 (pa_cons (pv 0) (pa_cons (pv 1) (pa_cons (pv 2) pa_nil)))) (pe_has HX_trail hr (by omega) rfl passN (pa_cons (pv 0) (pa_cons (pv 1) (pa_cons (pv 2) pa_nil)))))), fun E Q kQ => ⟨h1, h2, h3, ?_⟩⟩
  rw [show (LF.of qWk (wkE 1) cl c').cl = cl from rfl]
  have hT' := hide_tabs h3.all hT
  refine r_stE (σ' := [some (.ref g), some (.ref z), some (.ref m)]) rfl ?_
  refine r_eorL ?_
  walk_at "go"
  refine spTrail_i G hh.hz st (SqL.of hh.hm) l1 fun q as H' nq s' hq ht n => ?_
  exact kQ _ _ (ExtN.of (back_same s')) (back_tabs n (hT'.ext s')) (ns_lst (back_at n hq))
theorem wk_refuse2 (H_to : Has P w K mg base CX0 4 "to" (spTo K TT)) (HX_to : Has P w K mg base (L2.CX P w) 4 "to" (spToX cG cS cO)) (hL : LamAt H f qWk (wkE 2) (wkFr 2) (wkWs g z m o k 2)) (h : WkH H g z m o k r p x ms gs ks) (why : Why cG cS cM cO cK r p x ms gs ks 2 D) : Refuses P w K mg base qWk H f D := by
  obtain ⟨cl, c', h1, h2, h3⟩ := hL
  have hh := h.hide h3.all
  have hG := hh.hg
  have hO := hh.ho
  have h0 := hh.first
  refine ⟨c', _, h2, lamOk_dead (f := f) (F := LF.of qWk (wkE 2) cl c') (fr := wkFr 2) (ws := wkWs g z m o k 2) (k := 13) (nscope_by (wk_nsc 2 (by decide))) (fun _ _ => rfl) (fun A outer s H E hr => (pe_or (pe_has H_to hr (by omega) rfl pass0 (pa_cons (pv 0) (pa_cons (pv 1) (pa_cons (pe_ix (kix (K := K) rfl) (pv 2) pe_int (fun _ _ => rfl)) pa_nil)))) (pe_has HX_to hr (by omega) rfl passN (pa_cons (pv 0) (pa_cons (pv 1) (pa_cons (pe_ix (kix (K := K) rfl) (pv 2) pe_int (fun _ _ => rfl)) pa_nil)))))), fun E Q hE => ⟨h1, h2, h3, ?_⟩⟩
  rw [show (LF.of qWk (wkE 2) cl c').cl = cl from rfl]
  have kE := rf_hide (cs := cl.map (·.2)) hE
  refine r_stE (σ' := [some (.ref g), some (.ref z), some (.ref o)]) rfl ?_
  refine r_eorR ?_
  walk_at "go"
  exact ⟨g, r, p, z, x, gs.headD 0, rfl, hh.hg, hh.hz, why.ref id kE⟩
theorem wk_give2 (H_to : Has P w K mg base CX0 4 "to" (spTo K TT)) (HX_to : Has P w K mg base (L2.CX P w) 4 "to" (spToX cG cS cO)) (hL : LamAt H f qWk (wkE 2) (wkFr 2) (wkWs g z m o k 2)) (h : WkH H g z m o k r p x ms gs ks) (ok : GearOk r p) (st : Stg p x) (l1 : ms.length ≤ 100) (l2 : gs.length ≤ 5) (io : ∀ y ∈ gs, 0 ≤ y ∧ y < r) (M : Marks r ks) (hT : Tabs TT H) : Gives P w K mg base qWk TT H f := by
  obtain ⟨cl, c', h1, h2, h3⟩ := hL
  have hh := h.hide h3.all
  have hG := hh.hg
  have hO := hh.ho
  have h0 := hh.first
  have G : GearAt (hideC (cl.map (·.2)) H) g r p := ⟨hG, ok.r2, ok.r6, ok.p0, ok.p6⟩
  have i0 : 0 ≤ gs.headD 0 ∧ gs.headD 0 < r := by
    match gs, h.l4, io with
    | y :: _, _, io => exact io y List.mem_cons_self
  refine ⟨c', _, h2, lamOk_dead (f := f) (F := LF.of qWk (wkE 2) cl c') (fr := wkFr 2) (ws := wkWs g z m o k 2) (k := 13) (nscope_by (wk_nsc 2 (by decide))) (fun _ _ => rfl) (fun A outer s H E hr => (pe_or (pe_has H_to hr (by omega) rfl pass0 (pa_cons (pv 0) (pa_cons (pv 1) (pa_cons (pe_ix (kix (K := K) rfl) (pv 2) pe_int (fun _ _ => rfl)) pa_nil)))) (pe_has HX_to hr (by omega) rfl passN (pa_cons (pv 0) (pa_cons (pv 1) (pa_cons (pe_ix (kix (K := K) rfl) (pv 2) pe_int (fun _ _ => rfl)) pa_nil)))))), fun E Q kQ => ⟨h1, h2, h3, ?_⟩⟩
  rw [show (LF.of qWk (wkE 2) cl c').cl = cl from rfl]
  have hT' := hide_tabs h3.all hT
  refine r_stE (σ' := [some (.ref g), some (.ref z), some (.ref o)]) rfl ?_
  refine r_eorL ?_
  walk_at "go"
  refine spTo_i G hh.hz st i0.1 i0.2 hT' fun v H' e' T' fw n => ?_
  exact kQ _ _ (back_ext e') (back_tabs n T') ns_int
theorem wk_refuse3 (H_path : Has P w K mg base CX0 11 "path" (spPath K)) (HX_path : Has P w K mg base (L2.CX P w) 4 "path" (spPaX K cG cS cO 8)) (hL : LamAt H f qWk (wkE 3) (wkFr 3) (wkWs g z m o k 3)) (h : WkH H g z m o k r p x ms gs ks) (why : Why cG cS cM cO cK r p x ms gs ks 3 D) : Refuses P w K mg base qWk H f D := by
  obtain ⟨cl, c', h1, h2, h3⟩ := hL
  have hh := h.hide h3.all
  have hG := hh.hg
  have hO := hh.ho
  have h0 := hh.first
  refine ⟨c', _, h2, lamOk_dead (f := f) (F := LF.of qWk (wkE 3) cl c') (fr := wkFr 3) (ws := wkWs g z m o k 3) (k := 13) (nscope_by (wk_nsc 3 (by decide))) (fun _ _ => rfl) (fun A outer s H E hr => (pe_or (pe_has H_path hr (by omega) rfl pass0 (pa_cons (pv 0) (pa_cons (pv 1) (pa_cons (pv 2) pa_nil)))) (pe_has HX_path hr (by omega) rfl passN (pa_cons (pv 0) (pa_cons (pv 1) (pa_cons (pv 2) pa_nil)))))), fun E Q hE => ⟨h1, h2, h3, ?_⟩⟩
  rw [show (LF.of qWk (wkE 3) cl c').cl = cl from rfl]
  have kE := rf_hide (cs := cl.map (·.2)) hE
  refine r_stE (σ' := [some (.ref g), some (.ref z), some (.ref o)]) rfl ?_
  refine r_eorR ?_
  walk_at "go"
  exact ⟨g, r, p, z, x, o, gs, rfl, hh.hg, hh.hz, SqL.of hh.ho, hh.l2, why.ref id kE⟩
theorem wk_give3 (H_path : Has P w K mg base CX0 11 "path" (spPath K)) (HX_path : Has P w K mg base (L2.CX P w) 4 "path" (spPaX K cG cS cO 8)) (hL : LamAt H f qWk (wkE 3) (wkFr 3) (wkWs g z m o k 3)) (h : WkH H g z m o k r p x ms gs ks) (ok : GearOk r p) (st : Stg p x) (l1 : ms.length ≤ 100) (l2 : gs.length ≤ 5) (io : ∀ y ∈ gs, 0 ≤ y ∧ y < r) (M : Marks r ks) (hT : Tabs TT H) : Gives P w K mg base qWk TT H f := by
  obtain ⟨cl, c', h1, h2, h3⟩ := hL
  have hh := h.hide h3.all
  have hG := hh.hg
  have hO := hh.ho
  have h0 := hh.first
  have G : GearAt (hideC (cl.map (·.2)) H) g r p := ⟨hG, ok.r2, ok.r6, ok.p0, ok.p6⟩
  have i0 : 0 ≤ gs.headD 0 ∧ gs.headD 0 < r := by
    match gs, h.l4, io with
    | y :: _, _, io => exact io y List.mem_cons_self
  refine ⟨c', _, h2, lamOk_dead (f := f) (F := LF.of qWk (wkE 3) cl c') (fr := wkFr 3) (ws := wkWs g z m o k 3) (k := 13) (nscope_by (wk_nsc 3 (by decide))) (fun _ _ => rfl) (fun A outer s H E hr => (pe_or (pe_has H_path hr (by omega) rfl pass0 (pa_cons (pv 0) (pa_cons (pv 1) (pa_cons (pv 2) pa_nil)))) (pe_has HX_path hr (by omega) rfl passN (pa_cons (pv 0) (pa_cons (pv 1) (pa_cons (pv 2) pa_nil)))))), fun E Q kQ => ⟨h1, h2, h3, ?_⟩⟩
  rw [show (LF.of qWk (wkE 3) cl c').cl = cl from rfl]
  have hT' := hide_tabs h3.all hT
  refine r_stE (σ' := [some (.ref g), some (.ref z), some (.ref o)]) rfl ?_
  refine r_eorL ?_
  walk_at "go"
  refine spPath_i G hh.hz st (SqL.of hh.ho) (by omega) io fun a q H' na s' ha _ _ n => ?_
  exact kQ _ _ (ExtN.of (back_same s')) (back_tabs n (hT'.ext s')) (ns_lst (back_at n ha))
theorem wk_refuse4 (H_tour : Has P w K mg base CX0 11 "tour" (spTour K)) (HX_tour : Has P w K mg base (L2.CX P w) 4 "tour" (spPaX K cG cS cO 5)) (hL : LamAt H f qWk (wkE 4) (wkFr 4) (wkWs g z m o k 4)) (h : WkH H g z m o k r p x ms gs ks) (why : Why cG cS cM cO cK r p x ms gs ks 4 D) : Refuses P w K mg base qWk H f D := by
  obtain ⟨cl, c', h1, h2, h3⟩ := hL
  have hh := h.hide h3.all
  have hG := hh.hg
  have hO := hh.ho
  have h0 := hh.first
  refine ⟨c', _, h2, lamOk_dead (f := f) (F := LF.of qWk (wkE 4) cl c') (fr := wkFr 4) (ws := wkWs g z m o k 4) (k := 13) (nscope_by (wk_nsc 4 (by decide))) (fun _ _ => rfl) (fun A outer s H E hr => (pe_or (pe_has H_tour hr (by omega) rfl pass0 (pa_cons (pv 0) (pa_cons (pv 1) (pa_cons (pv 2) pa_nil)))) (pe_has HX_tour hr (by omega) rfl passN (pa_cons (pv 0) (pa_cons (pv 1) (pa_cons (pv 2) pa_nil)))))), fun E Q hE => ⟨h1, h2, h3, ?_⟩⟩
  rw [show (LF.of qWk (wkE 4) cl c').cl = cl from rfl]
  have kE := rf_hide (cs := cl.map (·.2)) hE
  refine r_stE (σ' := [some (.ref g), some (.ref z), some (.ref o)]) rfl ?_
  refine r_eorR ?_
  walk_at "go"
  exact ⟨g, r, p, z, x, o, gs, rfl, hh.hg, hh.hz, SqL.of hh.ho, hh.l2, why.ref id kE⟩
theorem wk_give4 (H_tour : Has P w K mg base CX0 11 "tour" (spTour K)) (HX_tour : Has P w K mg base (L2.CX P w) 4 "tour" (spPaX K cG cS cO 5)) (hL : LamAt H f qWk (wkE 4) (wkFr 4) (wkWs g z m o k 4)) (h : WkH H g z m o k r p x ms gs ks) (ok : GearOk r p) (st : Stg p x) (l1 : ms.length ≤ 100) (l2 : gs.length ≤ 5) (io : ∀ y ∈ gs, 0 ≤ y ∧ y < r) (M : Marks r ks) (hT : Tabs TT H) : Gives P w K mg base qWk TT H f := by
  obtain ⟨cl, c', h1, h2, h3⟩ := hL
  have hh := h.hide h3.all
  have hG := hh.hg
  have hO := hh.ho
  have h0 := hh.first
  have G : GearAt (hideC (cl.map (·.2)) H) g r p := ⟨hG, ok.r2, ok.r6, ok.p0, ok.p6⟩
  have i0 : 0 ≤ gs.headD 0 ∧ gs.headD 0 < r := by
    match gs, h.l4, io with
    | y :: _, _, io => exact io y List.mem_cons_self
  refine ⟨c', _, h2, lamOk_dead (f := f) (F := LF.of qWk (wkE 4) cl c') (fr := wkFr 4) (ws := wkWs g z m o k 4) (k := 13) (nscope_by (wk_nsc 4 (by decide))) (fun _ _ => rfl) (fun A outer s H E hr => (pe_or (pe_has H_tour hr (by omega) rfl pass0 (pa_cons (pv 0) (pa_cons (pv 1) (pa_cons (pv 2) pa_nil)))) (pe_has HX_tour hr (by omega) rfl passN (pa_cons (pv 0) (pa_cons (pv 1) (pa_cons (pv 2) pa_nil)))))), fun E Q kQ => ⟨h1, h2, h3, ?_⟩⟩
  rw [show (LF.of qWk (wkE 4) cl c').cl = cl from rfl]
  have hT' := hide_tabs h3.all hT
  refine r_stE (σ' := [some (.ref g), some (.ref z), some (.ref o)]) rfl ?_
  refine r_eorL ?_
  walk_at "go"
  refine spTour_i G hh.hz st (SqL.of hh.ho) l2 io fun t a q H' nt na s' ht ha _ _ n => ?_
  exact kQ _ _ (ExtN.of (back_same s')) (back_tabs n (hT'.ext s')) (ns_tup (back_at n ht))
theorem wk_refuse5 (H_known : Has P w K mg base CX0 4 "known" (spKnown K)) (HX_known : Has P w K mg base (L2.CX P w) 2 "known" (spKnX K cG cM)) (hL : LamAt H f qWk (wkE 5) (wkFr 5) (wkWs g z m o k 5)) (h : WkH H g z m o k r p x ms gs ks) (why : Why cG cS cM cO cK r p x ms gs ks 5 D) : Refuses P w K mg base qWk H f D := by
  obtain ⟨cl, c', h1, h2, h3⟩ := hL
  have hh := h.hide h3.all
  have hG := hh.hg
  have hO := hh.ho
  have h0 := hh.first
  refine ⟨c', _, h2, lamOk_dead (f := f) (F := LF.of qWk (wkE 5) cl c') (fr := wkFr 5) (ws := wkWs g z m o k 5) (k := 13) (nscope_by (wk_nsc 5 (by decide))) (fun _ _ => rfl) (fun A outer s H E hr => (pe_or (pe_has H_known hr (by omega) rfl pass0 (pa_cons (pv 0) (pa_cons (pv 1) pa_nil))) (pe_has HX_known hr (by omega) rfl passN (pa_cons (pv 0) (pa_cons (pv 1) pa_nil))))), fun E Q hE => ⟨h1, h2, h3, ?_⟩⟩
  rw [show (LF.of qWk (wkE 5) cl c').cl = cl from rfl]
  have kE := rf_hide (cs := cl.map (·.2)) hE
  refine r_stE (σ' := [some (.ref g), some (.ref m)]) rfl ?_
  refine r_eorR ?_
  walk_at "go"
  exact ⟨g, r, p, m, ms.map V.int, rfl, hh.hg, SqL.of hh.hm, why.ref (fun b => by rw [List.length_map]; exact b) kE⟩
theorem wk_give5 (H_known : Has P w K mg base CX0 4 "known" (spKnown K)) (HX_known : Has P w K mg base (L2.CX P w) 2 "known" (spKnX K cG cM)) (hL : LamAt H f qWk (wkE 5) (wkFr 5) (wkWs g z m o k 5)) (h : WkH H g z m o k r p x ms gs ks) (ok : GearOk r p) (st : Stg p x) (l1 : ms.length ≤ 100) (l2 : gs.length ≤ 5) (io : ∀ y ∈ gs, 0 ≤ y ∧ y < r) (M : Marks r ks) (hT : Tabs TT H) : Gives P w K mg base qWk TT H f := by
  obtain ⟨cl, c', h1, h2, h3⟩ := hL
  have hh := h.hide h3.all
  have hG := hh.hg
  have hO := hh.ho
  have h0 := hh.first
  have G : GearAt (hideC (cl.map (·.2)) H) g r p := ⟨hG, ok.r2, ok.r6, ok.p0, ok.p6⟩
  have i0 : 0 ≤ gs.headD 0 ∧ gs.headD 0 < r := by
    match gs, h.l4, io with
    | y :: _, _, io => exact io y List.mem_cons_self
  refine ⟨c', _, h2, lamOk_dead (f := f) (F := LF.of qWk (wkE 5) cl c') (fr := wkFr 5) (ws := wkWs g z m o k 5) (k := 13) (nscope_by (wk_nsc 5 (by decide))) (fun _ _ => rfl) (fun A outer s H E hr => (pe_or (pe_has H_known hr (by omega) rfl pass0 (pa_cons (pv 0) (pa_cons (pv 1) pa_nil))) (pe_has HX_known hr (by omega) rfl passN (pa_cons (pv 0) (pa_cons (pv 1) pa_nil))))), fun E Q kQ => ⟨h1, h2, h3, ?_⟩⟩
  rw [show (LF.of qWk (wkE 5) cl c').cl = cl from rfl]
  have hT' := hide_tabs h3.all hT
  refine r_stE (σ' := [some (.ref g), some (.ref m)]) rfl ?_
  refine r_eorL ?_
  walk_at "go"
  refine spKnown_i G (SqL.of hh.hm) l1 fun q H' nq s' hq n => ?_
  exact kQ _ _ (ExtN.of (back_same s')) (back_tabs n (hT'.ext s')) (ns_tup (back_at n hq))
theorem wk_refuse6 (H_settled : Has P w K mg base CX0 4 "settled" (spSettled K)) (HX_settled : Has P w K mg base (L2.CX P w) 2 "settled" (spKnX K cG cM)) (hL : LamAt H f qWk (wkE 6) (wkFr 6) (wkWs g z m o k 6)) (h : WkH H g z m o k r p x ms gs ks) (why : Why cG cS cM cO cK r p x ms gs ks 6 D) : Refuses P w K mg base qWk H f D := by
  obtain ⟨cl, c', h1, h2, h3⟩ := hL
  have hh := h.hide h3.all
  have hG := hh.hg
  have hO := hh.ho
  have h0 := hh.first
  refine ⟨c', _, h2, lamOk_dead (f := f) (F := LF.of qWk (wkE 6) cl c') (fr := wkFr 6) (ws := wkWs g z m o k 6) (k := 13) (nscope_by (wk_nsc 6 (by decide))) (fun _ _ => rfl) (fun A outer s H E hr => (pe_or (pe_has H_settled hr (by omega) rfl pass0 (pa_cons (pv 0) (pa_cons (pv 1) pa_nil))) (pe_has HX_settled hr (by omega) rfl passN (pa_cons (pv 0) (pa_cons (pv 1) pa_nil))))), fun E Q hE => ⟨h1, h2, h3, ?_⟩⟩
  rw [show (LF.of qWk (wkE 6) cl c').cl = cl from rfl]
  have kE := rf_hide (cs := cl.map (·.2)) hE
  refine r_stE (σ' := [some (.ref g), some (.ref m)]) rfl ?_
  refine r_eorR ?_
  walk_at "go"
  exact ⟨g, r, p, m, ms.map V.int, rfl, hh.hg, SqL.of hh.hm, why.ref (fun b => by rw [List.length_map]; exact b) kE⟩
theorem wk_give6 (H_settled : Has P w K mg base CX0 4 "settled" (spSettled K)) (HX_settled : Has P w K mg base (L2.CX P w) 2 "settled" (spKnX K cG cM)) (hL : LamAt H f qWk (wkE 6) (wkFr 6) (wkWs g z m o k 6)) (h : WkH H g z m o k r p x ms gs ks) (ok : GearOk r p) (st : Stg p x) (l1 : ms.length ≤ 100) (l2 : gs.length ≤ 5) (io : ∀ y ∈ gs, 0 ≤ y ∧ y < r) (M : Marks r ks) (hT : Tabs TT H) : Gives P w K mg base qWk TT H f := by
  obtain ⟨cl, c', h1, h2, h3⟩ := hL
  have hh := h.hide h3.all
  have hG := hh.hg
  have hO := hh.ho
  have h0 := hh.first
  have G : GearAt (hideC (cl.map (·.2)) H) g r p := ⟨hG, ok.r2, ok.r6, ok.p0, ok.p6⟩
  have i0 : 0 ≤ gs.headD 0 ∧ gs.headD 0 < r := by
    match gs, h.l4, io with
    | y :: _, _, io => exact io y List.mem_cons_self
  refine ⟨c', _, h2, lamOk_dead (f := f) (F := LF.of qWk (wkE 6) cl c') (fr := wkFr 6) (ws := wkWs g z m o k 6) (k := 13) (nscope_by (wk_nsc 6 (by decide))) (fun _ _ => rfl) (fun A outer s H E hr => (pe_or (pe_has H_settled hr (by omega) rfl pass0 (pa_cons (pv 0) (pa_cons (pv 1) pa_nil))) (pe_has HX_settled hr (by omega) rfl passN (pa_cons (pv 0) (pa_cons (pv 1) pa_nil))))), fun E Q kQ => ⟨h1, h2, h3, ?_⟩⟩
  rw [show (LF.of qWk (wkE 6) cl c').cl = cl from rfl]
  have hT' := hide_tabs h3.all hT
  refine r_stE (σ' := [some (.ref g), some (.ref m)]) rfl ?_
  refine r_eorL ?_
  walk_at "go"
  refine spSettled_i G (SqL.of hh.hm) l1 fun v H' s' hv n => ?_
  refine kQ _ _ (ExtN.of (back_same s')) (back_tabs n (hT'.ext s')) ?_
  exact setV_ns hv
theorem wk_refuse7 (HK_Keeper : HasMk P w K mg base CX0 C 3 "Keeper" (spInit C)) (HKX_Keeper : HasMk P w K mg base (L2.CX P w) C 3 "Keeper" (spInX cG cK cS)) (hL : LamAt H f qWk (wkE 7) (wkFr 7) (wkWs g z m o k 7)) (h : WkH H g z m o k r p x ms gs ks) (why : Why cG cS cM cO cK r p x ms gs ks 7 D) : Refuses P w K mg base qWk H f D := by
  obtain ⟨cl, c', h1, h2, h3⟩ := hL
  have hh := h.hide h3.all
  have hG := hh.hg
  have hO := hh.ho
  have h0 := hh.first
  refine ⟨c', _, h2, lamOk_dead (f := f) (F := LF.of qWk (wkE 7) cl c') (fr := wkFr 7) (ws := wkWs g z m o k 7) (k := 13) (nscope_by (wk_nsc 7 (by decide))) (fun _ _ => rfl) (fun A outer s H E hr => (pe_or (pe_hasMk HK_Keeper hr (by omega) rfl pass0 (pa_cons (pv 0) (pa_cons (pv 1) (pa_cons (pv 2) pa_nil)))) (pe_hasMk HKX_Keeper hr (by omega) rfl passN (pa_cons (pv 0) (pa_cons (pv 1) (pa_cons (pv 2) pa_nil)))))), fun E Q hE => ⟨h1, h2, h3, ?_⟩⟩
  rw [show (LF.of qWk (wkE 7) cl c').cl = cl from rfl]
  have kE := rf_hide (cs := cl.map (·.2)) hE
  refine r_stE (σ' := [some (.ref g), some (.ref k), some (.ref z)]) rfl ?_
  refine r_eorR ?_
  walk_at "go"
  refine r_make ?_
  walk_at "go"
  intro q dx nq ndx ne
  have sq : Same (hideC (cl.map (·.2)) H) (upd (upd (hideC (cl.map (·.2)) H) dx (.own q)) q (.ins C dx [])) := fun b o' e => by
    rw [upd_ne (ne_of_none e nq), upd_ne (ne_of_none e ndx)]
    exact e
  refine ⟨q, g, r, p, k, ks, z, x, rfl, sq _ _ hh.hg, sq _ _ hh.hk, hh.l3, sq _ _ hh.hz, ?_⟩
  rcases why with ⟨a, rfl⟩ | ⟨a, b, rfl⟩ | ⟨a, b, d, rfl⟩
  · exact .inl ⟨a, kE.later sq⟩
  · exact .inr (.inl ⟨a, b, kE.later sq⟩)
  · exact .inr (.inr ⟨a, b, d, kE.later sq⟩)
theorem wk_give7 (T : KTxt K C) (IT : InsT K C) (HK_Keeper : HasMk P w K mg base CX0 C 3 "Keeper" (spInit C)) (HKX_Keeper : HasMk P w K mg base (L2.CX P w) C 3 "Keeper" (spInX cG cK cS)) (hL : LamAt H f qWk (wkE 7) (wkFr 7) (wkWs g z m o k 7)) (h : WkH H g z m o k r p x ms gs ks) (ok : GearOk r p) (st : Stg p x) (l1 : ms.length ≤ 100) (l2 : gs.length ≤ 5) (io : ∀ y ∈ gs, 0 ≤ y ∧ y < r) (M : Marks r ks) (hT : Tabs TT H) : Gives P w K mg base qWk TT H f := by
  obtain ⟨cl, c', h1, h2, h3⟩ := hL
  have hh := h.hide h3.all
  have hG := hh.hg
  have hO := hh.ho
  have h0 := hh.first
  have G : GearAt (hideC (cl.map (·.2)) H) g r p := ⟨hG, ok.r2, ok.r6, ok.p0, ok.p6⟩
  have i0 : 0 ≤ gs.headD 0 ∧ gs.headD 0 < r := by
    match gs, h.l4, io with
    | y :: _, _, io => exact io y List.mem_cons_self
  refine ⟨c', _, h2, lamOk_dead (f := f) (F := LF.of qWk (wkE 7) cl c') (fr := wkFr 7) (ws := wkWs g z m o k 7) (k := 13) (nscope_by (wk_nsc 7 (by decide))) (fun _ _ => rfl) (fun A outer s H E hr => (pe_or (pe_hasMk HK_Keeper hr (by omega) rfl pass0 (pa_cons (pv 0) (pa_cons (pv 1) (pa_cons (pv 2) pa_nil)))) (pe_hasMk HKX_Keeper hr (by omega) rfl passN (pa_cons (pv 0) (pa_cons (pv 1) (pa_cons (pv 2) pa_nil)))))), fun E Q kQ => ⟨h1, h2, h3, ?_⟩⟩
  rw [show (LF.of qWk (wkE 7) cl c').cl = cl from rfl]
  have hT' := hide_tabs h3.all hT
  refine r_stE (σ' := [some (.ref g), some (.ref k), some (.ref z)]) rfl ?_
  refine r_eorL ?_
  walk_at "go"
  refine r_make ?_
  walk_at "go"
  intro q dx nq ndx ne
  have sq : Same (hideC (cl.map (·.2)) H) (upd (upd (hideC (cl.map (·.2)) H) dx (.own q)) q (.ins C dx [])) := fun b o' e => by
    rw [upd_ne (ne_of_none e nq), upd_ne (ne_of_none e ndx)]
    exact e
  have hq : upd (upd (hideC (cl.map (·.2)) H) dx (.own q)) q (.ins C dx []) q = some (.ins C dx []) := upd_same
  generalize upd (upd (hideC (cl.map (·.2)) H) dx (.own q)) q (.ins C dx []) = H2 at sq hq ⊢
  refine spInit_i hq (G.mono (sq _ _ G.at_)) (sq _ _ hh.hk) M (sq _ _ hh.hz) st fun H' k' w' => ⟨rfl, fun n => ?_⟩
  have s' : Same (hideC (cl.map (·.2)) H) H' := But.same w' nq sq
  obtain ⟨dx', hk'⟩ := k'
  exact kQ _ _ (ExtN.of (back_same s')) (back_tabs n (hT'.ext s')) ⟨_, .base (.ins (back_at n hk') T.cl IT.ha IT.hn IT.ht IT.hm), IT.ns⟩
theorem wk_refuse8 (H_sure : Has P w K mg base CX0 3 "sure" (spSure)) (HX_sure : Has P w K mg base (L2.CX P w) 3 "sure" (spSuX cG cK)) (hL : LamAt H f qWk (wkE 8) (wkFr 8) (wkWs g z m o k 8)) (h : WkH H g z m o k r p x ms gs ks) (why : Why cG cS cM cO cK r p x ms gs ks 8 D) : Refuses P w K mg base qWk H f D := by
  obtain ⟨cl, c', h1, h2, h3⟩ := hL
  have hh := h.hide h3.all
  have hG := hh.hg
  have hO := hh.ho
  have h0 := hh.first
  refine ⟨c', _, h2, lamOk_dead (f := f) (F := LF.of qWk (wkE 8) cl c') (fr := wkFr 8) (ws := wkWs g z m o k 8) (k := 13) (nscope_by (wk_nsc 8 (by decide))) (fun _ _ => rfl) (fun A outer s H E hr => (pe_or (pe_has H_sure hr (by omega) rfl pass0 (pa_cons (pv 0) (pa_cons (pv 1) pa_nil))) (pe_has HX_sure hr (by omega) rfl passN (pa_cons (pv 0) (pa_cons (pv 1) pa_nil))))), fun E Q hE => ⟨h1, h2, h3, ?_⟩⟩
  rw [show (LF.of qWk (wkE 8) cl c').cl = cl from rfl]
  have kE := rf_hide (cs := cl.map (·.2)) hE
  refine r_stE (σ' := [some (.ref g), some (.ref k)]) rfl ?_
  refine r_eorR ?_
  walk_at "go"
  exact ⟨g, r, p, k, ks, rfl, hh.hg, hh.hk, hh.l3, why.ref id kE⟩
theorem wk_give8 (H_sure : Has P w K mg base CX0 3 "sure" (spSure)) (HX_sure : Has P w K mg base (L2.CX P w) 3 "sure" (spSuX cG cK)) (hL : LamAt H f qWk (wkE 8) (wkFr 8) (wkWs g z m o k 8)) (h : WkH H g z m o k r p x ms gs ks) (ok : GearOk r p) (st : Stg p x) (l1 : ms.length ≤ 100) (l2 : gs.length ≤ 5) (io : ∀ y ∈ gs, 0 ≤ y ∧ y < r) (M : Marks r ks) (hT : Tabs TT H) : Gives P w K mg base qWk TT H f := by
  obtain ⟨cl, c', h1, h2, h3⟩ := hL
  have hh := h.hide h3.all
  have hG := hh.hg
  have hO := hh.ho
  have h0 := hh.first
  have G : GearAt (hideC (cl.map (·.2)) H) g r p := ⟨hG, ok.r2, ok.r6, ok.p0, ok.p6⟩
  have i0 : 0 ≤ gs.headD 0 ∧ gs.headD 0 < r := by
    match gs, h.l4, io with
    | y :: _, _, io => exact io y List.mem_cons_self
  refine ⟨c', _, h2, lamOk_dead (f := f) (F := LF.of qWk (wkE 8) cl c') (fr := wkFr 8) (ws := wkWs g z m o k 8) (k := 13) (nscope_by (wk_nsc 8 (by decide))) (fun _ _ => rfl) (fun A outer s H E hr => (pe_or (pe_has H_sure hr (by omega) rfl pass0 (pa_cons (pv 0) (pa_cons (pv 1) pa_nil))) (pe_has HX_sure hr (by omega) rfl passN (pa_cons (pv 0) (pa_cons (pv 1) pa_nil))))), fun E Q kQ => ⟨h1, h2, h3, ?_⟩⟩
  rw [show (LF.of qWk (wkE 8) cl c').cl = cl from rfl]
  have hT' := hide_tabs h3.all hT
  refine r_stE (σ' := [some (.ref g), some (.ref k)]) rfl ?_
  refine r_eorL ?_
  walk_at "go"
  refine spSure_i G hh.hk M fun t d H' _ s' nt ht n => ?_
  exact kQ _ _ (ExtN.of (back_same s')) (back_tabs n (hT'.ext s')) (ns_tup (back_at n ht))
end
end Rd

namespace Rd
open PySem PySem.Spec PyProof.Rows L2 LamX NdefX
/-- all that the works call -/
structure WkHas (P : Program) (w : World) (K : PySem.W.Frag) (mg : Str → Option Value) (base : Heap) (C : Addr) (TT : List (Addr × Str)) (cG cS cM cO cK : Addr) : Prop where
  H_stands : Has P w K mg base CX0 3 "stands" (spStands K)
  HX_stands : Has P w K mg base (L2.CX P w) 3 "stands" (spStX K cG cS cM)
  H_trail : Has P w K mg base CX0 3 "trail" (spTrail K)
  HX_trail : Has P w K mg base (L2.CX P w) 3 "trail" (spStX K cG cS cM)
  H_to : Has P w K mg base CX0 4 "to" (spTo K TT)
  HX_to : Has P w K mg base (L2.CX P w) 4 "to" (spToX cG cS cO)
  H_path : Has P w K mg base CX0 11 "path" (spPath K)
  HX_path : Has P w K mg base (L2.CX P w) 4 "path" (spPaX K cG cS cO 8)
  H_tour : Has P w K mg base CX0 11 "tour" (spTour K)
  HX_tour : Has P w K mg base (L2.CX P w) 4 "tour" (spPaX K cG cS cO 5)
  H_known : Has P w K mg base CX0 4 "known" (spKnown K)
  HX_known : Has P w K mg base (L2.CX P w) 2 "known" (spKnX K cG cM)
  H_settled : Has P w K mg base CX0 4 "settled" (spSettled K)
  HX_settled : Has P w K mg base (L2.CX P w) 2 "settled" (spKnX K cG cM)
  H_sure : Has P w K mg base CX0 3 "sure" (spSure)
  HX_sure : Has P w K mg base (L2.CX P w) 3 "sure" (spSuX cG cK)
  HK_Keeper : HasMk P w K mg base CX0 C 3 "Keeper" (spInit C)
  HKX_Keeper : HasMk P w K mg base (L2.CX P w) C 3 "Keeper" (spInX cG cK cS)
  HX_written : Has P w K mg base (L2.CX P w) 2 "written" (spWrX K cM)
  T : KTxt K C
  IT : InsT K C
section
variable {P : Program} {w : World} {K : PySem.W.Frag} {mg : Str → Option Value} {base : Heap} {cG cS cM cO cK C D : Addr} {H : Hp} {f g z m o k : Addr} {r p : Int} {x : Int × Int} {ms gs ks : List Int} {TT : List (Addr × Str)}
theorem wk_refuse (W : WkHas P w K mg base C TT cG cS cM cO cK) (i : Nat) (hi : i < 9) (hL : LamAt H f qWk (wkE i) (wkFr i) (wkWs g z m o k i)) (h : WkH H g z m o k r p x ms gs ks) (why : Why cG cS cM cO cK r p x ms gs ks i D) : Refuses P w K mg base qWk H f D :=
  match i, hi, hL, why with
  | 0, _, hL, why => wk_refuse0 W.H_stands W.HX_stands hL h why
  | 1, _, hL, why => wk_refuse1 W.H_trail W.HX_trail hL h why
  | 2, _, hL, why => wk_refuse2 W.H_to W.HX_to hL h why
  | 3, _, hL, why => wk_refuse3 W.H_path W.HX_path hL h why
  | 4, _, hL, why => wk_refuse4 W.H_tour W.HX_tour hL h why
  | 5, _, hL, why => wk_refuse5 W.H_known W.HX_known hL h why
  | 6, _, hL, why => wk_refuse6 W.H_settled W.HX_settled hL h why
  | 7, _, hL, why => wk_refuse7 W.HK_Keeper W.HKX_Keeper hL h why
  | 8, _, hL, why => wk_refuse8 W.H_sure W.HX_sure hL h why
  | n + 9, hi, _, _ => absurd hi (by omega)
theorem wk_give (W : WkHas P w K mg base C TT cG cS cM cO cK) (i : Nat) (hi : i < 9) (hL : LamAt H f qWk (wkE i) (wkFr i) (wkWs g z m o k i)) (h : WkH H g z m o k r p x ms gs ks) (ok : GearOk r p) (st : Stg p x) (l1 : ms.length ≤ 100) (l2 : gs.length ≤ 5) (io : ∀ y ∈ gs, 0 ≤ y ∧ y < r) (M : Marks r ks) (hT : Tabs TT H) : Gives P w K mg base qWk TT H f :=
  match i, hi, hL with
  | 0, _, hL => wk_give0 W.H_stands W.HX_stands hL h ok st l1 l2 io M hT
  | 1, _, hL => wk_give1 W.H_trail W.HX_trail hL h ok st l1 l2 io M hT
  | 2, _, hL => wk_give2 W.H_to W.HX_to hL h ok st l1 l2 io M hT
  | 3, _, hL => wk_give3 W.H_path W.HX_path hL h ok st l1 l2 io M hT
  | 4, _, hL => wk_give4 W.H_tour W.HX_tour hL h ok st l1 l2 io M hT
  | 5, _, hL => wk_give5 W.H_known W.HX_known hL h ok st l1 l2 io M hT
  | 6, _, hL => wk_give6 W.H_settled W.HX_settled hL h ok st l1 l2 io M hT
  | 7, _, hL => wk_give7 W.T W.IT W.HK_Keeper W.HKX_Keeper hL h ok st l1 l2 io M hT
  | 8, _, hL => wk_give8 W.H_sure W.HX_sure hL h ok st l1 l2 io M hT
  | n + 9, hi, _ => absurd hi (by omega)
end
end Rd

namespace Rd
open PySem L2
section
variable {P : Program} {w : World} {K : PySem.W.Frag} {mg : Str → Option Value} {base : Heap}
def spFar (K : PySem.W.Frag) : Sp := fun vs H Q _ => ∃ (st a : Addr) (ns : List Int) (lo hi : Int), vs = [.ref st, .int lo, .int hi] ∧ St H st a ∧ SqL K H a (ns.map V.int) ∧
  ∀ (v : Int) (H' : Hp), v < lo ∨ hi < v → St H' st a → Fr H H' → Q (.int v) H'
theorem spFar_i {st a : Addr} {ns : List Int} {lo hi : Int} {H : Hp} {Q : VK} {E : XK} (s : St H st a) (hS : SqL K H a (ns.map V.int)) (k : ∀ (v : Int) (H' : Hp), v < lo ∨ hi < v → St H' st a → Fr H H' → Q (.int v) H') : spFar K [.ref st, .int lo, .int hi] H Q E := ⟨st, a, ns, lo, hi, rfl, s, hS, k⟩
theorem ok_law_far (B : Bl mg) (F : FunAt K mg "_law_far" s_law_far) (H_law_drawn : Has P w K mg base CX0 1 "_law_drawn" (spDrawn K)) : Has P w K mg base CX0 2 "_law_far" (spFar K) := by
  refine F.ok sc_law_far bo_law_far (fun vs H Q E h => ?_) (fun f cdv A outer s H vs Q E hr h => ?_)
  · obtain ⟨st, a, ns, lo, hi, rfl, _⟩ := h
    rfl
  · obtain ⟨st, a, ns, lo, hi, rfl, hs, hS, k⟩ := h
    refine ⟨_, (pss_cons (ps_set (i := 3) sc_law_far.nd rfl (by first | exact Or.inl rfl | exact Or.inr rfl) (pe_ix (kix (K := K) rfl) (pe_lst (pa_cons pe_int (pa_cons pe_int (pa_cons (pe_op op_pow pe_int pe_int) pa_nil)))) (pe_has H_law_drawn hr (by omega) rfl pass0 (pa_cons (pv 0) (pa_cons pe_int pa_nil))) (fun _ _ => rfl)))
 (pss_one (ps_ret (pe_ix (kix (K := K) rfl) (pe_lst (pa_cons (pe_op op_sub (pe_op op_sub (pv 1) pe_int) (pe_has H_law_drawn hr (by omega) rfl pass0 (pa_cons (pv 0) (pa_cons (pv 3) pa_nil)))) (pa_cons (pe_op (kop_add (K := K) rfl) (pe_op (kop_add (K := K) rfl) (pv 2) pe_int) (pe_has H_law_drawn hr (by omega) rfl pass0 (pa_cons (pv 0) (pa_cons (pv 3) pa_nil)))) pa_nil))) (pe_has H_law_drawn hr (by omega) rfl pass0 (pa_cons (pv 0) (pa_cons pe_int pa_nil))) (fun _ _ => rfl))))), ?_⟩
    refine r_start (σ' := [some (.ref st), some (.int lo), some (.int hi), none]) rfl ?_
    walk_at "go"
    intro p1 n1
    walk_at "go"
    refine spDrawn_i (by walk_at "ss") (by walk_at "sq") (by omega) (by decide) fun v1 H1 a1 b1 s1 R1 => ?_
    obtain ⟨far, e1, m1⟩ := pick3 1 20 (10 ^ (29 : Int).toNat) a1 (by omega)
    rw [e29] at m1
    refine r_ix (by walk_at "sq") e1 ?_
    walk_at "go"
    refine spDrawn_i s1 (by walk_at "sq") (by omega) (small200 (by omega) (by omega)) fun v2 H2 a2 b2 s2 R2 => ?_
    walk_at "go"
    refine spDrawn_i s2 (by walk_at "sq") (by omega) (small200 (by omega) (by omega)) fun v3 H3 a3 b3 s3 R3 => ?_
    walk_at "go"
    intro p4 n4
    walk_at "go"
    refine spDrawn_i (by walk_at "ss") (by walk_at "sq") (by omega) (by decide) fun v5 H5 a5 b5 s5 R5 => ?_
    obtain ⟨o, e5, m5⟩ := pick2 (lo - 1 - v2) (hi + 1 + v3) a5 (by omega)
    refine r_ix (by walk_at "sq") e5 ?_
    walk_at "go"
    exact k o _ (by omega) (by walk_at "ss") (by walk_at "fr")
end
end Rd

namespace Rd
open PySem L2
theorem rep_flat {α β : Type} (f : α → β) (x : α) : ∀ n : Nat, (List.replicate n [f x]).flatten = (List.replicate n x).map f
  | 0 => rfl
  | n + 1 => by rw [List.replicate_succ, List.flatten_cons, rep_flat f x n, List.replicate_succ, List.map_cons]; rfl
theorem r_repI {l : Addr} {x k : Int} {H : Hp} {Q : VK} (h : H l = some (.lst [.int x])) (h0 : 0 ≤ k) (h1 : k ≤ 1000) (q : ∀ p, H p = none → Q (.ref p) (upd H p (.lst ((List.replicate k.toNat x).map V.int)))) : rRep (.ref l) (.int k) H Q := by
  refine ⟨l, k, _, rfl, rfl, h, by omega, by omega, ?_, fun p np => ?_⟩
  · rw [PySem.sizeLine_eq]
    show 1 * _ ≤ _
    omega
  · rw [rep_flat]
    exact q p np
theorem r_tupRg1 {ta : TE} {σ : L2.St} {H : Hp} {Q : VK} (k : ta σ H fun x H1 => ∃ i, x = .int i ∧ RgOk 0 i ∧ ∀ q, H1 q = none → Q (.ref q) (upd H1 q (.tup (rgV 0 i)))) : tTupRg (tRg1 ta) σ H Q := k
/-- what is no gear, no standing, no moves, no goals, no marks -/
structure BadAt (H : Hp) (t : Addr) (r p : Int) (x : Int × Int) (od be lo go mk : Addr) (r' p' s' : Int) (n : Nat) (gs ks : List Int) : Prop where
  at_ : H t = some (.tup [.ref od, .ref be, .ref lo, .ref go, .ref mk])
  hod : H od = some (.tup [.int r', .int p'])
  hbe : H be = some (.tup [.int x.1, .int s'])
  hlo : H lo = some (.lst ((List.replicate n (1 : Int)).map V.int))
  hgo : H go = some (.lst (gs.map V.int))
  hmk : H mk = some (.tup (ks.map V.int))
  bG : ¬ GearOk r' p'
  bS : ¬ Stg p (x.1, s')
  n1 : 100 < n
  n2 : n ≤ 200
  g1 : 0 < gs.length
  g2 : gs.length ≤ 200
  bO : ¬ (0 ≤ gs.headD 0 ∧ gs.headD 0 < r)
  bK : ¬ Marks r ks
  k2 : ks.length ≤ 60
section
variable {P : Program} {w : World} {K : PySem.W.Frag} {mg : Str → Option Value} {base : Heap}
def spBad (K : PySem.W.Frag) : Sp := fun vs H Q _ => ∃ (st a : Addr) (ns : List Int) (g : Addr) (r p : Int) (z : Addr) (x : Int × Int), vs = [.ref st, .ref g, .ref z] ∧ St H st a ∧ SqL K H a (ns.map V.int) ∧ H g = some (.tup [.int r, .int p]) ∧ GearOk r p ∧ H z = some (.tup [.int x.1, .int x.2]) ∧
  ∀ (t od be lo go mk : Addr) (r' p' s' : Int) (n : Nat) (gs ks : List Int) (H' : Hp), BadAt H' t r p x od be lo go mk r' p' s' n gs ks → St H' st a → Fr H H' → Q (.ref t) H'
theorem ok_law_bad (B : Bl mg) (F : FunAt K mg "_law_bad" s_law_bad) (H_law_drawn : Has P w K mg base CX0 1 "_law_drawn" (spDrawn K)) (H_law_far : Has P w K mg base CX0 2 "_law_far" (spFar K)) : Has P w K mg base CX0 3 "_law_bad" (spBad K) := by
  refine F.ok sc_law_bad bo_law_bad (fun vs H Q E h => ?_) (fun f cdv A outer s H vs Q E hr h => ?_)
  · obtain ⟨st, a, ns, g, r, p, z, x, rfl, _⟩ := h
    rfl
  · obtain ⟨st, a, ns, g, r, p, z, x, rfl, hs, hS, hg, ok, hz, k⟩ := h
    have e6 : (10 : Int) ^ (6 : Int).toNat = 1000000 := by decide
    refine ⟨_, (pss_cons (ps_set (i := 3) sc_law_bad.nd rfl (by first | exact Or.inl rfl | exact Or.inr rfl) (pe_has H_law_far hr (by omega) rfl pass0 (pa_cons (pv 0) (pa_cons pe_int (pa_cons (pe_op op_sub (pe_ix (kix (K := K) rfl) (pv 1) pe_int (fun _ _ => rfl)) pe_int) pa_nil)))))
 (pss_cons (ps_set (i := 4) sc_law_bad.nd rfl (by first | exact Or.inl rfl | exact Or.inr rfl) (pe_ix (kix (K := K) rfl) (pe_lst (pa_cons (pe_tup (pa_cons (pe_has H_law_far hr (by omega) rfl pass0 (pa_cons (pv 0) (pa_cons pe_int (pa_cons (pe_op op_pow pe_int pe_int) pa_nil)))) (pa_cons (pe_ix (kix (K := K) rfl) (pv 1) pe_int (fun _ _ => rfl)) pa_nil))) (pa_cons (pe_tup (pa_cons (pe_ix (kix (K := K) rfl) (pv 1) pe_int (fun _ _ => rfl)) (pa_cons (pe_has H_law_far hr (by omega) rfl pass0 (pa_cons (pv 0) (pa_cons pe_int (pa_cons (pe_op op_pow pe_int pe_int) pa_nil)))) pa_nil))) (pa_cons (pe_tup (pa_cons pe_int (pa_cons pe_int pa_nil))) pa_nil)))) (pe_has H_law_drawn hr (by omega) rfl pass0 (pa_cons (pv 0) (pa_cons pe_int pa_nil))) (fun _ _ => rfl)))
 (pss_cons (ps_set (i := 5) sc_law_bad.nd rfl (by first | exact Or.inl rfl | exact Or.inr rfl) (pe_tup (pa_cons (pe_ix (kix (K := K) rfl) (pv 2) pe_int (fun _ _ => rfl)) (pa_cons (pe_ix (kix (K := K) rfl) (pe_lst (pa_cons (pe_op (kop_add (K := K) rfl) (pe_ix (kix (K := K) rfl) (pv 2) pe_int (fun _ _ => rfl)) pe_int) (pa_cons (pe_op op_sub (pe_op op_sub (pe_ix (kix (K := K) rfl) (pv 2) pe_int (fun _ _ => rfl)) (pe_ix (kix (K := K) rfl) (pv 1) pe_int (fun _ _ => rfl))) pe_int) pa_nil))) (pe_has H_law_drawn hr (by omega) rfl pass0 (pa_cons (pv 0) (pa_cons pe_int pa_nil))) (fun _ _ => rfl)) pa_nil))))
 (pss_cons (ps_set (i := 6) sc_law_bad.nd rfl (by first | exact Or.inl rfl | exact Or.inr rfl) (pe_ix (kix (K := K) rfl) (pe_lst (pa_cons (pe_tup pa_nil) (pa_cons (pe_tup (pa_cons (pv 3) pa_nil)) (pa_cons (pe_tup (pa_cons pe_int (pa_cons (pv 3) pa_nil))) (pa_cons (pe_tup (pa_cons pe_int (pa_cons pe_int pa_nil))) (pa_cons (pe_tup (pa_cons pe_int (pa_cons pe_int pa_nil))) (pa_cons (pe_tupRg rfl rfl B.tuple (prg_1 rfl B.range pe_int)) pa_nil))))))) (pe_has H_law_drawn hr (by omega) rfl pass0 (pa_cons (pv 0) (pa_cons pe_int pa_nil))) (fun _ _ => rfl)))
 (pss_one (ps_ret (pe_tup (pa_cons (pv 4) (pa_cons (pv 5) (pa_cons (pe_op op_rep (pe_lst (pa_cons pe_int pa_nil)) (pe_op (kop_add (K := K) rfl) pe_int (pe_has H_law_drawn hr (by omega) rfl pass0 (pa_cons (pv 0) (pa_cons pe_int pa_nil))))) (pa_cons (pe_op (kop_add (K := K) rfl) (pe_lst (pa_cons (pv 3) pa_nil)) (pe_op op_rep (pe_lst (pa_cons pe_int pa_nil)) (pe_has H_law_drawn hr (by omega) rfl pass0 (pa_cons (pv 0) (pa_cons pe_int pa_nil))))) (pa_cons (pv 6) pa_nil)))))))))))), ?_⟩
    refine r_start (σ' := [some (.ref st), some (.ref g), some (.ref z), none, none, none, none]) rfl ?_
    walk_at "go"
    refine spFar_i hs hS fun v1 H1 b1 s1 R1 => ?_
    walk_at "go"
    refine spFar_i s1 (by walk_at "sq") fun v2 H2 b2 s2 R2 => ?_
    rw [e6] at b2
    have hg2 : H2 g = some (.tup [.int r, .int p]) := by walk_at "hp"
    have hz2 : H2 z = some (.tup [.int x.1, .int x.2]) := by walk_at "hp"
    have hS2 : SqL K H2 a (ns.map V.int) := by walk_at "sq"
    have R02 : Fr H H2 := R1.trans R2
    walk_at "go"
    intro t1 n1
    walk_at "go"
    refine spFar_i (by walk_at "ss") (by walk_at "sq") fun v3 H3 b3 s3 R3 => ?_
    rw [e6] at b3
    have hg3 : H3 g = some (.tup [.int r, .int p]) := by walk_at "hp"
    have hz3 : H3 z = some (.tup [.int x.1, .int x.2]) := by walk_at "hp"
    have hS3 : SqL K H3 a (ns.map V.int) := by walk_at "sq"
    have ht1 : H3 t1 = some (.tup [.int v2, .int p]) := by walk_at "hp"
    have R03 : Fr H H3 := by walk_at "fr"
    walk_at "go"
    intro t2 n2
    walk_at "go"
    intro t3 n3
    walk_at "go"
    intro l4 n4
    walk_at "go"
    refine spDrawn_i (by walk_at "ss") (by walk_at "sq") (by omega) (by decide) fun v5 H5 a5 b5 s5 R5 => ?_
    have h51 : H5 t1 = some (.tup [.int v2, .int p]) := by walk_at "hp"
    have h52 : H5 t2 = some (.tup [.int r, .int v3]) := by walk_at "hp"
    have h53 : H5 t3 = some (.tup [.int 1, .int 0]) := by walk_at "hp"
    have hg5 : H5 g = some (.tup [.int r, .int p]) := by walk_at "hp"
    have hz5 : H5 z = some (.tup [.int x.1, .int x.2]) := by walk_at "hp"
    have hS5 : SqL K H5 a (ns.map V.int) := by walk_at "sq"
    have R05 : Fr H H5 := by walk_at "fr"
    obtain ⟨od, r', p', e5, hod, bG⟩ : ∃ od r' p', atI [V.ref t1, V.ref t2, V.ref t3] v5 = some (.ref od) ∧ H5 od = some (.tup [.int r', .int p']) ∧ ¬ GearOk r' p' := by
      have : v5 = 0 ∨ v5 = 1 ∨ v5 = 2 := by omega
      rcases this with rfl | rfl | rfl
      · exact ⟨t1, v2, p, rfl, h51, fun z => by have := z.r2; have := z.r6; omega⟩
      · exact ⟨t2, r, v3, rfl, h52, fun z => by have := z.p0; have := z.p6; omega⟩
      · exact ⟨t3, 1, 0, rfl, h53, fun z => by have := z.r2; omega⟩
    have hl4 : H5 l4 = some (.lst [.ref t1, .ref t2, .ref t3]) := R5 _ _ upd_same (fun a i m r h => by cases h)
    refine r_ix (.inl (SqL.of hl4)) e5 ?_
    walk_at "go"
    intro l6 n6
    walk_at "go"
    refine spDrawn_i (by walk_at "ss") (by walk_at "sq") (by omega) (by decide) fun v7 H7 a7 b7 s7 R7 => ?_
    obtain ⟨s', e7, m7⟩ := pick2 (x.1 + 1) (x.1 - p - 1) a7 (by omega)
    refine r_ix (by walk_at "sq") e7 ?_
    walk_at "go"
    intro be n8
    have hod8 : H7 od = some (.tup [.int r', .int p']) := by walk_at "hp"
    have hS7 : SqL K H7 a (ns.map V.int) := by walk_at "sq"
    have R07 : Fr H H7 := by walk_at "fr"
    walk_at "go"
    intro u0 m0
    walk_at "go"
    intro u1 m1
    walk_at "go"
    intro u2 m2
    walk_at "go"
    intro u3 m3
    walk_at "go"
    intro u4 m4
    walk_at "go"
    refine r_tupRg1 ?_
    walk_at "go"
    refine ⟨RgOk.of_le (by decide) (by decide) (by decide) (by decide), fun u5 m5 => ?_⟩
    walk_at "go"
    intro l9 n9
    walk_at "go"
    refine spDrawn_i (by walk_at "ss") (by walk_at "sq") (by omega) (by decide) fun v9 H9 a9 b9 s9 R9 => ?_
    have k0 : H9 u0 = some (.tup []) := by walk_at "hp"
    have k1 : H9 u1 = some (.tup [.int v1]) := by walk_at "hp"
    have k2 : H9 u2 = some (.tup [.int 0, .int v1]) := by walk_at "hp"
    have k3 : H9 u3 = some (.tup [.int 1, .int 0]) := by walk_at "hp"
    have k4 : H9 u4 = some (.tup [.int 0, .int 0]) := by walk_at "hp"
    have k5 : H9 u5 = some (.tup (rgV 0 13)) := by walk_at "hp"
    have hod9 : H9 od = some (.tup [.int r', .int p']) := by walk_at "hp"
    have hbe9 : H9 be = some (.tup [.int x.1, .int s']) := by walk_at "hp"
    have hS9 : SqL K H9 a (ns.map V.int) := by walk_at "sq"
    have R09 : Fr H H9 := by walk_at "fr"
    obtain ⟨mk, ks, e9, hmk, bK, lk⟩ : ∃ mk ks, atI [V.ref u0, V.ref u1, V.ref u2, V.ref u3, V.ref u4, V.ref u5] v9 = some (.ref mk) ∧ H9 mk = some (.tup ((ks : List Int).map V.int)) ∧ ¬ Marks r ks ∧ ks.length ≤ 60 := by
      have : v9 = 0 ∨ v9 = 1 ∨ v9 = 2 ∨ v9 = 3 ∨ v9 = 4 ∨ v9 = 5 := by omega
      have r13 : rgV 0 13 = ([0, 1, 2, 3, 4, 5, 6, 7, 8, 9, 10, 11, 12] : List Int).map V.int := rfl
      rcases this with rfl | rfl | rfl | rfl | rfl | rfl
      · exact ⟨u0, [], rfl, k0, fun M => absurd M.some_ (by decide), by decide⟩
      · exact ⟨u1, [v1], rfl, k1, fun M => by have := M.in_ v1 (by simp); omega, by simp⟩
      · exact ⟨u2, [0, v1], rfl, k2, fun M => by have := M.in_ v1 (by simp); omega, by simp⟩
      · exact ⟨u3, [1, 0], rfl, k3, fun M => absurd M.rise (by decide), by simp⟩
      · exact ⟨u4, [0, 0], rfl, k4, fun M => absurd M.rise (by decide), by simp⟩
      · exact ⟨u5, [0, 1, 2, 3, 4, 5, 6, 7, 8, 9, 10, 11, 12], rfl, by rw [← r13]; exact k5, fun M => absurd M.few (by decide), by simp⟩
    have hl9 : H9 l9 = some (.lst [.ref u0, .ref u1, .ref u2, .ref u3, .ref u4, .ref u5]) := R9 _ _ upd_same (fun a i m r h => by cases h)
    refine r_ix (.inl (SqL.of hl9)) e9 ?_
    walk_at "go"
    intro la ma
    walk_at "go"
    refine spDrawn_i (by walk_at "ss") (by walk_at "sq") (by omega) (by decide) fun v10 H10 a10 b10 s10 R10 => ?_
    walk_at "go"
    have hla : H10 la = some (.lst [.int 1]) := by walk_at "hp"
    refine r_repI hla (by omega) (by omega) fun lo nlo => ?_
    have R010 : Fr H H10 := by walk_at "fr"
    have hod10 : H10 od = some (.tup [.int r', .int p']) := R10 _ _ (at_new ma hod9) nst_tup
    have hbe10 : H10 be = some (.tup [.int x.1, .int s']) := R10 _ _ (at_new ma hbe9) nst_tup
    have hmk10 : H10 mk = some (.tup (ks.map V.int)) := R10 _ _ (at_new ma hmk) nst_tup
    have hS10 : SqL K H10 a (ns.map V.int) := by walk_at "sq"
    obtain ⟨n, hn⟩ : ∃ n, n = (101 + v10).toNat := ⟨_, rfl⟩
    rw [← hn]
    walk_at "go"
    intro lb mb
    walk_at "go"
    intro lc mc
    walk_at "go"
    refine spDrawn_i (by walk_at "ss") (by walk_at "sq") (by omega) (by decide) fun v11 H11 a11 b11 s11 R11 => ?_
    walk_at "go"
    have hlc : H11 lc = some (.lst [.int 0]) := by walk_at "hp"
    have hlb : H11 lb = some (.lst [.int v1]) := by walk_at "hp"
    have hlo11 : H11 lo = some (.lst ((List.replicate n (1 : Int)).map V.int)) := R11 _ _ (at_new mc (at_new mb upd_same)) nst_ints
    have R011 : Fr H H11 := by walk_at "fr"
    have hod11 : H11 od = some (.tup [.int r', .int p']) := R11 _ _ (at_new mc (at_new mb (at_new nlo hod10))) nst_tup
    have hbe11 : H11 be = some (.tup [.int x.1, .int s']) := R11 _ _ (at_new mc (at_new mb (at_new nlo hbe10))) nst_tup
    have hmk11 : H11 mk = some (.tup (ks.map V.int)) := R11 _ _ (at_new mc (at_new mb (at_new nlo hmk10))) nst_tup
    refine r_repI hlc (by omega) (by omega) fun ld nd => ?_
    walk_at "go"
    refine r_addL (at_new nd hlb) upd_same (by rw [List.length_map, List.length_replicate]; exact Nat.le_of_lt (small1000 (by show 1 + _ ≤ 1000; omega))) fun go ngo => ?_
    walk_at "go"
    intro t nt
    walk_at "go"
    have s12 : Same H11 (upd (upd (upd H11 ld (.lst ((List.replicate v11.toNat (0 : Int)).map V.int))) go (.lst ([V.int v1] ++ (List.replicate v11.toNat (0 : Int)).map V.int))) t (.tup [.ref od, .ref be, .ref lo, .ref go, .ref mk])) := (same_new nd).trans ((same_new ngo).trans (same_new nt))
    refine k t od be lo go mk r' p' s' n (v1 :: List.replicate v11.toNat 0) ks _ ⟨upd_same, s12 _ _ hod11, s12 _ _ hbe11, s12 _ _ hlo11, at_new nt upd_same, s12 _ _ hmk11, bG, fun z => ?_, by omega, by omega, by simp, ?_, fun z => ?_, bK, lk⟩ (s11.same s12) (R011.same s12)
    · have q1 := z.1
      have q2 := z.2
      dsimp only at q1 q2
      have := ok.p0
      omega
    · rw [List.length_cons, List.length_replicate]
      omega
    · have z1 : 0 ≤ v1 ∧ v1 < r := z
      omega
end
end Rd

namespace Rd
open PySem PySem.Spec PyProof.Rows L2 LamX
set_option maxHeartbeats 8000000 in
theorem kind_gives {X : Cx} {G : Addr} {cs : Nat → Addr} {q : Str} {g : Addr} {cdg : Value} (B : Bl X.mg) (Z_ValueError : X.mg "ValueError" = none) (hr : Room 1 X.A) (G_GearError : ClsG X.mg "GearError" G) (G_BadGear : ClsG X.mg "BadGear" (cs 0)) (G_BadStanding : ClsG X.mg "BadStanding" (cs 1))
    (G_BadMoves : ClsG X.mg "BadMoves" (cs 2)) (G_BadGoal : ClsG X.mg "BadGoal" (cs 3)) (G_BadMarks : ClsG X.mg "BadMarks" (cs 4)) (G_BadMark : ClsG X.mg "BadMark" (cs 5)) (G_BadText : ClsG X.mg "BadText" (cs 6)) :
    GivesTo X ["_law_work", "e", "_law_kinds", "_law_words", "_law_word"] "_law_kind" (defScope s_law_kind) g cdg (defBody s_law_kind) "_law_work" q (TTKind X.K G cs) := by
  refine kp_gives (K := X.K) (G := G) (cs := cs) rfl rfl G_GearError (by decide) (fun _ => rfl) sc_law_kind.nd rfl rfl (fun s H a oe cls d pn hz hf => by have hu : (X.A.deeper (envOfC "_law_kind" (defScope s_law_kind) s.heap.objs.size g cdg)).units + 64 < cLine := (hr.deeper _).units; exact (pss_cons (ps_set (i := 2) sc_law_kind.nd rfl (by first | exact Or.inl rfl | exact Or.inr rfl) (pe_lst (pa_cons (pe_callB (kc_isX (K := X.K) rfl hz hf) rfl B.isinstance (by decide +kernel) (pa_cons (pv 1) (pa_cons (pe_clsG G_BadGear rfl) pa_nil))) (pa_cons (pe_callB (kc_isX (K := X.K) rfl hz hf) rfl B.isinstance (by decide +kernel) (pa_cons (pv 1) (pa_cons (pe_clsG G_BadStanding rfl) pa_nil))) (pa_cons (pe_callB (kc_isX (K := X.K) rfl hz hf) rfl B.isinstance (by decide +kernel) (pa_cons (pv 1) (pa_cons (pe_clsG G_BadMoves rfl) pa_nil))) (pa_cons (pe_callB (kc_isX (K := X.K) rfl hz hf) rfl B.isinstance (by decide +kernel) (pa_cons (pv 1) (pa_cons (pe_clsG G_BadGoal rfl) pa_nil))) pa_nil))))))
 (pss_cons (ps_set (i := 2) sc_law_kind.nd rfl (by first | exact Or.inl rfl | exact Or.inr rfl) (pe_op (kop_add (K := X.K) rfl) (pv 2) (pe_lst (pa_cons (pe_callB (kc_isX (K := X.K) rfl hz hf) rfl B.isinstance (by decide +kernel) (pa_cons (pv 1) (pa_cons (pe_clsG G_BadMarks rfl) pa_nil))) (pa_cons (pe_callB (kc_isX (K := X.K) rfl hz hf) rfl B.isinstance (by decide +kernel) (pa_cons (pv 1) (pa_cons (pe_clsG G_BadMark rfl) pa_nil))) (pa_cons (pe_callB (kc_isX (K := X.K) rfl hz hf) rfl B.isinstance (by decide +kernel) (pa_cons (pv 1) (pa_cons (pe_clsG G_BadText rfl) pa_nil))) pa_nil))))))
 (pss_cons (ps_set (i := 3) sc_law_kind.nd rfl (by first | exact Or.inl rfl | exact Or.inr rfl) (pe_lst (pa_cons pe_str (pa_cons pe_str (pa_cons pe_str (pa_cons pe_str (pa_cons pe_str (pa_cons pe_str (pa_cons pe_str pa_nil)))))))))
 (pss_cons (ps_if (PW.pt (pw_or (pt_cmpR (kop_ne (K := X.K) rfl hu) (kpe_bm (K := X.K) rfl PySem.F.plainAttrs_list PySem.F.slot_list_count PySem.F.type_list_count (kmt_countB (K := X.K) rfl) (pv 2) (pa_cons pe_bl pa_nil)) pe_int (nomark _)) (pw_or1 (pt_not (pt_val (pe_callB (kc_isX (K := X.K) rfl hz hf) rfl B.isinstance (by decide +kernel) (pa_cons (pv 1) (pa_cons (pe_bltn rfl Z_ValueError (v := .ty "ValueError") rfl rfl) pa_nil)))))))) (pss_one (ps_ret pe_str)) pss_nil)
 (pss_cons (ps_set (i := 4) sc_law_kind.nd rfl (by first | exact Or.inl rfl | exact Or.inr rfl) (pe_ix (kix (K := X.K) rfl) (pv 3) (kpe_bm (K := X.K) rfl PySem.F.plainAttrs_list PySem.F.slot_list_index PySem.F.type_list_index (kmt_index (K := X.K) rfl) (pv 2) (pa_cons pe_bl pa_nil)) (fun _ _ => rfl)))
 (pss_one (ps_ret (pe_ifExp (pt_cmpR (kop_eq (K := X.K) rfl hu) (pv 4) pe_str (nomark _)) (pe_tup (pa_cons (pv 4) (pa_cons pe_no pa_nil))) (pv 4)))))))))) ?_
  intro D i ea σ H' En hk hi na hl k
  obtain ⟨v0, v1, v2, v3, v4, rfl⟩ : ∃ v0 v1 v2 v3 v4, σ = [v0, v1, v2, v3, v4] := match σ, hl with | [v0, v1, v2, v3, v4], _ => ⟨v0, v1, v2, v3, v4, rfl⟩
  obtain ⟨nn, rr, bb, cc⟩ := En
  dsimp only at k
  have C := hk.c
  refine r_start (σ' := [v0, some (.ref ea), v2, v3, v4]) rfl ?_
  walk_at "go"
  refine r_isXc C (hk.is 0 (by decide)) ?_
  walk_at "go"
  refine r_isXc C (hk.is 1 (by decide)) ?_
  walk_at "go"
  refine r_isXc C (hk.is 2 (by decide)) ?_
  walk_at "go"
  refine r_isXc C (hk.is 3 (by decide)) ?_
  walk_at "go"
  intro l1 n1
  walk_at "go"
  refine r_isXc C (hk.is 4 (by decide)) ?_
  walk_at "go"
  refine r_isXc C (hk.is 5 (by decide)) ?_
  walk_at "go"
  refine r_isXc C (hk.is 6 (by decide)) ?_
  walk_at "go"
  intro l2 n2
  refine r_addL (at_new n2 upd_same) upd_same (len_ok rfl) fun l3 n3 => ?_
  have s3 := (same_new (u := .lst [V.bl (decide (0 = i)), V.bl (decide (1 = i)), V.bl (decide (2 = i)), V.bl (decide (3 = i))]) n1).trans ((same_new (u := .lst [V.bl (decide (4 = i)), V.bl (decide (5 = i)), V.bl (decide (6 = i))]) n2).trans (same_new (u := .lst ([V.bl (decide (0 = i)), V.bl (decide (1 = i)), V.bl (decide (2 = i)), V.bl (decide (3 = i))] ++ [V.bl (decide (4 = i)), V.bl (decide (5 = i)), V.bl (decide (6 = i))])) n3))
  have h3 : upd (upd (upd H' l1 (.lst [V.bl (decide (0 = i)), V.bl (decide (1 = i)), V.bl (decide (2 = i)), V.bl (decide (3 = i))])) l2 (.lst [V.bl (decide (4 = i)), V.bl (decide (5 = i)), V.bl (decide (6 = i))])) l3 (.lst ([V.bl (decide (0 = i)), V.bl (decide (1 = i)), V.bl (decide (2 = i)), V.bl (decide (3 = i))] ++ [V.bl (decide (4 = i)), V.bl (decide (5 = i)), V.bl (decide (6 = i))])) l3
    = some (.lst (([decide (0 = i), decide (1 = i), decide (2 = i), decide (3 = i), decide (4 = i), decide (5 = i), decide (6 = i)] : List Bool).map V.bl)) := upd_same
  generalize upd (upd (upd H' l1 (.lst [V.bl (decide (0 = i)), V.bl (decide (1 = i)), V.bl (decide (2 = i)), V.bl (decide (3 = i))])) l2 (.lst [V.bl (decide (4 = i)), V.bl (decide (5 = i)), V.bl (decide (6 = i))])) l3 (.lst ([V.bl (decide (0 = i)), V.bl (decide (1 = i)), V.bl (decide (2 = i)), V.bl (decide (3 = i))] ++ [V.bl (decide (4 = i)), V.bl (decide (5 = i)), V.bl (decide (6 = i))])) = H3 at s3 h3 ⊢
  walk_at "go"
  intro l4 n4
  have h34 := at_new (u := .lst ((["BadGear", "BadStanding", "BadMoves", "BadGoal", "BadMarks", "BadMark", "BadText"] : List Str).map V.str)) n4 h3
  walk_at "go"
  refine ⟨r_tyL h34, ?_⟩
  walk_at "go"
  refine r_countB (SqL.of h34) ?_
  rw [count_kind i (by omega)]
  walk_at "go"
  refine iteNF rfl ?_
  walk_at "go"
  refine r_isXt C hk.v ?_
  walk_at "go"
  refine iteF ?_
  walk_at "go"
  refine ⟨r_tyL h34, ?_⟩
  walk_at "go"
  refine r_indexB (SqL.of h34) (index_kind i (by omega)) (index_kind2 i (by omega)) ?_
  refine r_ix (v := .str (kindW i)) (.inl (SqL.of upd_same)) (at_of (j := i) rfl (kindW_at (by omega))) ?_
  walk_at "go"
  refine r_eqS ?_
  walk_at "go"
  refine iteDF (kindW_ne i hi) ?_
  walk_at "go"
  exact k _ (s3.trans (same_new n4))
end Rd

namespace Rd
open PySem PySem.Spec L2 PyProof.Rows LamX NdefX
/-- the def st is that at f, whose code object is c -/
structure FunTabF (K : PySem.W.Frag) (x : Str) (st : Stmt) (f : Addr) (fd : FuncData) (c : Addr) : Prop where
  ex : ∃ (oc : Value) (od an : Option Addr) (kV doc pm ct : Value) (osl : Array (Option Value)),
    fd = PySem.W.fnOf x x (defArgs st) (defBody st) (defScope st) .none kV doc pm an (.ref c) ct ∧ K.lookup f = some ⟨oc, od, .func fd, osl⟩ ∧ PySem.W.codeIn K (.ref c) x = true
theorem FunTabF.ok {P : Program} {w : World} {K : PySem.W.Frag} {mg : Str → Option Value} {base : Heap} {x : Str} {st : Stmt} {N ps : List Str} {k : Nat} {sp : Sp} {f c : Addr} {fd : FuncData} (F : FunTabF K x st f fd c) (S : FnScope N ps (defScope st)) (len : ∀ vs H Q E, sp vs H Q E → vs.length = ps.length)
    (hbody : ∀ (A : Around) (outer : List Env) (s : Shared) (H : Hp) (vs : List V) (Q : VK) (E : XK), Room k (A.deeper (envOfC x (defScope st) s.heap.objs.size f (.ref c))) → sp vs H Q E →
      ∃ t, PSs (cxOf L2.CX0 P w K mg base N x (defScope st) f (.ref c) A outer s H E).nox (defBody st) t ∧ t { nx := fun _ H' => Q .non H', rt := Q } (L2.start N vs) H) : FnOk P w K mg base L2.CX0 (k + 1) f fd ps sp := by
  obtain ⟨oc, od, an, kV, doc, pm, ct, osl, rfl, lk, hcd⟩ := F.ex
  refine fn_of lk hcd S len fun A outer s H vs Q E hr hsp => ?_
  obtain ⟨t, h, q⟩ := hbody A outer s H vs Q E hr hsp
  exact ⟨t, h.nox, q⟩
theorem FunTabF.mk' {K : PySem.W.Frag} {x : Str} {st : Stmt} {f c Pt : Addr} {oc : Value} {od an : Option Addr} {osl : Array (Option Value)} {kV doc pm cdv ct : Value} (a : PySem.W.nsIn K mainGlobals x = some (some (.ref f)))
    (l : K.lookup f = some ⟨oc, od, .func (PySem.W.fnOf x x (defArgs st) (defBody st) (defScope st) .none kV doc pm an cdv ct), osl⟩) (cc : PySem.W.codeIn K cdv x = true) (t : PySem.W.tabIn K x = some (c, Pt)) :
    FunTabF K x st f (PySem.W.fnOf x x (defArgs st) (defBody st) (defScope st) .none kV doc pm an cdv ct) c := by
  have e : cdv = .ref c := tab_code a l t
  subst e
  exact ⟨oc, od, an, kV, doc, pm, ct, osl, rfl, l, cc⟩
theorem FunTab.at_ {K : PySem.W.Frag} {mg : Str → Option Value} {x : Str} {st : Stmt} {c Pt : Addr} (F : FunTab K mg x st c Pt) : FunAt K mg x st := by
  obtain ⟨f, oc, od, an, kV, doc, pm, ct, osl, lk, hcd, kp, hm⟩ := F.ex
  exact ⟨f, _, fun_mk lk hcd kp, hm⟩
def qLv : Str := "law" ++ ".<locals>." ++ "<lambda>"
/-! ### a known lambda handed to _law_kind -/
def KR (P : Program) (w : World) (K : PySem.W.Frag) (mg : Str → Option Value) (base : Heap) (k : Nat) (q : Str) (TT : (XK → Hp → VK → Prop) → Hp → VK → Prop) (v : V) (H1 : Hp) (Q : VK) : Prop := ∃ (f c' : Addr) (tl : XK → Hp → VK → Prop), v = .ref f ∧ H1 c' = some (CodeO c' q) ∧ LamOk P w K mg base k f tl ∧ TT tl H1 Q
theorem r_kindR {P : Program} {w : World} {K : PySem.W.Frag} {mg : Str → Option Value} {base : Heap} {k : Nat} {q : Str} {TT : (XK → Hp → VK → Prop) → Hp → VK → Prop} {te : TE} {σ : L2.St} {H : Hp} {Q : VK} (h : te σ H fun v H1 => KR P w K mg base k q TT v H1 Q) : tKindR P w K mg base k q TT te σ H Q := h
section
variable {P : Program} {w : World} {K : PySem.W.Frag} {mg : Str → Option Value} {base : Heap} {G D f : Addr} {cs : Nat → Addr} {H : Hp} {Q : VK} {TT : List (Addr × Str)}
theorem kr_refuse {i : Nat} (h : Refuses P w K mg base qWk H f D) (KD : KindOf K G cs D i) (hi : i < 6) (k : ∀ H', Same H H' → Q (.str (kindW i)) H') : KR P w K mg base 14 qWk (TTKind K G cs) (.ref f) H Q := by
  obtain ⟨c', tl, hc, L, kk⟩ := h
  exact ⟨f, c', tl, rfl, hc, L, kk _ _ fun H' s' => ⟨D, i, rfl, rfl, KD, hi, fun H'' s'' => k _ (s'.trans s'')⟩⟩
theorem kr_give (h : Gives P w K mg base qWk TT H f) (k : ∀ v H', ExtN H H' → Tabs TT H' → NotS K H' v → Q v H') : KR P w K mg base 14 qWk (TTKind K G cs) (.ref f) H Q := by
  obtain ⟨c', tl, hc, L, kk⟩ := h
  exact ⟨f, c', tl, rfl, hc, L, kk _ _ k⟩
end
def KC (X0 : Cx) (σ0 : L2.St) (k : Nat) (q : Str) (TT : (XK → Hp → VK → Prop) → Hp → VK → Prop) (v : V) (H1 : Hp) (Q : VK) : Prop := ∃ (f : Addr) (F : LF) (fr : List Str) (js : List Nat) (tb : XK → TE), v = .ref f ∧ H1 f = some (LamO f F) ∧ H1 F.c = some (CodeO F.c F.qual) ∧ F.qual = q ∧ LiveOk X0.prog X0.w X0.K X0.mg X0.base k f F fr tb ∧ (X0.Ok → Caps X0 F.cl fr js) ∧
  TT (tLive f F fr (js.map (slotAt σ0)) tb) H1 Q
theorem r_kindC {X0 : Cx} {σ0 : L2.St} {k : Nat} {q : Str} {TT : (XK → Hp → VK → Prop) → Hp → VK → Prop} {te : TE} {σ : L2.St} {H : Hp} {Q : VK} (h : te σ H fun v H1 => KC X0 σ0 k q TT v H1 Q) : tKindC X0 σ0 k q TT te σ H Q := h
theorem r_lamT {T : List (Addr × Str)} {mk : Addr → LF} {σ : L2.St} {H : Hp} {Q : VK} (h : Tabs T H ∧ ∀ (f c' : Addr) (H1 : Hp), ExtN H H1 → (∀ b, H1 b = none → H b = none) → Tabs T H1 → H f = none → H1 f = some (LamO f (mk c')) → H1 c' = some (CodeO c' (mk c').qual) → Q (.ref f) H1) : tLamT T mk σ H Q := h
end Rd
namespace Rd
open PySem L2 LamX NdefX
/-! ### lists of words -/
theorem Fl.str (n : Nat) {z : Str} (h : PyData.strOk z = true) : Fl n (.str z) := ⟨by rw [PyData.canLay0]; exact h, by rw [PyData.depth]; omega⟩
theorem is_strs {H : Hp} {a : Addr} {ws : List Str} (h : H a = some (.lst (ws.map V.str))) : Is H (.ref a) (.list (ws.map PyData.str)) := by
  refine .lst h ?_
  clear h
  induction ws with
  | nil => exact .nil
  | cons x r ih => exact .cons (.str x) ih
theorem fl_strs {ws : List Str} (h : ∀ x ∈ ws, PyData.strOk x = true) : Fl 1 (.list (ws.map PyData.str)) := Fl.list fun d hd => by
  obtain ⟨x, hx, rfl⟩ := List.mem_map.mp hd
  exact Fl.str _ (h x hx)
theorem r_repS {l : Addr} {x : Str} {k : Int} {H : Hp} {Q : VK} (h : H l = some (.lst [.str x])) (h0 : 0 ≤ k) (h1 : k ≤ 1000) (q : ∀ p, H p = none → Q (.ref p) (upd H p (.lst ((List.replicate k.toNat x).map V.str)))) : rRep (.ref l) (.int k) H Q := by
  refine ⟨l, k, _, rfl, rfl, h, by omega, by omega, ?_, fun p np => ?_⟩
  · rw [PySem.sizeLine_eq]
    show 1 * _ ≤ _
    omega
  · rw [rep_flat]
    exact q p np
def ws2 : List Str := ["BadStanding", "BadStanding", "BadStanding", "BadStanding", "BadStanding", "BadMoves", "BadMoves", "BadMarks", "BadMarks"]
def ws3 : List Str := ["BadMoves", "BadMoves", "BadGoal", "BadGoal", "BadGoal"]
def ws5 : List Str := ["BadGoal", "BadGoal"]
theorem ok2 : ∀ x ∈ ws2, PyData.strOk x = true := by decide +kernel
theorem ok3 : ∀ x ∈ ws3, PyData.strOk x = true := by decide +kernel
theorem ok5 : ∀ x ∈ ws5, PyData.strOk x = true := by decide +kernel
/-! ### why each is refused -/
section
variable {K : PySem.W.Frag} {G cG cS cM cO cK : Addr} {cs : Nat → Addr} {r p : Int} {x : Int × Int} {ms gs ks : List Int}
theorem why1 (h : ¬ GearOk r p) : ∀ i, Why cG cS cM cO cK r p x ms gs ks i cG
  | 0 => .inl ⟨h, rfl⟩
  | 1 => .inl ⟨h, rfl⟩
  | 2 => .inl ⟨h, rfl⟩
  | 3 => .inl ⟨h, rfl⟩
  | 4 => .inl ⟨h, rfl⟩
  | 5 => .inl ⟨h, rfl⟩
  | 6 => .inl ⟨h, rfl⟩
  | 7 => .inl ⟨h, rfl⟩
  | n + 8 => .inl ⟨h, rfl⟩
theorem why2 (KS : KindOf K G cs cS 1) (KM : KindOf K G cs cM 2) (KK : KindOf K G cs cK 4) (ok : GearOk r p) (bS : ¬ Stg p x) (l : 100 < ms.length) (bK : ¬ Marks r ks) : ∀ i < 9, ∃ D j, Why cG cS cM cO cK r p x ms gs ks i D ∧ KindOf K G cs D j ∧ j < 6 ∧ ws2[i]? = some (kindW j) := fun i hi => by
  match i, hi with
  | 0, _ => exact ⟨cS, 1, .inr (.inl ⟨ok, bS, rfl⟩), KS, by decide, rfl⟩
  | 1, _ => exact ⟨cS, 1, .inr (.inl ⟨ok, bS, rfl⟩), KS, by decide, rfl⟩
  | 2, _ => exact ⟨cS, 1, .inr (.inl ⟨ok, bS, rfl⟩), KS, by decide, rfl⟩
  | 3, _ => exact ⟨cS, 1, .inr (.inl ⟨ok, bS, rfl⟩), KS, by decide, rfl⟩
  | 4, _ => exact ⟨cS, 1, .inr (.inl ⟨ok, bS, rfl⟩), KS, by decide, rfl⟩
  | 5, _ => exact ⟨cM, 2, .inr ⟨ok, l, rfl⟩, KM, by decide, rfl⟩
  | 6, _ => exact ⟨cM, 2, .inr ⟨ok, l, rfl⟩, KM, by decide, rfl⟩
  | 7, _ => exact ⟨cK, 4, .inr (.inl ⟨ok, bK, rfl⟩), KK, by decide, rfl⟩
  | 8, _ => exact ⟨cK, 4, .inr ⟨ok, bK, rfl⟩, KK, by decide, rfl⟩
  | n + 9, h => exact absurd h (by omega)
theorem why3 (KM : KindOf K G cs cM 2) (KO : KindOf K G cs cO 3) (ok : GearOk r p) (st : Stg p x) (l : 100 < ms.length) (bO : ¬ (0 ≤ gs.headD 0 ∧ gs.headD 0 < r)) (bo : outs r gs ≠ []) : ∀ i < 5, ∃ D j, Why cG cS cM cO cK r p x ms gs ks i D ∧ KindOf K G cs D j ∧ j < 6 ∧ ws3[i]? = some (kindW j) := fun i hi => by
  match i, hi with
  | 0, _ => exact ⟨cM, 2, .inr (.inr ⟨ok, st, l, rfl⟩), KM, by decide, rfl⟩
  | 1, _ => exact ⟨cM, 2, .inr (.inr ⟨ok, st, l, rfl⟩), KM, by decide, rfl⟩
  | 2, _ => exact ⟨cO, 3, .inr (.inr ⟨ok, st, bO, rfl⟩), KO, by decide, rfl⟩
  | 3, _ => exact ⟨cO, 3, .inr (.inr ⟨ok, st, .inr bo, rfl⟩), KO, by decide, rfl⟩
  | 4, _ => exact ⟨cO, 3, .inr (.inr ⟨ok, st, .inr bo, rfl⟩), KO, by decide, rfl⟩
  | n + 5, h => exact absurd h (by omega)
theorem outs_head (l : 0 < gs.length) (bO : ¬ (0 ≤ gs.headD 0 ∧ gs.headD 0 < r)) : outs r gs ≠ [] := fun e => by
  match gs, l with
  | y :: _, _ => exact bO (outs_nil.mp e y List.mem_cons_self)
theorem marks0 (h : 0 < r) {y : Int} (h0 : 0 ≤ y) (h1 : y < r) : Marks r [y] := ⟨by simp, by simp, by simp, fun m hm => by rw [List.mem_singleton.mp hm]; exact ⟨h0, h1⟩⟩
end
end Rd
namespace Rd
open PySem PySem.Spec PyProof.Rows L2 LamX NdefX
/-! ### the two lambdas of law that are kept -/
def forBody : Stmt → List Stmt
  | .For _ _ b _ _ => b
  | _ => []
def lvE (i : Nat) : Expr := lamOf ((forBody ((defBody s_law).getD 1 (.Pass ⟨0, 0, 0, 0⟩))).getD (10 + i) (.Pass ⟨0, 0, 0, 0⟩))
def lvFr : List Str := ["_law_gear_here", "_law_standing_here"]
theorem lv_nsc : ∀ i < 2, nscB lvFr [] lvFr (laSc (lvE i)) = true := by decide +kernel
theorem lv_lam : ∀ i < 2, lamSB (defScope s_law) (laSc (lvE i)) = true := by decide +kernel
theorem lv_fr : ∀ i < 2, lvFr.all (fun y => decide ((y, NameKind.free) ∈ (laSc (lvE i)).names)) = true := by decide +kernel
section
variable {P : Program} {w : World} {K : PySem.W.Frag} {mg : Str → Option Value} {base : Heap} {C cG cS cM cO cK : Addr} {TT : List (Addr × Str)} {f c0 : Addr} {cl : List (Str × Addr)}
theorem lv0 (W : WkHas P w K mg base C TT cG cS cM cO cK) : ∃ tb : XK → TE, LiveOk P w K mg base 13 f (LF.of qLv (lvE 0) cl c0) lvFr tb ∧ ∀ (E : XK) (Q : VK) (H : Hp) (g z : Addr) (r p : Int) (x : Int × Int), H g = some (.tup [.int r, .int p]) → H z = some (.tup [.int x.1, .int x.2]) → GearOk r p → Stg p x → Rf cO E H → tb E [some (.ref g), some (.ref z)] H Q := by
  have H_path := W.H_path
  have HX_path := W.HX_path
  refine ⟨_, ⟨nscope_by (lv_nsc 0 (by decide)), fun _ _ => rfl, fun A outer s H E hr => (pe_or (pe_has H_path hr (by omega) rfl pass0 (pa_cons (pv 0) (pa_cons (pv 1) (pa_cons (pe_op op_rep (pe_lst (pa_cons pe_int pa_nil)) pe_int) pa_nil)))) (pe_has HX_path hr (by omega) rfl passN (pa_cons (pv 0) (pa_cons (pv 1) (pa_cons (pe_op op_rep (pe_lst (pa_cons pe_int pa_nil)) pe_int) pa_nil)))))⟩, fun E Q H g z r p x hg hz ok st kE => ?_⟩
  refine r_eorR ?_
  walk_at "go"
  intro l nl
  walk_at "go"
  refine r_repI upd_same (by decide) (by decide) fun l' nl' => ?_
  have s2 := (same_new (u := .lst [V.int 0]) nl).trans (same_new (u := .lst ((List.replicate (9 : Int).toNat (0 : Int)).map V.int)) nl')
  walk_at "go"
  exact ⟨g, r, p, z, x, l', List.replicate (9 : Int).toNat 0, rfl, s2 _ _ hg, s2 _ _ hz, SqL.of upd_same, by decide, .inr (.inr ⟨ok, st, .inl (by decide), kE.later s2⟩)⟩
theorem lv1 (W : WkHas P w K mg base C TT cG cS cM cO cK) : ∃ tb : XK → TE, LiveOk P w K mg base 13 f (LF.of qLv (lvE 1) cl c0) lvFr tb ∧ ∀ (E : XK) (Q : VK) (H : Hp) (g z : Addr) (r p : Int) (x : Int × Int), H g = some (.tup [.int r, .int p]) → H z = some (.tup [.int x.1, .int x.2]) → GearOk r p → Stg p x → Rf cO E H → tb E [some (.ref g), some (.ref z)] H Q := by
  have H_tour := W.H_tour
  have HX_tour := W.HX_tour
  refine ⟨_, ⟨nscope_by (lv_nsc 1 (by decide)), fun _ _ => rfl, fun A outer s H E hr => (pe_or (pe_has H_tour hr (by omega) rfl pass0 (pa_cons (pv 0) (pa_cons (pv 1) (pa_cons (pe_op op_rep (pe_lst (pa_cons pe_int pa_nil)) pe_int) pa_nil)))) (pe_has HX_tour hr (by omega) rfl passN (pa_cons (pv 0) (pa_cons (pv 1) (pa_cons (pe_op op_rep (pe_lst (pa_cons pe_int pa_nil)) pe_int) pa_nil)))))⟩, fun E Q H g z r p x hg hz ok st kE => ?_⟩
  refine r_eorR ?_
  walk_at "go"
  intro l nl
  walk_at "go"
  refine r_repI upd_same (by decide) (by decide) fun l' nl' => ?_
  have s2 := (same_new (u := .lst [V.int 0]) nl).trans (same_new (u := .lst ((List.replicate (6 : Int).toNat (0 : Int)).map V.int)) nl')
  walk_at "go"
  exact ⟨g, r, p, z, x, l', List.replicate (6 : Int).toNat 0, rfl, s2 _ _ hg, s2 _ _ hz, SqL.of upd_same, by decide, .inr (.inr ⟨ok, st, .inl (by decide), kE.later s2⟩)⟩
theorem kc_go {X0 : Cx} {σ0 : L2.St} {F : LF} {fr : List Str} {js : List Nat} {tb : XK → TE} {H : Hp} {Q : VK} {G D : Addr} {i : Nat} {cs : Nat → Addr} {q : Str} (hf : H f = some (LamO f F)) (hc : H F.c = some (CodeO F.c F.qual)) (hq : F.qual = q) (L : LiveOk X0.prog X0.w X0.K X0.mg X0.base 13 f F fr tb) (cp : X0.Ok → Caps X0 F.cl fr js)
    (KD : KindOf K G cs D i) (hi : i < 6) (ht : ∀ (E : XK) (Q : VK), Rf D E H → tb E (startF fr [] (js.map (slotAt σ0))) H Q) (k : ∀ H', Same H H' → Q (.str (kindW i)) H') : KC X0 σ0 13 q (TTKind K G cs) (.ref f) H Q :=
  ⟨f, F, fr, js, tb, rfl, hf, hc, hq, L, cp, hf, hc, ht _ _ fun H' s' => ⟨D, i, rfl, rfl, KD, hi, fun H'' s'' => k _ (s'.trans s'')⟩⟩
end
end Rd
namespace Rd
open PySem L2 LamX NdefX
/-- what stands through a turn -/
structure TurnH (K : PySem.W.Frag) (TT : List (Addr × Str)) (H : Hp) (st a : Addr) (ns : List Int) (g : Addr) (r p : Int) (z : Addr) (x : Int × Int) : Prop where
  s : St H st a
  hS : SqL K H a (ns.map V.int)
  T : Tabs TT H
  hg : H g = some (.tup [.int r, .int p])
  hz : H z = some (.tup [.int x.1, .int x.2])
theorem TurnH.ext {K : PySem.W.Frag} {TT : List (Addr × Str)} {H H' : Hp} {st a : Addr} {ns : List Int} {g : Addr} {r p : Int} {z : Addr} {x : Int × Int} (h : TurnH K TT H st a ns g r p z x) (e : ExtN H H') (T : Tabs TT H') : TurnH K TT H' st a ns g r p z x :=
  ⟨ExtN.st e h.s, FrN.sq (FrN.ext e) h.hS, T, ExtN.at_tup e h.hg, ExtN.at_tup e h.hz⟩
theorem TurnH.same {K : PySem.W.Frag} {TT : List (Addr × Str)} {H H' : Hp} {st a : Addr} {ns : List Int} {g : Addr} {r p : Int} {z : Addr} {x : Int × Int} (h : TurnH K TT H st a ns g r p z x) (e : Same H H') : TurnH K TT H' st a ns g r p z x := h.ext (ExtN.of e) (h.T.ext e)
theorem BadAt.ext {H H' : Hp} {t : Addr} {r p : Int} {x : Int × Int} {od be lo go mk : Addr} {r' p' s' : Int} {n : Nat} {gs ks : List Int} (h : BadAt H t r p x od be lo go mk r' p' s' n gs ks) (e : ExtN H H') : BadAt H' t r p x od be lo go mk r' p' s' n gs ks :=
  ⟨ExtN.at_tup e h.at_, ExtN.at_tup e h.hod, ExtN.at_tup e h.hbe, ExtN.at_lst e h.hlo, ExtN.at_lst e h.hgo, ExtN.at_tup e h.hmk, h.bG, h.bS, h.n1, h.n2, h.g1, h.g2, h.bO, h.bK, h.k2⟩
section
variable {P : Program} {w : World} {K : PySem.W.Frag} {mg : Str → Option Value} {base : Heap}
set_option maxHeartbeats 16000000 in
theorem ok_law {TT : List (Addr × Str)} {c Pt : Addr} {G C cG cS cM cO cK : Addr} {cs : Nat → Addr} {fl : Addr} {fd : FuncData} (B : Bl mg) (F : FunTabF K "law" s_law fl fd c) (TB : TabB base mg c Pt) (hmT : (Pt, qLv) ∈ TT) (huT : ∀ p ∈ TT, p.1 = Pt → p.2 = qLv)
    (H_law_start : Has P w K mg base CX0 1 "_law_start" (spStart K)) (H_law_gear : Has P w K mg base CX0 2 "_law_gear" (spGear K)) (H_law_standing : Has P w K mg base CX0 2 "_law_standing" (spStanding K)) (H_law_bad : Has P w K mg base CX0 3 "_law_bad" (spBad K)) (H_law_of_gears : Has P w K mg base CX0 1 "_law_of_gears" (spOG TT))
    (W : WkHas P w K mg base C TT cG cS cM cO cK) (F_law_kind : FunAt K mg "_law_kind" s_law_kind) (Z_ValueError : mg "ValueError" = none) (G_GearError : ClsG mg "GearError" G) (G_BadGear : ClsG mg "BadGear" (cs 0)) (G_BadStanding : ClsG mg "BadStanding" (cs 1))
    (G_BadMoves : ClsG mg "BadMoves" (cs 2)) (G_BadGoal : ClsG mg "BadGoal" (cs 3)) (G_BadMarks : ClsG mg "BadMarks" (cs 4)) (G_BadMark : ClsG mg "BadMark" (cs 5)) (G_BadText : ClsG mg "BadText" (cs 6)) (KG : KindOf K G cs cG 0) (KS : KindOf K G cs cS 1) (KM : KindOf K G cs cM 2) (KO : KindOf K G cs cO 3) (KK : KindOf K G cs cK 4) :
    FnOk P w K mg base CX0 18 fl fd ["_law_script"] (spLawT K TT) := by
  refine F.ok sc_law (fun vs H Q E h => ?_) (fun A outer s H vs Q E hr h => ?_)
  · obtain ⟨a, ns, rfl, _⟩ := h
    rfl
  · obtain ⟨a, ns, rfl, hS, hlen, hT, k⟩ := h
    have HKX_Keeper := W.HKX_Keeper
    have HX_written := W.HX_written
    refine ⟨_, (pss_cons (ps_set (i := 1) sc_law.nd rfl (by first | exact Or.inl rfl | exact Or.inr rfl) (pe_has H_law_start hr (by omega) rfl pass0 (pa_cons (pv 0) pa_nil)))
 (pss_cons (ps_for PassesOwn.never rfl (pi_range1 rfl B.range (pa_cons pe_int pa_nil)) (pg_name (i := 2) sc_law.nd rfl (by first | exact Or.inl rfl | exact Or.inr rfl)) (pss_cons (ps_set (i := 3) sc_law.nd rfl (by first | exact Or.inl rfl | exact Or.inr rfl) (pe_has H_law_gear hr (by omega) rfl pass0 (pa_cons (pv 1) (pa_cons pe_bl pa_nil))))
 (pss_cons (ps_set (i := 4) sc_law.nd rfl (by first | exact Or.inl rfl | exact Or.inr rfl) (pe_has H_law_standing hr (by omega) rfl pass0 (pa_cons (pv 1) (pa_cons (pv 3) pa_nil))))
 (pss_cons (ps_asg (pe_has H_law_bad hr (by omega) rfl pass0 (pa_cons (pv 1) (pa_cons (pv 3) (pa_cons (pv 4) pa_nil)))) (kpg_tup (K := K) rfl rfl (pgs_cons (pg_name (i := 5) sc_law.nd rfl (by first | exact Or.inl rfl | exact Or.inr rfl)) (pgs_cons (pg_name (i := 6) sc_law.nd rfl (by first | exact Or.inl rfl | exact Or.inr rfl)) (pgs_cons (pg_name (i := 7) sc_law.nd rfl (by first | exact Or.inl rfl | exact Or.inr rfl)) (pgs_cons (pg_name (i := 8) sc_law.nd rfl (by first | exact Or.inl rfl | exact Or.inr rfl)) (pgs_cons (pg_name (i := 9) sc_law.nd rfl (by first | exact Or.inl rfl | exact Or.inr rfl)) pgs_nil)))))))
 (pss_cons (ps_if (pt_cmpR (kop_ne (K := K) rfl hr.units) (pe_lc (own := [("_law_work", 12)]) (g := (gName 12)) rfl sc_law.nd (kpi_list (K := K) rfl (pe_has H_law_of_gears hr (by omega) rfl pass0 (pa_cons (pv 5) (pa_cons (pv 6) (pa_cons (pv 7) (pa_cons (pv 8) (pa_cons (pv 9) pa_nil))))))) (blkOk_by (N := ["_law_script", "_law_state", "_law_turn", "_law_gear_here", "_law_standing_here", "_law_odd", "_law_beside", "_law_long", "_law_goals", "_law_marks", "_law_words", "_law_works", "_law_work"]) (sc := defScope s_law) (own := [("_law_work", 12)]) (by decide +kernel)) (fun _ _ _ _ _ => (pg_name (i := 12) sc_law.nd rfl (by first | exact Or.inl rfl | exact Or.inr rfl))) (fun _ _ _ _ _ => (pts_one (pt_cmpR (kop_ne (K := K) rfl hr.units) (kpe_kindR (P := P) (w := w) (K := K) (mg := mg) (base := base) (TT := TTKind K G cs) (q := qWk) (k := 14) rfl rfl rfl rfl rfl F_law_kind sc_law_kind bo_law_kind rfl rfl (by first | exact Or.inl rfl | exact Or.inr (Or.inl rfl)) (fun g cdg => kind_gives B Z_ValueError (hr.mono (by omega)) G_GearError G_BadGear G_BadStanding G_BadMoves G_BadGoal G_BadMarks G_BadMark G_BadText) (hr.mono (by omega)) (pv 12)) pe_str (nomark _)))) (fun _ _ _ _ _ => (pv 12))) (pe_lst pa_nil) (nomark _)) (pss_one (ps_ret pe_bl)) pss_nil)
 (pss_cons (ps_setLc (i := 10) (own := [("_law_work", 12)]) (g := (gName 12)) rfl sc_law.nd rfl rfl (sw_true rfl rfl rfl (by decide +kernel)) (kpi_list (K := K) rfl (pe_has H_law_of_gears hr (by omega) rfl pass0 (pa_cons (pv 3) (pa_cons (pv 6) (pa_cons (pv 7) (pa_cons (pv 8) (pa_cons (pv 9) pa_nil))))))) (blkOk_by (N := ["_law_script", "_law_state", "_law_turn", "_law_gear_here", "_law_standing_here", "_law_odd", "_law_beside", "_law_long", "_law_goals", "_law_marks", "_law_words", "_law_works", "_law_work"]) (sc := defScope s_law) (own := [("_law_work", 12)]) (by decide +kernel)) (fun _ _ _ _ _ => (pg_name (i := 12) sc_law.nd rfl (by first | exact Or.inl rfl | exact Or.inr rfl))) (fun _ _ _ _ _ => pts_nil) (fun _ _ _ _ _ => (kpe_kindR (P := P) (w := w) (K := K) (mg := mg) (base := base) (TT := TTKind K G cs) (q := qWk) (k := 14) rfl rfl rfl rfl rfl F_law_kind sc_law_kind bo_law_kind rfl rfl (by first | exact Or.inl rfl | exact Or.inr (Or.inl rfl)) (fun g cdg => kind_gives B Z_ValueError (hr.mono (by omega)) G_GearError G_BadGear G_BadStanding G_BadMoves G_BadGoal G_BadMarks G_BadMark G_BadText) (hr.mono (by omega)) (pv 12))))
 (pss_cons (ps_if (pt_cmpR (kop_ne (K := K) rfl hr.units) (pv 10) (pe_op (kop_add (K := K) rfl) (pe_op (kop_add (K := K) rfl) (pe_op op_rep (pe_lst (pa_cons pe_str pa_nil)) pe_int) (pe_op op_rep (pe_lst (pa_cons pe_str pa_nil)) pe_int)) (pe_op op_rep (pe_lst (pa_cons pe_str pa_nil)) pe_int)) (nomark _)) (pss_one (ps_ret pe_bl)) pss_nil)
 (pss_cons (ps_setLc (i := 10) (own := [("_law_work", 12)]) (g := (gName 12)) rfl sc_law.nd rfl rfl (sw_true rfl rfl rfl (by decide +kernel)) (kpi_list (K := K) rfl (pe_slice (ksl (K := K) rfl) (pe_has H_law_of_gears hr (by omega) rfl pass0 (pa_cons (pv 3) (pa_cons (pv 4) (pa_cons (pv 7) (pa_cons (pv 8) (pa_cons (pe_tup (pa_cons pe_int pa_nil)) pa_nil)))))) po_none (po_some pe_int))) (blkOk_by (N := ["_law_script", "_law_state", "_law_turn", "_law_gear_here", "_law_standing_here", "_law_odd", "_law_beside", "_law_long", "_law_goals", "_law_marks", "_law_words", "_law_works", "_law_work"]) (sc := defScope s_law) (own := [("_law_work", 12)]) (by decide +kernel)) (fun _ _ _ _ _ => (pg_name (i := 12) sc_law.nd rfl (by first | exact Or.inl rfl | exact Or.inr rfl))) (fun _ _ _ _ _ => pts_nil) (fun _ _ _ _ _ => (kpe_kindR (P := P) (w := w) (K := K) (mg := mg) (base := base) (TT := TTKind K G cs) (q := qWk) (k := 14) rfl rfl rfl rfl rfl F_law_kind sc_law_kind bo_law_kind rfl rfl (by first | exact Or.inl rfl | exact Or.inr (Or.inl rfl)) (fun g cdg => kind_gives B Z_ValueError (hr.mono (by omega)) G_GearError G_BadGear G_BadStanding G_BadMoves G_BadGoal G_BadMarks G_BadMark G_BadText) (hr.mono (by omega)) (pv 12))))
 (pss_cons (ps_if (pt_cmpR (kop_ne (K := K) rfl hr.units) (pv 10) (pe_op (kop_add (K := K) rfl) (pe_op op_rep (pe_lst (pa_cons pe_str pa_nil)) pe_int) (pe_op op_rep (pe_lst (pa_cons pe_str pa_nil)) pe_int)) (nomark _)) (pss_one (ps_ret pe_bl)) pss_nil)
 (pss_cons (ps_if (pt_cmpR (kop_ne (K := K) rfl hr.units) (pe_kindL (k := 13) F_law_kind sc_law_kind bo_law_kind rfl rfl (by first | exact Or.inl rfl | exact Or.inr (Or.inl rfl)) (fun g cdg => kind_gives B Z_ValueError (hr.mono (by omega)) G_GearError G_BadGear G_BadStanding G_BadMoves G_BadGoal G_BadMarks G_BadMark G_BadText) TB rfl hmT huT (hr.mono (by omega)) (lamS_by (sc := defScope s_law) (by decide +kernel)) rfl (fun _ _ _ _ _ => rfl) (fun _ _ _ _ _ _ _ hr => (pe_hasMk HKX_Keeper hr (by omega) rfl passLam (pa_cons (pv 3) (pa_cons (pe_tup (pa_cons pe_int pa_nil)) (pa_cons (pv 6) pa_nil)))))) pe_str (nomark _)) (pss_one (ps_ret pe_bl)) pss_nil)
 (pss_cons (ps_if (pt_cmpR (kop_ne (K := K) rfl hr.units) (pe_kindL (k := 13) F_law_kind sc_law_kind bo_law_kind rfl rfl (by first | exact Or.inl rfl | exact Or.inr (Or.inl rfl)) (fun g cdg => kind_gives B Z_ValueError (hr.mono (by omega)) G_GearError G_BadGear G_BadStanding G_BadMoves G_BadGoal G_BadMarks G_BadMark G_BadText) TB rfl hmT huT (hr.mono (by omega)) (lamS_by (sc := defScope s_law) (by decide +kernel)) rfl (fun _ _ _ _ _ => rfl) (fun _ _ _ _ _ _ _ hr => (pe_has HX_written hr (by omega) rfl passLam (pa_cons (pv 7) pa_nil)))) pe_str (nomark _)) (pss_one (ps_ret pe_bl)) pss_nil)
 (pss_cons (ps_set (i := 11) sc_law.nd rfl (by first | exact Or.inl rfl | exact Or.inr rfl) (pe_lst (pa_cons (pe_lamT TB rfl hmT huT (lamS_by (sc := defScope s_law) (by decide +kernel)) rfl) pa_nil)))
 (pss_cons (ps_expr (kpe_bm (K := K) rfl PySem.F.plainAttrs_list PySem.F.slot_list_append PySem.F.type_list_append mt_append (pv 11) (pa_cons (pe_lamT TB rfl hmT huT (lamS_by (sc := defScope s_law) (by decide +kernel)) rfl) pa_nil)))
 (pss_cons (ps_if (pt_cmpR (kop_ne (K := K) rfl hr.units) (pe_lcI (own := [("_law_work", 12)]) (g := (gName 12)) rfl sc_law.nd (kpi_list (K := K) rfl (pv 11)) (blkOk_by (N := ["_law_script", "_law_state", "_law_turn", "_law_gear_here", "_law_standing_here", "_law_odd", "_law_beside", "_law_long", "_law_goals", "_law_marks", "_law_words", "_law_works", "_law_work"]) (sc := defScope s_law) (own := [("_law_work", 12)]) (by decide +kernel)) (fun _ _ _ _ _ => (pg_name (i := 12) sc_law.nd rfl (by first | exact Or.inl rfl | exact Or.inr rfl))) (fun _ _ _ _ _ _ _ I hfp => pe_kindC (TT := TTKind K G cs) (q := qLv) (k := 13) I hfp (fun _ => rfl) F_law_kind sc_law_kind bo_law_kind rfl rfl (by first | exact Or.inl rfl | exact Or.inr (Or.inl rfl)) (fun g cdg => kind_gives B Z_ValueError (hr.mono (by omega)) G_GearError G_BadGear G_BadStanding G_BadMoves G_BadGoal G_BadMarks G_BadMark G_BadText) (hr.mono (by omega)) (pv 12))) (pe_op op_rep (pe_lst (pa_cons pe_str pa_nil)) pe_int) (nomark _)) (pss_one (ps_ret pe_bl)) pss_nil)
 (pss_cons (ps_set (i := 11) sc_law.nd rfl (by first | exact Or.inl rfl | exact Or.inr rfl) (pe_has H_law_of_gears hr (by omega) rfl pass0 (pa_cons (pv 3) (pa_cons (pv 4) (pa_cons (pe_op op_rep (pe_lst (pa_cons pe_int pa_nil)) pe_int) (pa_cons (pe_op op_rep (pe_lst (pa_cons (pe_op op_sub (pe_ix (kix (K := K) rfl) (pv 3) pe_int (fun _ _ => rfl)) pe_int) pa_nil)) pe_int) (pa_cons (pe_tup (pa_cons (pe_op op_sub (pe_ix (kix (K := K) rfl) (pv 3) pe_int (fun _ _ => rfl)) pe_int) pa_nil)) pa_nil)))))))
 (pss_one (ps_if (pt_cmpR (kop_ne (K := K) rfl hr.units) (pe_lc (own := [("_law_work", 12)]) (g := (gName 12)) rfl sc_law.nd (kpi_list (K := K) rfl (pv 11)) (blkOk_by (N := ["_law_script", "_law_state", "_law_turn", "_law_gear_here", "_law_standing_here", "_law_odd", "_law_beside", "_law_long", "_law_goals", "_law_marks", "_law_words", "_law_works", "_law_work"]) (sc := defScope s_law) (own := [("_law_work", 12)]) (by decide +kernel)) (fun _ _ _ _ _ => (pg_name (i := 12) sc_law.nd rfl (by first | exact Or.inl rfl | exact Or.inr rfl))) (fun _ _ _ _ _ => (pts_one (pt_val (pe_callB (kcc_isi (K := K) rfl) rfl B.isinstance (by decide +kernel) (pa_cons (kpe_kindR (P := P) (w := w) (K := K) (mg := mg) (base := base) (TT := TTKind K G cs) (q := qWk) (k := 14) rfl rfl rfl rfl rfl F_law_kind sc_law_kind bo_law_kind rfl rfl (by first | exact Or.inl rfl | exact Or.inr (Or.inl rfl)) (fun g cdg => kind_gives B Z_ValueError (hr.mono (by omega)) G_GearError G_BadGear G_BadStanding G_BadMoves G_BadGoal G_BadMarks G_BadMark G_BadText) (hr.mono (by omega)) (pv 12)) (pa_cons (pe_bltn rfl B.str (by decide +kernel) (v := .ty "str") rfl) pa_nil)))))) (fun _ _ _ _ _ => (pv 12))) (pe_lst pa_nil) (nomark _)) (pss_one (ps_ret pe_bl)) pss_nil)))))))))))))))))
 (pss_one (ps_ret pe_bl)))), ?_⟩
    refine r_start (σ' := [some (.ref a), none, none, none, none, none, none, none, none, none, none, none, none]) rfl ?_
    walk_at "go"
    refine spStart_i hS fun st H1 _ sm1 s1 => ?_
    walk_at "go"
    refine ⟨_, rfl, by decide, by decide, fw_range (fun i σ H2 => ∃ v2 v3 v4 v5 v6 v7 v8 v9 v10 v11, σ = [some (.ref a), some (.ref st), v2, v3, v4, v5, v6, v7, v8, v9, v10, v11, none] ∧ St H2 st a ∧ SqL K H2 a (ns.map V.int) ∧ Tabs TT H2)
      ⟨_, _, _, _, _, _, _, _, _, _, rfl, s1, sm1.seq hS, Tabs.ext hT sm1⟩ ?_ ?_⟩
    · rintro i σ H2 hi ⟨v2, v3, v4, v5, v6, v7, v8, v9, v10, v11, rfl, s2, hS2, T2⟩
      walk_at "go"
      refine spGear_i s2 hS2 fun g r p H3 r2 r6 p0 p6 _ s3 R3 hg => ?_
      walk_at "go"
      refine spStanding_i s3 (fr_sq R3 hS2) hg p0 p6 fun z m sh H4 z1 z2 _ _ s4 R4 hz => ?_
      have ok : GearOk r p := ⟨r2, r6, p0, p6⟩
      have sg : Stg p (m, sh) := ⟨z1, z2⟩
      have hg4 := R4 _ _ hg nst_tup
      have hS4 := fr_sq R4 (fr_sq R3 hS2)
      have T4 := Tabs.fr (Tabs.fr T2 R3) R4
      walk_at "go"
      refine ⟨st, a, ns, g, r, p, z, (m, sh), rfl, s4, hS4, hg4, ok, hz, fun t od be lo go mk r' p' s' n gs ks H5 BA s5 R5 => ?_⟩
      have hat := BA.at_
      have U5 : TurnH K TT H5 st a ns g r p z (m, sh) := ⟨s5, fr_sq R5 hS4, Tabs.fr T4 R5, R5 _ _ hg4 nst_tup, R5 _ _ hz nst_tup⟩
      obtain ⟨x, hx⟩ : ∃ x : Int × Int, x = (m, sh) := ⟨_, rfl⟩
      rw [← hx] at BA U5 sg
      have ln : (List.replicate n (1 : Int)).length = n := List.length_replicate
      have n1 := BA.n1
      have n2 := BA.n2
      have g2 := BA.g2
      walk_at "go"
      refine ⟨od, be, lo, go, mk, rfl, U5.T, fun l1 fs1 H6 nl1 e6 T6 hl1 len1 W1 => ?_⟩
      have U6 := U5.ext e6 T6
      have B6 := BA.ext e6
      walk_at "go"
      -- all refuse what is no gear
      refine ⟨_, rfl, ⟨_, SqL.of hl1⟩, fun D nD => lcw_list (K := K) (a := l1) (xs := fs1.map V.ref) (σw := [some (.ref a), some (.ref st), some (.int (0 + i)), some (.ref g), some (.ref z), some (.ref od), some (.ref be), some (.ref lo), some (.ref go), some (.ref mk), v10, v11, none])
        (fun n H8 => Same H6 H8 ∧ H8 D = some (.lst [])) rfl ⟨same_new nD, upd_same⟩ (fun n H8 _ h => SqL.of (h.1 _ _ hl1)) (fun q y H8 hn h => ?_) fun H8 h => ?_⟩
      · obtain ⟨h8, hD⟩ := h
        obtain ⟨f, hf, rfl⟩ := map_at hn
        have hq : q < 9 := by
          have := (List.getElem?_eq_some_iff.mp hf).1
          omega
        have WH : WkH H8 od be lo go mk r' p' (x.1, s') (List.replicate n 1) gs ks := ⟨h8 _ _ B6.hod, h8 _ _ B6.hbe, h8 _ _ B6.hlo, h8 _ _ B6.hgo, h8 _ _ B6.hmk, by omega, by omega, B6.k2, B6.g1⟩
        walk_at "go"
        refine ⟨rfl, ?_⟩
        walk_at "go"
        refine r_kindR ?_
        walk_at "go"
        refine kr_refuse (wk_refuse W q hq ((W1 q f hf).ext (ExtN.of h8)) WH (why1 B6.bG q)) KG (by decide) fun H9 s9 => ?_
        walk_at "go"
        refine r_neS ?_
        walk_at "go"
        refine iteNF rfl ?_
        exact ⟨h8.trans s9, s9 _ _ hD⟩
      obtain ⟨h8, hD⟩ := h
      walk_at "go"
      intro t9 n9
      refine r_neNil (ns := []) (at_new n9 hD) upd_same ?_
      have h69 := h8.trans (same_new (u := .lst []) n9)
      have U9 := U6.same h69
      have B9 := B6.ext (ExtN.of h69)
      generalize upd H8 t9 (.lst []) = H9 at U9 B9 ⊢
      walk_at "go"
      refine iteF ?_
      walk_at "go"
      -- the words of the second
      refine ⟨g, be, lo, go, mk, rfl, U9.T, fun l2 fs2 H10 nl2 e10 T10 hl2 len2 W2 => ?_⟩
      have U10 := U9.ext e10 T10
      have B10 := B9.ext e10
      walk_at "go"
      refine ⟨_, rfl, ⟨_, SqL.of hl2⟩, fun D2 nD2 => lcw_list (K := K) (a := l2) (xs := fs2.map V.ref) (σw := [some (.ref a), some (.ref st), some (.int (0 + i)), some (.ref g), some (.ref z), some (.ref od), some (.ref be), some (.ref lo), some (.ref go), some (.ref mk), v10, v11, none])
        (fun n H8 => Same H10 H8 ∧ H8 D2 = some (.lst ((ws2.take n).map V.str))) rfl ⟨same_new nD2, upd_same⟩ (fun n H8 _ h => SqL.of (h.1 _ _ hl2)) (fun q y H8 hn h => ?_) fun H8 h => ?_⟩
      · obtain ⟨h8, hD⟩ := h
        obtain ⟨f, hf, rfl⟩ := map_at hn
        have hq : q < 9 := by
          have := (List.getElem?_eq_some_iff.mp hf).1
          omega
        have WH : WkH H8 g be lo go mk r p (x.1, s') (List.replicate n 1) gs ks := ⟨h8 _ _ U10.hg, h8 _ _ B10.hbe, h8 _ _ B10.hlo, h8 _ _ B10.hgo, h8 _ _ B10.hmk, by omega, by omega, B10.k2, B10.g1⟩
        walk_at "go"
        refine ⟨rfl, ?_⟩
        walk_at "go"
        refine iteT ?_
        refine r_kindR ?_
        walk_at "go"
        obtain ⟨D', j, why, KD, hj, hw⟩ := why2 (cG := cG) (cO := cO) (ms := List.replicate n 1) (gs := gs) KS KM KK ok B10.bS (by rw [ln]; exact n1) B10.bK q hq
        refine kr_refuse (wk_refuse W q hq ((W2 q f hf).ext (ExtN.of h8)) WH why) KD hj fun H9 s9 => ?_
        refine ⟨_, s9 _ _ hD, ?_, fun b o e => at_wr (ne_of_none e nD2) (s9 _ _ (h8 _ _ e)), ?_⟩
        · rw [List.length_map]
          refine small1000 (Nat.le_trans (by rw [List.length_take]; exact Nat.min_le_right _ _) (by decide : ws2.length ≤ 1000))
        · rw [upd_same, take_snoc hw, List.map_append]
          rfl
      obtain ⟨h8, hD2⟩ := h
      rw [List.length_map, len2] at hD2
      have hD2' : H8 D2 = some (.lst (ws2.map V.str)) := hD2
      have U11 := U10.same h8
      have B11 := B10.ext (ExtN.of h8)
      generalize H8 = H11 at hD2' U11 B11 ⊢
      walk_at "go"
      intro la na
      walk_at "go"
      refine r_repS upd_same (by decide) (by decide) fun lb nb => ?_
      walk_at "go"
      intro lc nc
      walk_at "go"
      refine r_repS upd_same (by decide) (by decide) fun ld nd => ?_
      refine r_addL (at_new nd (at_new nc upd_same)) upd_same (by rw [PySem.sizeLine_eq]; decide) fun le ne => ?_
      walk_at "go"
      intro lf nf
      walk_at "go"
      refine r_repS upd_same (by decide) (by decide) fun lg ng => ?_
      refine r_addL (at_new ng (at_new nf upd_same)) upd_same (by rw [PySem.sizeLine_eq]; decide) fun lh nh => ?_
      walk_at "go"
      have sa := (same_new (u := .lst [V.str "BadStanding"]) na).trans (same_new (u := .lst ((List.replicate (5 : Int).toNat ("BadStanding" : Str)).map V.str)) nb)
      have sb := sa.trans ((same_new (u := .lst [V.str "BadMoves"]) nc).trans (same_new (u := .lst ((List.replicate (2 : Int).toNat ("BadMoves" : Str)).map V.str)) nd))
      have sc := sb.trans ((same_new (u := .lst ((List.replicate (5 : Int).toNat ("BadStanding" : Str)).map V.str ++ (List.replicate (2 : Int).toNat ("BadMoves" : Str)).map V.str)) ne).trans (same_new (u := .lst [V.str "BadMarks"]) nf))
      have sd := sc.trans ((same_new (u := .lst ((List.replicate (2 : Int).toNat ("BadMarks" : Str)).map V.str)) ng).trans (same_new (u := .lst (((List.replicate (5 : Int).toNat ("BadStanding" : Str)).map V.str ++ (List.replicate (2 : Int).toNat ("BadMoves" : Str)).map V.str) ++ (List.replicate (2 : Int).toNat ("BadMarks" : Str)).map V.str)) nh))
      refine r_neIs (d := .list (ws2.map PyData.str)) (n := 1) (is_strs (sd _ _ hD2')) (is_strs (show _ = some (.lst (ws2.map V.str)) from upd_same)) (fl_strs ok2) ?_
      have U12 := U11.same sd
      have B12 := B11.ext (ExtN.of sd)
      generalize upd _ lh _ = H12 at U12 B12 ⊢
      walk_at "go"
      refine iteF ?_
      walk_at "go"
      intro tk ntk
      -- the words of the third
      refine ⟨g, z, lo, go, tk, rfl, U12.T.ext (same_new ntk), fun l3 fs3 H13 nl3 e13 T13 hl3 len3 W3 => ?_⟩
      have U13 := (U12.same (same_new (u := .tup [V.int 0]) ntk)).ext e13 T13
      have B13 := (B12.ext (ExtN.of (same_new (u := .tup [V.int 0]) ntk))).ext e13
      have htk13 : H13 tk = some (.tup (([0] : List Int).map V.int)) := ExtN.at_tup e13 upd_same
      walk_at "go"
      refine r_slL (SqL.of hl3) fun l4 n4 => ?_
      rw [cut_take V.ref fs3 (by decide)]
      have s14 := same_new (u := .lst ((fs3.take (5 : Int).toNat).map V.ref)) n4
      have U14 := U13.same s14
      have B14 := B13.ext (ExtN.of s14)
      have htk14 := s14 _ _ htk13
      have W4 : ∀ (i : Nat) (f : Addr), fs3[i]? = some f → LamAt (upd H13 l4 (.lst ((fs3.take (5 : Int).toNat).map V.ref))) f qWk (wkE i) (wkFr i) (wkWs g z lo go tk i) := fun i f hf => (W3 i f hf).ext (ExtN.of s14)
      have hl4 : upd H13 l4 (.lst ((fs3.take (5 : Int).toNat).map V.ref)) l4 = some (.lst ((fs3.take 5).map V.ref)) := upd_same
      generalize upd H13 l4 _ = H14 at U14 B14 htk14 W4 hl4 ⊢
      walk_at "go"
      refine ⟨_, rfl, ⟨_, SqL.of hl4⟩, fun D3 nD3 => lcw_list (K := K) (a := l4) (xs := (fs3.take 5).map V.ref) (σw := [some (.ref a), some (.ref st), some (.int (0 + i)), some (.ref g), some (.ref z), some (.ref od), some (.ref be), some (.ref lo), some (.ref go), some (.ref mk), some (.ref D2), v11, none])
        (fun n H8 => Same H14 H8 ∧ H8 D3 = some (.lst ((ws3.take n).map V.str))) rfl ⟨same_new nD3, upd_same⟩ (fun n H8 _ h => SqL.of (h.1 _ _ hl4)) (fun q y H8 hn h => ?_) fun H8 h => ?_⟩
      · obtain ⟨h8, hD⟩ := h
        obtain ⟨f, hf, rfl⟩ := map_at hn
        have hq : q < 5 := by
          have := (List.getElem?_eq_some_iff.mp hf).1
          rw [List.length_take] at this
          omega
        rw [List.getElem?_take_of_lt hq] at hf
        have WH : WkH H8 g z lo go tk r p x (List.replicate n 1) gs [0] := ⟨h8 _ _ U14.hg, h8 _ _ U14.hz, h8 _ _ B14.hlo, h8 _ _ B14.hgo, h8 _ _ htk14, by omega, by omega, by decide, B14.g1⟩
        walk_at "go"
        refine ⟨rfl, ?_⟩
        walk_at "go"
        refine iteT ?_
        refine r_kindR ?_
        walk_at "go"
        obtain ⟨D', j, why, KD, hj, hw⟩ := why3 (cG := cG) (cS := cS) (cK := cK) (ms := List.replicate n 1) (ks := [0]) KM KO ok sg (by rw [ln]; exact n1) B14.bO (outs_head B14.g1 B14.bO) q hq
        refine kr_refuse (wk_refuse W q (by omega) ((W4 q f hf).ext (ExtN.of h8)) WH why) KD hj fun H9 s9 => ?_
        refine ⟨_, s9 _ _ hD, ?_, fun b o e => at_wr (ne_of_none e nD3) (s9 _ _ (h8 _ _ e)), ?_⟩
        · rw [List.length_map]
          refine small1000 (Nat.le_trans (by rw [List.length_take]; exact Nat.min_le_right _ _) (by decide : ws3.length ≤ 1000))
        · rw [upd_same, take_snoc hw, List.map_append]
          rfl
      obtain ⟨h8, hD3⟩ := h
      rw [List.length_map, List.length_take, len3] at hD3
      have hD3' : H8 D3 = some (.lst (ws3.map V.str)) := hD3
      have U15 := U14.same h8
      have B15 := B14.ext (ExtN.of h8)
      generalize H8 = H15 at hD3' U15 B15 ⊢
      walk_at "go"
      intro ma na
      walk_at "go"
      refine r_repS upd_same (by decide) (by decide) fun mb nb => ?_
      walk_at "go"
      intro mc nc
      walk_at "go"
      refine r_repS upd_same (by decide) (by decide) fun md nd => ?_
      refine r_addL (at_new nd (at_new nc upd_same)) upd_same (by rw [PySem.sizeLine_eq]; decide) fun me ne => ?_
      walk_at "go"
      have sa := (same_new (u := .lst [V.str "BadMoves"]) na).trans (same_new (u := .lst ((List.replicate (2 : Int).toNat ("BadMoves" : Str)).map V.str)) nb)
      have sb := sa.trans ((same_new (u := .lst [V.str "BadGoal"]) nc).trans (same_new (u := .lst ((List.replicate (3 : Int).toNat ("BadGoal" : Str)).map V.str)) nd))
      have sd := sb.trans (same_new (u := .lst ((List.replicate (2 : Int).toNat ("BadMoves" : Str)).map V.str ++ (List.replicate (3 : Int).toNat ("BadGoal" : Str)).map V.str)) ne)
      refine r_neIs (d := .list (ws3.map PyData.str)) (n := 1) (is_strs (sd _ _ hD3')) (is_strs (show _ = some (.lst (ws3.map V.str)) from upd_same)) (fl_strs ok3) ?_
      have U16 := U15.same sd
      have B16 := B15.ext (ExtN.of sd)
      generalize upd _ me _ = H16 at U16 B16 ⊢
      walk_at "go"
      refine iteF ?_
      walk_at "go"
      -- a keeper's standing
      refine r_lam U16.T fun H17 e17 T17 => ?_
      have U17 := U16.ext e17 T17
      have B17 := B16.ext e17
      refine r_kind ?_
      refine r_make ?_
      walk_at "go"
      intro u18 n18
      walk_at "go"
      intro kp dx nkp ndx nek
      have s18 := same_new (u := .tup [V.int 0]) n18
      have hu18 : upd H17 u18 (.tup [V.int 0]) u18 = some (.tup (([0] : List Int).map V.int)) := upd_same
      have s19 : Same (upd H17 u18 (.tup [V.int 0])) (upd (upd (upd H17 u18 (.tup [V.int 0])) dx (.own kp)) kp (.ins C dx [])) := fun b o e => by
        rw [upd_ne (ne_of_none e nkp), upd_ne (ne_of_none e ndx)]
        exact e
      have s1719 := s18.trans s19
      refine ⟨kp, g, r, p, u18, [0], be, (x.1, s'), rfl, s1719 _ _ U17.hg, s19 _ _ hu18, by decide, s1719 _ _ B17.hbe, .inr (.inr ⟨ok, marks0 (by omega) (by decide) (by omega), B17.bS, fun H20 s20 => ⟨cS, 1, rfl, rfl, KS, by decide, fun H21 s21 => ?_⟩⟩)⟩
      have s1721 := (s1719.trans s20).trans s21
      have U21 := U17.same s1721
      have B21 := B17.ext (ExtN.of s1721)
      walk_at "go"
      refine r_neS ?_
      walk_at "go"
      refine iteNF rfl ?_
      walk_at "go"
      -- too many moves are not written
      refine r_lam U21.T fun H22 e22 T22 => ?_
      have U22 := U21.ext e22 T22
      have B22 := B21.ext e22
      refine r_kind ?_
      walk_at "go"
      refine ⟨lo, (List.replicate n (1 : Int)).map V.int, rfl, SqL.of B22.hlo, by rw [List.length_map, ln]; exact n1, fun H23 s23 => ⟨cM, 2, rfl, rfl, KM, by decide, fun H24 s24 => ?_⟩⟩
      have U24 := U22.same (s23.trans s24)
      have B24 := B22.ext (ExtN.of (s23.trans s24))
      walk_at "go"
      refine r_neS ?_
      walk_at "go"
      refine iteNF rfl ?_
      walk_at "go"
      -- two works of this frame
      refine r_lamT ⟨U24.T, fun f0 c0 H25 e25 nn25 T25 nf0 hf0 hc0 => ?_⟩
      have U25 := U24.ext e25 T25
      have B25 := B24.ext e25
      walk_at "go"
      intro l26 n26
      have s26 := same_new (u := .lst [V.ref f0]) n26
      have U26 := U25.same s26
      have B26 := B25.ext (ExtN.of s26)
      have hf0' := s26 _ _ hf0
      have hc0' := s26 _ _ hc0
      have hl26 : upd H25 l26 (.lst [V.ref f0]) l26 = some (.lst [V.ref f0]) := upd_same
      have s26' : Same H25 (upd H25 l26 (.lst [V.ref f0])) := s26
      generalize upd H25 l26 _ = H26 at U26 B26 hf0' hc0' hl26 s26' ⊢
      walk_at "go"
      refine ⟨r_tyL hl26, ?_⟩
      walk_at "go"
      refine r_lamT ⟨U26.T, fun f1 c1 H27 e27 nn27 T27 nf1 hf1 hc1 => ?_⟩
      have U27 := U26.ext e27 T27
      have B27 := B26.ext e27
      have hf0b := e27 _ _ hf0' lamO_ne
      have hc0b := e27 _ _ hc0' codeO_ne
      have hl27 := ExtN.at_lst e27 hl26
      walk_at "go"
      refine r_appA hl27 (by rw [PySem.sizeLine_eq]; show 1 < 16777216; decide) fun H28 hl28 w28 => ?_
      have e2528 : ExtN H25 H28 := fun b o e n => w28 _ _ (ne_of_none e n26) (e27 _ _ (s26' _ _ e) n)
      have T28 := Tabs.wrL T27 hl27 w28
      have U28 := U25.ext e2528 T28
      have B28 := B25.ext e2528
      have hf0c := w28 _ _ (ne_of hf0b hl27 fun z => nomatch z) hf0b
      have hc0c := w28 _ _ (ne_of hc0b hl27 fun z => nomatch z) hc0b
      have hf1c := w28 _ _ (ne_of hf1 hl27 fun z => nomatch z) hf1
      have hc1c := w28 _ _ (ne_of hc1 hl27 fun z => nomatch z) hc1
      walk_at "go"
      refine ⟨_, rfl, ⟨_, SqL.of hl28⟩, fun D5 nD5 => lcw_list (K := K) (a := l26) (xs := [V.ref f0] ++ [V.ref f1]) (σw := [some (.ref a), some (.ref st), some (.int (0 + i)), some (.ref g), some (.ref z), some (.ref od), some (.ref be), some (.ref lo), some (.ref go), some (.ref mk), some (.ref D3), some (.ref l26), none])
        (fun n H8 => Same H28 H8 ∧ H8 D5 = some (.lst ((ws5.take n).map V.str))) rfl ⟨same_new nD5, upd_same⟩ (fun n H8 _ h => SqL.of (h.1 _ _ hl28)) (fun q y H8 hn h => ?_) fun H8 h => ?_⟩
      · obtain ⟨h8, hD⟩ := h
        walk_at "go"
        refine ⟨rfl, ?_⟩
        walk_at "go"
        refine iteT ?_
        refine r_kindC ?_
        walk_at "go"
        have hq : (q = 0 ∧ y = .ref f0) ∨ (q = 1 ∧ y = .ref f1) := by
          match q, hn with
          | 0, e => exact .inl ⟨rfl, (Option.some.inj e).symm⟩
          | 1, e => exact .inr ⟨rfl, (Option.some.inj e).symm⟩
          | n + 2, e => exact absurd e (by simp)
        rcases hq with ⟨rfl, rfl⟩ | ⟨rfl, rfl⟩
        · have hw : ws5[0]? = some (kindW 3) := rfl
          obtain ⟨tb, L, ht⟩ := lv0 (f := f0) (c0 := c0) (cl := cloFrom (cellsFrom (s.heap.objs.size + 1) (defScope s_law).names []) (laSc (lvE 0)).names []) W
          refine kc_go (F := LF.of qLv (lvE 0) (cloFrom (cellsFrom (s.heap.objs.size + 1) (defScope s_law).names []) (laSc (lvE 0)).names []) c0) (fr := lvFr) (js := [3, 4]) (h8 _ _ hf0c) (h8 _ _ hc0c) rfl L (fun okX => Caps.made okX (lamS_by (lv_lam 0 (by decide))).free (fun y hy => of_decide_eq_true (List.all_eq_true.mp (lv_fr 0 (by decide)) y hy)) rfl) KO (by decide) (fun E Q kE => ht E Q H8 g z r p x (h8 _ _ U28.hg) (h8 _ _ U28.hz) ok sg kE) fun H9 s9 => ?_
          refine ⟨_, s9 _ _ hD, ?_, fun b o e => at_wr (ne_of_none e nD5) (s9 _ _ (h8 _ _ e)), ?_⟩
          · rw [List.length_map]
            refine small1000 (Nat.le_trans (by rw [List.length_take]; exact Nat.min_le_right _ _) (by decide : ws5.length ≤ 1000))
          · rw [upd_same, take_snoc hw, List.map_append]
            rfl
        · have hw : ws5[1]? = some (kindW 3) := rfl
          obtain ⟨tb, L, ht⟩ := lv1 (f := f1) (c0 := c1) (cl := cloFrom (cellsFrom (s.heap.objs.size + 1) (defScope s_law).names []) (laSc (lvE 1)).names []) W
          refine kc_go (F := LF.of qLv (lvE 1) (cloFrom (cellsFrom (s.heap.objs.size + 1) (defScope s_law).names []) (laSc (lvE 1)).names []) c1) (fr := lvFr) (js := [3, 4]) (h8 _ _ hf1c) (h8 _ _ hc1c) rfl L (fun okX => Caps.made okX (lamS_by (lv_lam 1 (by decide))).free (fun y hy => of_decide_eq_true (List.all_eq_true.mp (lv_fr 1 (by decide)) y hy)) rfl) KO (by decide) (fun E Q kE => ht E Q H8 g z r p x (h8 _ _ U28.hg) (h8 _ _ U28.hz) ok sg kE) fun H9 s9 => ?_
          refine ⟨_, s9 _ _ hD, ?_, fun b o e => at_wr (ne_of_none e nD5) (s9 _ _ (h8 _ _ e)), ?_⟩
          · rw [List.length_map]
            refine small1000 (Nat.le_trans (by rw [List.length_take]; exact Nat.min_le_right _ _) (by decide : ws5.length ≤ 1000))
          · rw [upd_same, take_snoc hw, List.map_append]
            rfl
      obtain ⟨h8, hD5⟩ := h
      have hD5' : H8 D5 = some (.lst (ws5.map V.str)) := hD5
      have U29 := U28.same h8
      have B29 := B28.ext (ExtN.of h8)
      generalize H8 = H29 at hD5' U29 B29 ⊢
      walk_at "go"
      intro oa na
      walk_at "go"
      refine r_repS upd_same (by decide) (by decide) fun ob nb => ?_
      walk_at "go"
      have sd := (same_new (u := .lst [V.str "BadGoal"]) na).trans (same_new (u := .lst ((List.replicate (2 : Int).toNat ("BadGoal" : Str)).map V.str)) nb)
      refine r_neIs (d := .list (ws5.map PyData.str)) (n := 1) (is_strs (sd _ _ hD5')) (is_strs (show _ = some (.lst (ws5.map V.str)) from upd_same)) (fl_strs ok5) ?_
      have U30 := U29.same sd
      have B30 := B29.ext (ExtN.of sd)
      generalize upd _ ob _ = H30 at U30 B30 ⊢
      walk_at "go"
      refine iteF ?_
      have hg30 := U30.hg
      walk_at "go"
      intro pa na
      walk_at "go"
      refine r_repI upd_same (by decide) (by decide) fun m6 nm6 => ?_
      walk_at "go"
      intro pb nb
      walk_at "go"
      refine r_repI upd_same (by decide) (by decide) fun o6 no6 => ?_
      walk_at "go"
      intro k6 nk6
      have sa := (same_new (u := .lst [V.int 1]) na).trans (same_new (u := .lst ((List.replicate (100 : Int).toNat (1 : Int)).map V.int)) nm6)
      have sb := (same_new (u := .lst [V.int (r - 1)]) nb).trans (same_new (u := .lst ((List.replicate (5 : Int).toNat (r - 1)).map V.int)) no6)
      have sc := same_new (u := .tup [V.int (r - 1)]) nk6
      have hm6 := sc _ _ (sb _ _ (show upd (upd H30 pa (.lst [V.int 1])) m6 (.lst ((List.replicate (100 : Int).toNat (1 : Int)).map V.int)) m6 = some (.lst ((List.replicate 100 (1 : Int)).map V.int)) from upd_same))
      have ho6 := sc _ _ (show upd (upd (upd (upd H30 pa (.lst [V.int 1])) m6 (.lst ((List.replicate (100 : Int).toNat (1 : Int)).map V.int))) pb (.lst [V.int (r - 1)])) o6 (.lst ((List.replicate (5 : Int).toNat (r - 1)).map V.int)) o6 = some (.lst ((List.replicate 5 (r - 1)).map V.int)) from upd_same)
      have hk6 : upd (upd (upd (upd (upd H30 pa (.lst [V.int 1])) m6 (.lst ((List.replicate (100 : Int).toNat (1 : Int)).map V.int))) pb (.lst [V.int (r - 1)])) o6 (.lst ((List.replicate (5 : Int).toNat (r - 1)).map V.int))) k6 (.tup [V.int (r - 1)]) k6 = some (.tup (([r - 1] : List Int).map V.int)) := upd_same
      have U31 := U30.same ((sa.trans sb).trans sc)
      generalize upd (upd (upd (upd (upd H30 pa (.lst [V.int 1])) m6 (.lst ((List.replicate (100 : Int).toNat (1 : Int)).map V.int))) pb (.lst [V.int (r - 1)])) o6 (.lst ((List.replicate (5 : Int).toNat (r - 1)).map V.int))) k6 (.tup [V.int (r - 1)]) = H31 at hm6 ho6 hk6 U31 ⊢
      walk_at "go"
      -- good ones
      refine ⟨g, z, m6, o6, k6, rfl, U31.T, fun l6 fs6 H32 nl6 e32 T32 hl6 len6 W6 => ?_⟩
      have U32 := U31.ext e32 T32
      have WH0 : WkH H32 g z m6 o6 k6 r p x (List.replicate 100 1) (List.replicate 5 (r - 1)) [r - 1] := ⟨U32.hg, U32.hz, ExtN.at_lst e32 hm6, ExtN.at_lst e32 ho6, ExtN.at_tup e32 hk6, by decide, by rw [List.length_replicate]; decide, by show 1 ≤ 60; decide, by rw [List.length_replicate]; decide⟩
      walk_at "go"
      refine ⟨_, rfl, ⟨_, SqL.of hl6⟩, fun D6 nD6 => lcw_list (K := K) (a := l6) (xs := fs6.map V.ref) (σw := [some (.ref a), some (.ref st), some (.int (0 + i)), some (.ref g), some (.ref z), some (.ref od), some (.ref be), some (.ref lo), some (.ref go), some (.ref mk), some (.ref D3), some (.ref l6), none])
        (fun n H8 => ExtN H32 H8 ∧ Tabs TT H8 ∧ H8 D6 = some (.lst [])) rfl ⟨ExtN.of (same_new nD6), T32.ext (same_new nD6), upd_same⟩ (fun n H8 _ h => SqL.of (ExtN.at_lst h.1 hl6)) (fun q y H8 hn h => ?_) fun H8 h => ?_⟩
      · obtain ⟨h8, T8, hD⟩ := h
        obtain ⟨f, hf, rfl⟩ := map_at hn
        have hq : q < 9 := by
          have := (List.getElem?_eq_some_iff.mp hf).1
          omega
        walk_at "go"
        refine ⟨rfl, ?_⟩
        walk_at "go"
        refine r_kindR ?_
        walk_at "go"
        refine kr_give (wk_give W q hq ((W6 q f hf).ext h8) (WH0.mono h8) ok sg (by rw [List.length_replicate]; decide) (by rw [List.length_replicate]; decide) (fun y hy => by rw [(List.mem_replicate.mp hy).2]; omega) (marks0 (by omega) (by omega) (by omega)) T8) fun v H9 e9 T9 nv => ?_
        walk_at "go"
        refine r_notS nv ?_
        walk_at "go"
        refine iteF ?_
        exact ⟨h8.trans e9, T9, ExtN.at_lst e9 hD⟩
      obtain ⟨h8, T8, hD⟩ := h
      have U33 := U32.ext h8 T8
      walk_at "go"
      intro t9 n9
      refine r_neNil (ns := []) (at_new n9 hD) upd_same ?_
      have U34 := U33.same (same_new (u := .lst []) n9)
      generalize upd H8 t9 (.lst []) = H34 at U34 ⊢
      walk_at "go"
      refine iteF ?_
      walk_at "go"
      exact ⟨_, _, _, _, _, _, _, _, _, _, rfl, U34.s, U34.hS, U34.T⟩
    · rintro σ H2 ⟨v2, v3, v4, v5, v6, v7, v8, v9, v10, v11, rfl, s2, hS2, T2⟩
      walk_at "go"
      exact k _
theorem law_fn {C_GearError : Addr} {C_BadGear : Addr} {C_BadStanding : Addr} {C_BadMoves : Addr} {C_BadGoal : Addr} {C_BadMarks : Addr} {C_BadMark : Addr} {C_BadText : Addr} {C_Keeper : Addr} {c_law P_law : Addr} {c_law_of_gears P_law_of_gears : Addr} {c_to P_to : Addr} (B : Bl mg) (T_Keeper : KTxt K C_Keeper) (mk_Keeper : PySem.W.makesIn K C_Keeper = true) (kC_Keeper : PySem.W.keepIn K (.ref C_Keeper) = true) (hC_Keeper : mg "Keeper" = some (.ref C_Keeper)) (FM_Keeper_init : MethAt K C_Keeper "__init__" "Keeper.__init__" s_Keeper_init) (FM_Keeper_move : MethAt K C_Keeper "move" "Keeper.move" s_Keeper_move) (FM_Keeper_believed : MethAt K C_Keeper "believed" "Keeper.believed" s_Keeper_believed) (FM_Keeper_moved_by : MethAt K C_Keeper "moved_by" "Keeper.moved_by" s_Keeper_moved_by) (FM_Keeper_found : MethAt K C_Keeper "found" "Keeper.found" s_Keeper_found) (FM_Keeper_found_any : MethAt K C_Keeper "found_any" "Keeper.found_any" s_Keeper_found_any) (F_wall : FunAt K mg "_wall" s_wall) (F_need_gear : FunAt K mg "need_gear" s_need_gear) (F_need_standing : FunAt K mg "need_standing" s_need_standing) (F_need_moves : FunAt K mg "need_moves" s_need_moves) (F_behind : FunAt K mg "behind" s_behind) (F_all_behind : FunAt K mg "all_behind" s_all_behind) (F_trail : FunAt K mg "trail" s_trail) (F_stands : FunAt K mg "stands" s_stands) (F_need_marks : FunAt K mg "need_marks" s_need_marks) (F_off_to : FunAt K mg "off_to" s_off_to) (F_sure : FunAt K mg "sure" s_sure) (F_both_ends : FunAt K mg "both_ends" s_both_ends) (F_known : FunAt K mg "known" s_known) (F_settled : FunAt K mg "settled" s_settled) (F_word_of : FunAt K mg "word_of" s_word_of) (F_written : FunAt K mg "written" s_written) (F_need_goals : FunAt K mg "need_goals" s_need_goals) (F_choices : FunAt K mg "choices" s_choices) (F_to : FunTab K mg "to" s_to c_to P_to) (F_best_path : FunAt K mg "best_path" s_best_path) (F_path : FunAt K mg "path" s_path) (F_all_orders : FunAt K mg "all_orders" s_all_orders) (F_tour : FunAt K mg "tour" s_tour) (F_law_start : FunAt K mg "_law_start" s_law_start) (F_law_drawn : FunAt K mg "_law_drawn" s_law_drawn) (F_law_kind : FunAt K mg "_law_kind" s_law_kind) (F_law_far : FunAt K mg "_law_far" s_law_far) (F_law_gear : FunAt K mg "_law_gear" s_law_gear) (F_law_standing : FunAt K mg "_law_standing" s_law_standing) (F_law_of_gears : FunTab K mg "_law_of_gears" s_law_of_gears c_law_of_gears P_law_of_gears) (F_law_bad : FunAt K mg "_law_bad" s_law_bad) (M_MOST : Cn mg "MOST" 1000000) (M_MOST_MOVES : Cn mg "MOST_MOVES" 100) (M_MOST_MARKS : Cn mg "MOST_MARKS" 12) (M_MOST_GOALS : Cn mg "MOST_GOALS" 8) (M_MOST_TOUR : Cn mg "MOST_TOUR" 5) (TB_law : LamX.TabB base mg c_law P_law) (TB_law_of_gears : LamX.TabB base mg c_law_of_gears P_law_of_gears) (TB_to : LamX.TabB base mg c_to P_to) (G_GearError : ClsG mg "GearError" C_GearError) (G_BadGear : ClsG mg "BadGear" C_BadGear) (G_BadStanding : ClsG mg "BadStanding" C_BadStanding) (G_BadMoves : ClsG mg "BadMoves" C_BadMoves) (G_BadGoal : ClsG mg "BadGoal" C_BadGoal) (G_BadMarks : ClsG mg "BadMarks" C_BadMarks) (G_BadMark : ClsG mg "BadMark" C_BadMark) (G_BadText : ClsG mg "BadText" C_BadText) (Z_ValueError : mg "ValueError" = none) (R_BadGear : ErrR K C_BadGear) (KD_BadGear : KindOf K C_GearError (csL C_BadGear C_BadStanding C_BadMoves C_BadGoal C_BadMarks C_BadMark C_BadText) C_BadGear 0) (R_BadStanding : ErrR K C_BadStanding) (KD_BadStanding : KindOf K C_GearError (csL C_BadGear C_BadStanding C_BadMoves C_BadGoal C_BadMarks C_BadMark C_BadText) C_BadStanding 1) (R_BadMoves : ErrR K C_BadMoves) (KD_BadMoves : KindOf K C_GearError (csL C_BadGear C_BadStanding C_BadMoves C_BadGoal C_BadMarks C_BadMark C_BadText) C_BadMoves 2) (R_BadGoal : ErrR K C_BadGoal) (KD_BadGoal : KindOf K C_GearError (csL C_BadGear C_BadStanding C_BadMoves C_BadGoal C_BadMarks C_BadMark C_BadText) C_BadGoal 3) (R_BadMarks : ErrR K C_BadMarks) (KD_BadMarks : KindOf K C_GearError (csL C_BadGear C_BadStanding C_BadMoves C_BadGoal C_BadMarks C_BadMark C_BadText) C_BadMarks 4) (NE_0_1 : P_law ≠ P_law_of_gears) (NE_0_2 : P_law ≠ P_to) (NE_1_2 : P_law_of_gears ≠ P_to) {fl : Addr} {fd : FuncData} (F : FunTabF K "law" s_law fl fd c_law) (IT : InsT K C_Keeper) : FnOk P w K mg base CX0 18 fl fd ["_law_script"] (spLawT K [(P_law, ("law" ++ ".<locals>." ++ "<lambda>" : Str)), (P_law_of_gears, ("_law_of_gears" ++ ".<locals>." ++ "<lambda>" : Str)), (P_to, ("to" ++ ".<locals>." ++ "<lambda>" : Str))]) := by
  have H1 : Has P w K mg base CX0 1 "_law_drawn" (spDrawn K) := ok_law_drawn B F_law_drawn
  have H2 : Has P w K mg base CX0 1 "need_gear" spNG := ok_need_gear F_need_gear M_MOST
  have H3 : Has P w K mg base CX0 2 "need_standing" spNS := ok_need_standing F_need_standing H2
  have H3b : Has P w K mg base CX0 1 "need_moves" (spNM K) := ok_need_moves B F_need_moves M_MOST_MOVES
  have H4 : Has P w K mg base CX0 3 "need_goals" (spGoals K) := ok_need_goals B F_need_goals H3
  have H4b : Has P w K mg base CX0 2 "need_marks" spNMk := ok_need_marks B F_need_marks M_MOST_MARKS H2
  have H5 : Has P w K mg base CX0 1 "behind" spBehind := ok_behind B F_behind
  have H5b : Has P w K mg base CX0 2 "all_behind" (spAB K) := ok_all_behind B F_all_behind H5
  have H7 : Has P w K mg base CX0 1 "choices" spChoices := ok_choices F_choices
  have H8 : Has P w K mg base CX0 10 "best_path" (spBest K 9) := ok_best_path B F_best_path H7 H5 9
  have H9 : Has P w K mg base CX0 6 "all_orders" (spAO K 6) := ok_all_orders B F_all_orders 6
  have H10 : Has P w K mg base CX0 3 "both_ends" (spBE K) := ok_both_ends B F_both_ends H5b
  have X2 : Has P w K mg base (L2.CX P w) 1 "need_gear" (spNGX C_BadGear) := ok_need_gearX F_need_gear M_MOST G_BadGear R_BadGear
  have X3 : Has P w K mg base (L2.CX P w) 2 "need_standing" (spNSX C_BadGear C_BadStanding) := ok_need_standingX F_need_standing G_BadStanding R_BadStanding X2
  have X3b : Has P w K mg base (L2.CX P w) 1 "need_moves" (spNMX K C_BadMoves) := ok_need_movesX B F_need_moves M_MOST_MOVES G_BadMoves R_BadMoves
  have X4 : Has P w K mg base (L2.CX P w) 3 "need_goals" (spGoalsX K C_BadGear C_BadStanding C_BadGoal) := ok_need_goalsX B F_need_goals G_BadGoal R_BadGoal X3
  have X4b : Has P w K mg base (L2.CX P w) 2 "need_marks" (spNMkX C_BadGear C_BadMarks) := ok_need_marksX B F_need_marks M_MOST_MARKS G_BadMarks R_BadMarks X2
  obtain ⟨TT, hTT⟩ : ∃ TT : List (Addr × Str), TT = [(P_law, ("law" ++ ".<locals>." ++ "<lambda>" : Str)), (P_law_of_gears, ("_law_of_gears" ++ ".<locals>." ++ "<lambda>" : Str)), (P_to, ("to" ++ ".<locals>." ++ "<lambda>" : Str))] := ⟨_, rfl⟩
  have m1 : (P_law, qLv) ∈ TT := by rw [hTT]; exact List.Mem.head _
  have m2 : (P_law_of_gears, qWk) ∈ TT := by rw [hTT]; exact List.Mem.tail _ (List.Mem.head _)
  have m3 : (P_to, ("to" ++ ".<locals>." ++ "<lambda>" : Str)) ∈ TT := by rw [hTT]; exact List.Mem.tail _ (List.Mem.tail _ (List.Mem.head _))
  have u : ∀ p ∈ TT, p = (P_law, qLv) ∨ p = (P_law_of_gears, qWk) ∨ p = (P_to, ("to" ++ ".<locals>." ++ "<lambda>" : Str)) := fun p hp => by
    rw [hTT] at hp
    rcases List.mem_cons.mp hp with e | hp
    · exact .inl e
    · rcases List.mem_cons.mp hp with e | hp
      · exact .inr (.inl e)
      · exact .inr (.inr (List.mem_singleton.mp hp))
  have u1 : ∀ p ∈ TT, p.1 = P_law → p.2 = qLv := fun p hp e => by
    rcases u p hp with rfl | rfl | rfl
    · rfl
    · exact absurd e.symm NE_0_1
    · exact absurd e.symm NE_0_2
  have u2 : ∀ p ∈ TT, p.1 = P_law_of_gears → p.2 = qWk := fun p hp e => by
    rcases u p hp with rfl | rfl | rfl
    · exact absurd e NE_0_1
    · rfl
    · exact absurd e.symm NE_1_2
  have u3 : ∀ p ∈ TT, p.1 = P_to → p.2 = ("to" ++ ".<locals>." ++ "<lambda>" : Str) := fun p hp e => by
    rcases u p hp with rfl | rfl | rfl
    · exact absurd e NE_0_2
    · exact absurd e NE_1_2
    · rfl
  have W : WkHas P w K mg base C_Keeper TT C_BadGear C_BadStanding C_BadMoves C_BadGoal C_BadMarks :=
    { H_stands := ok_stands B F_stands H3 H3b H5b, HX_stands := ok_standsX F_stands X3 X3b, H_trail := ok_trail F_trail H3 H3b H5b, HX_trail := ok_trailX F_trail X3 X3b, H_to := ok_to B F_to TB_to m3 u3 H4 H7, HX_to := ok_toX F_to.at_ X4,
      H_path := ok_path B F_path M_MOST_GOALS H4 H8, HX_path := ok_pathX F_path M_MOST_GOALS X4, H_tour := ok_tour B F_tour M_MOST_TOUR H4 H8 H9, HX_tour := ok_tourX F_tour M_MOST_TOUR X4, H_known := ok_known F_known H2 H3b H10, HX_known := ok_knownX F_known X2 X3b,
      H_settled := ok_settled B F_settled H2 H3b H10, HX_settled := ok_settledX F_settled X2 X3b, H_sure := ok_sure B F_sure H4b, HX_sure := ok_sureX F_sure X4b, HK_Keeper := ok_Keeper_init B T_Keeper mk_Keeper kC_Keeper hC_Keeper FM_Keeper_init H4b H3,
      HKX_Keeper := ok_Keeper_initX mk_Keeper kC_Keeper hC_Keeper FM_Keeper_init X4b X3, HX_written := ok_writtenX F_written X3b, T := T_Keeper, IT := IT }
  rw [← hTT]
  exact ok_law (cs := csL C_BadGear C_BadStanding C_BadMoves C_BadGoal C_BadMarks C_BadMark C_BadText) B F TB_law m1 u1 (ok_law_start F_law_start) (ok_law_gear B F_law_gear H1) (ok_law_standing B F_law_standing H1) (ok_law_bad B F_law_bad H1 (ok_law_far B F_law_far H1)) (ok_law_of_gears F_law_of_gears TB_law_of_gears m2 u2) W
    F_law_kind Z_ValueError G_GearError G_BadGear G_BadStanding G_BadMoves G_BadGoal G_BadMarks G_BadMark G_BadText KD_BadGear KD_BadStanding KD_BadMoves KD_BadGoal KD_BadMarks
end
theorem all_mk {l : PySem.W.OpenLaw} {w : World} {K : PySem.W.Frag} {h : Heap} {mg : Str → Option Value} {fa : Addr} (X : K.In h) (G : h.Ns mainGlobals mg) (hfa : mg "law" = some (.ref fa))
    {C_Keeper : Addr}
    {f_Keeper_init : Addr} {od_Keeper_init an_Keeper_init : Option Addr} {sl_Keeper_init : Array (Option Value)} {oc_Keeper_init kV_Keeper_init dc_Keeper_init pm_Keeper_init cd_Keeper_init ct_Keeper_init : Value}
    {f_Keeper_move : Addr} {od_Keeper_move an_Keeper_move : Option Addr} {sl_Keeper_move : Array (Option Value)} {oc_Keeper_move kV_Keeper_move dc_Keeper_move pm_Keeper_move cd_Keeper_move ct_Keeper_move : Value}
    {f_Keeper_believed : Addr} {od_Keeper_believed an_Keeper_believed : Option Addr} {sl_Keeper_believed : Array (Option Value)} {oc_Keeper_believed kV_Keeper_believed dc_Keeper_believed pm_Keeper_believed cd_Keeper_believed ct_Keeper_believed : Value}
    {f_Keeper_moved_by : Addr} {od_Keeper_moved_by an_Keeper_moved_by : Option Addr} {sl_Keeper_moved_by : Array (Option Value)} {oc_Keeper_moved_by kV_Keeper_moved_by dc_Keeper_moved_by pm_Keeper_moved_by cd_Keeper_moved_by ct_Keeper_moved_by : Value}
    {f_Keeper_found : Addr} {od_Keeper_found an_Keeper_found : Option Addr} {sl_Keeper_found : Array (Option Value)} {oc_Keeper_found kV_Keeper_found dc_Keeper_found pm_Keeper_found cd_Keeper_found ct_Keeper_found : Value}
    {f_Keeper_found_any : Addr} {od_Keeper_found_any an_Keeper_found_any : Option Addr} {sl_Keeper_found_any : Array (Option Value)} {oc_Keeper_found_any kV_Keeper_found_any dc_Keeper_found_any pm_Keeper_found_any cd_Keeper_found_any ct_Keeper_found_any : Value}
    {f0 : Addr} {od0 an0 : Option Addr} {sl0 : Array (Option Value)} {oc0 kV0 dc0 pm0 cd0 ct0 : Value}
    {f1 : Addr} {od1 an1 : Option Addr} {sl1 : Array (Option Value)} {oc1 kV1 dc1 pm1 cd1 ct1 : Value}
    {f2 : Addr} {od2 an2 : Option Addr} {sl2 : Array (Option Value)} {oc2 kV2 dc2 pm2 cd2 ct2 : Value}
    {f3 : Addr} {od3 an3 : Option Addr} {sl3 : Array (Option Value)} {oc3 kV3 dc3 pm3 cd3 ct3 : Value}
    {f4 : Addr} {od4 an4 : Option Addr} {sl4 : Array (Option Value)} {oc4 kV4 dc4 pm4 cd4 ct4 : Value}
    {f5 : Addr} {od5 an5 : Option Addr} {sl5 : Array (Option Value)} {oc5 kV5 dc5 pm5 cd5 ct5 : Value}
    {f6 : Addr} {od6 an6 : Option Addr} {sl6 : Array (Option Value)} {oc6 kV6 dc6 pm6 cd6 ct6 : Value}
    {f7 : Addr} {od7 an7 : Option Addr} {sl7 : Array (Option Value)} {oc7 kV7 dc7 pm7 cd7 ct7 : Value}
    {f8 : Addr} {od8 an8 : Option Addr} {sl8 : Array (Option Value)} {oc8 kV8 dc8 pm8 cd8 ct8 : Value}
    {f9 : Addr} {od9 an9 : Option Addr} {sl9 : Array (Option Value)} {oc9 kV9 dc9 pm9 cd9 ct9 : Value}
    {f10 : Addr} {od10 an10 : Option Addr} {sl10 : Array (Option Value)} {oc10 kV10 dc10 pm10 cd10 ct10 : Value}
    {f11 : Addr} {od11 an11 : Option Addr} {sl11 : Array (Option Value)} {oc11 kV11 dc11 pm11 cd11 ct11 : Value}
    {f12 : Addr} {od12 an12 : Option Addr} {sl12 : Array (Option Value)} {oc12 kV12 dc12 pm12 cd12 ct12 : Value}
    {f13 : Addr} {od13 an13 : Option Addr} {sl13 : Array (Option Value)} {oc13 kV13 dc13 pm13 cd13 ct13 : Value}
    {f14 : Addr} {od14 an14 : Option Addr} {sl14 : Array (Option Value)} {oc14 kV14 dc14 pm14 cd14 ct14 : Value}
    {f15 : Addr} {od15 an15 : Option Addr} {sl15 : Array (Option Value)} {oc15 kV15 dc15 pm15 cd15 ct15 : Value}
    {f16 : Addr} {od16 an16 : Option Addr} {sl16 : Array (Option Value)} {oc16 kV16 dc16 pm16 cd16 ct16 : Value}
    {f17 : Addr} {od17 an17 : Option Addr} {sl17 : Array (Option Value)} {oc17 kV17 dc17 pm17 cd17 ct17 : Value}
    {f18 : Addr} {od18 an18 : Option Addr} {sl18 : Array (Option Value)} {oc18 kV18 dc18 pm18 cd18 ct18 : Value}
    {cc_to PP_to : Addr}
    {f19 : Addr} {od19 an19 : Option Addr} {sl19 : Array (Option Value)} {oc19 kV19 dc19 pm19 cd19 ct19 : Value}
    {f20 : Addr} {od20 an20 : Option Addr} {sl20 : Array (Option Value)} {oc20 kV20 dc20 pm20 cd20 ct20 : Value}
    {f21 : Addr} {od21 an21 : Option Addr} {sl21 : Array (Option Value)} {oc21 kV21 dc21 pm21 cd21 ct21 : Value}
    {f22 : Addr} {od22 an22 : Option Addr} {sl22 : Array (Option Value)} {oc22 kV22 dc22 pm22 cd22 ct22 : Value}
    {f23 : Addr} {od23 an23 : Option Addr} {sl23 : Array (Option Value)} {oc23 kV23 dc23 pm23 cd23 ct23 : Value}
    {f24 : Addr} {od24 an24 : Option Addr} {sl24 : Array (Option Value)} {oc24 kV24 dc24 pm24 cd24 ct24 : Value}
    {f25 : Addr} {od25 an25 : Option Addr} {sl25 : Array (Option Value)} {oc25 kV25 dc25 pm25 cd25 ct25 : Value}
    {f26 : Addr} {od26 an26 : Option Addr} {sl26 : Array (Option Value)} {oc26 kV26 dc26 pm26 cd26 ct26 : Value}
    {f27 : Addr} {od27 an27 : Option Addr} {sl27 : Array (Option Value)} {oc27 kV27 dc27 pm27 cd27 ct27 : Value}
    {f28 : Addr} {od28 an28 : Option Addr} {sl28 : Array (Option Value)} {oc28 kV28 dc28 pm28 cd28 ct28 : Value}
    {f29 : Addr} {od29 an29 : Option Addr} {sl29 : Array (Option Value)} {oc29 kV29 dc29 pm29 cd29 ct29 : Value}
    {cc_law_of_gears PP_law_of_gears : Addr}
    {f30 : Addr} {od30 an30 : Option Addr} {sl30 : Array (Option Value)} {oc30 kV30 dc30 pm30 cd30 ct30 : Value}
    {f31 : Addr} {od31 an31 : Option Addr} {sl31 : Array (Option Value)} {oc31 kV31 dc31 pm31 cd31 ct31 : Value}
    {cc_law PP_law : Addr}
    {t_MOST : Tok}
    {t_MOST_MOVES : Tok}
    {t_MOST_MARKS : Tok}
    {t_MOST_GOALS : Tok}
    {t_MOST_TOUR : Tok}
    {C_GearError C_BadGear C_BadStanding C_BadMoves C_BadGoal C_BadMarks C_BadMark C_BadText : Addr}
    (aC_Keeper : PySem.W.nsIn K mainGlobals "Keeper" = some (some (.ref C_Keeper)))
    (pg_Keeper : PySem.W.plainGet K C_Keeper Str.empty = true)
    (hd_Keeper : PySem.W.hasDictIn K C_Keeper = true)
    (po_Keeper : PySem.W.plainOver K C_Keeper = true)
    (sa_Keeper : PySem.W.findIn K (.ref C_Keeper) "__setattr__" = some (some (.builtin "object.__setattr__")))
    (mk_Keeper : PySem.W.makesIn K C_Keeper = true)
    (kc_Keeper : PySem.W.keepIn K (.ref C_Keeper) = true)
    (nf_Keeper_gear : PySem.W.findIn K (.ref C_Keeper) "gear" = some none)
    (nf_Keeper_marks : PySem.W.findIn K (.ref C_Keeper) "marks" = some none)
    (nf_Keeper_standing : PySem.W.findIn K (.ref C_Keeper) "standing" = some none)
    (a_Keeper_init : PySem.W.findIn K (.ref C_Keeper) "__init__" = some (some (.ref f_Keeper_init))) (i_Keeper_init : PySem.W.isFn K (.ref f_Keeper_init) = true) (l_Keeper_init : K.lookup f_Keeper_init = some ⟨oc_Keeper_init, od_Keeper_init, .func (PySem.W.fnOf "__init__" "Keeper.__init__" (defArgs s_Keeper_init) (defBody s_Keeper_init) (defScope s_Keeper_init) .none kV_Keeper_init dc_Keeper_init pm_Keeper_init an_Keeper_init cd_Keeper_init ct_Keeper_init), sl_Keeper_init⟩) (c_Keeper_init : PySem.W.codeIn K cd_Keeper_init "Keeper.__init__" = true) (k_Keeper_init : PySem.W.keepIn K (.ref f_Keeper_init) = true)
    (a_Keeper_move : PySem.W.findIn K (.ref C_Keeper) "move" = some (some (.ref f_Keeper_move))) (i_Keeper_move : PySem.W.isFn K (.ref f_Keeper_move) = true) (l_Keeper_move : K.lookup f_Keeper_move = some ⟨oc_Keeper_move, od_Keeper_move, .func (PySem.W.fnOf "move" "Keeper.move" (defArgs s_Keeper_move) (defBody s_Keeper_move) (defScope s_Keeper_move) .none kV_Keeper_move dc_Keeper_move pm_Keeper_move an_Keeper_move cd_Keeper_move ct_Keeper_move), sl_Keeper_move⟩) (c_Keeper_move : PySem.W.codeIn K cd_Keeper_move "Keeper.move" = true) (k_Keeper_move : PySem.W.keepIn K (.ref f_Keeper_move) = true)
    (a_Keeper_believed : PySem.W.findIn K (.ref C_Keeper) "believed" = some (some (.ref f_Keeper_believed))) (i_Keeper_believed : PySem.W.isFn K (.ref f_Keeper_believed) = true) (l_Keeper_believed : K.lookup f_Keeper_believed = some ⟨oc_Keeper_believed, od_Keeper_believed, .func (PySem.W.fnOf "believed" "Keeper.believed" (defArgs s_Keeper_believed) (defBody s_Keeper_believed) (defScope s_Keeper_believed) .none kV_Keeper_believed dc_Keeper_believed pm_Keeper_believed an_Keeper_believed cd_Keeper_believed ct_Keeper_believed), sl_Keeper_believed⟩) (c_Keeper_believed : PySem.W.codeIn K cd_Keeper_believed "Keeper.believed" = true) (k_Keeper_believed : PySem.W.keepIn K (.ref f_Keeper_believed) = true)
    (a_Keeper_moved_by : PySem.W.findIn K (.ref C_Keeper) "moved_by" = some (some (.ref f_Keeper_moved_by))) (i_Keeper_moved_by : PySem.W.isFn K (.ref f_Keeper_moved_by) = true) (l_Keeper_moved_by : K.lookup f_Keeper_moved_by = some ⟨oc_Keeper_moved_by, od_Keeper_moved_by, .func (PySem.W.fnOf "moved_by" "Keeper.moved_by" (defArgs s_Keeper_moved_by) (defBody s_Keeper_moved_by) (defScope s_Keeper_moved_by) .none kV_Keeper_moved_by dc_Keeper_moved_by pm_Keeper_moved_by an_Keeper_moved_by cd_Keeper_moved_by ct_Keeper_moved_by), sl_Keeper_moved_by⟩) (c_Keeper_moved_by : PySem.W.codeIn K cd_Keeper_moved_by "Keeper.moved_by" = true) (k_Keeper_moved_by : PySem.W.keepIn K (.ref f_Keeper_moved_by) = true)
    (a_Keeper_found : PySem.W.findIn K (.ref C_Keeper) "found" = some (some (.ref f_Keeper_found))) (i_Keeper_found : PySem.W.isFn K (.ref f_Keeper_found) = true) (l_Keeper_found : K.lookup f_Keeper_found = some ⟨oc_Keeper_found, od_Keeper_found, .func (PySem.W.fnOf "found" "Keeper.found" (defArgs s_Keeper_found) (defBody s_Keeper_found) (defScope s_Keeper_found) .none kV_Keeper_found dc_Keeper_found pm_Keeper_found an_Keeper_found cd_Keeper_found ct_Keeper_found), sl_Keeper_found⟩) (c_Keeper_found : PySem.W.codeIn K cd_Keeper_found "Keeper.found" = true) (k_Keeper_found : PySem.W.keepIn K (.ref f_Keeper_found) = true)
    (a_Keeper_found_any : PySem.W.findIn K (.ref C_Keeper) "found_any" = some (some (.ref f_Keeper_found_any))) (i_Keeper_found_any : PySem.W.isFn K (.ref f_Keeper_found_any) = true) (l_Keeper_found_any : K.lookup f_Keeper_found_any = some ⟨oc_Keeper_found_any, od_Keeper_found_any, .func (PySem.W.fnOf "found_any" "Keeper.found_any" (defArgs s_Keeper_found_any) (defBody s_Keeper_found_any) (defScope s_Keeper_found_any) .none kV_Keeper_found_any dc_Keeper_found_any pm_Keeper_found_any an_Keeper_found_any cd_Keeper_found_any ct_Keeper_found_any), sl_Keeper_found_any⟩) (c_Keeper_found_any : PySem.W.codeIn K cd_Keeper_found_any "Keeper.found_any" = true) (k_Keeper_found_any : PySem.W.keepIn K (.ref f_Keeper_found_any) = true)
    (a0 : PySem.W.nsIn K mainGlobals "_wall" = some (some (.ref f0))) (l0 : K.lookup f0 = some ⟨oc0, od0, .func (PySem.W.fnOf "_wall" "_wall" (defArgs s_wall) (defBody s_wall) (defScope s_wall) .none kV0 dc0 pm0 an0 cd0 ct0), sl0⟩) (c0 : PySem.W.codeIn K cd0 "_wall" = true) (k0 : PySem.W.keepIn K (.ref f0) = true)
    (a1 : PySem.W.nsIn K mainGlobals "need_gear" = some (some (.ref f1))) (l1 : K.lookup f1 = some ⟨oc1, od1, .func (PySem.W.fnOf "need_gear" "need_gear" (defArgs s_need_gear) (defBody s_need_gear) (defScope s_need_gear) .none kV1 dc1 pm1 an1 cd1 ct1), sl1⟩) (c1 : PySem.W.codeIn K cd1 "need_gear" = true) (k1 : PySem.W.keepIn K (.ref f1) = true)
    (a2 : PySem.W.nsIn K mainGlobals "need_standing" = some (some (.ref f2))) (l2 : K.lookup f2 = some ⟨oc2, od2, .func (PySem.W.fnOf "need_standing" "need_standing" (defArgs s_need_standing) (defBody s_need_standing) (defScope s_need_standing) .none kV2 dc2 pm2 an2 cd2 ct2), sl2⟩) (c2 : PySem.W.codeIn K cd2 "need_standing" = true) (k2 : PySem.W.keepIn K (.ref f2) = true)
    (a3 : PySem.W.nsIn K mainGlobals "need_moves" = some (some (.ref f3))) (l3 : K.lookup f3 = some ⟨oc3, od3, .func (PySem.W.fnOf "need_moves" "need_moves" (defArgs s_need_moves) (defBody s_need_moves) (defScope s_need_moves) .none kV3 dc3 pm3 an3 cd3 ct3), sl3⟩) (c3 : PySem.W.codeIn K cd3 "need_moves" = true) (k3 : PySem.W.keepIn K (.ref f3) = true)
    (a4 : PySem.W.nsIn K mainGlobals "behind" = some (some (.ref f4))) (l4 : K.lookup f4 = some ⟨oc4, od4, .func (PySem.W.fnOf "behind" "behind" (defArgs s_behind) (defBody s_behind) (defScope s_behind) .none kV4 dc4 pm4 an4 cd4 ct4), sl4⟩) (c4 : PySem.W.codeIn K cd4 "behind" = true) (k4 : PySem.W.keepIn K (.ref f4) = true)
    (a5 : PySem.W.nsIn K mainGlobals "all_behind" = some (some (.ref f5))) (l5 : K.lookup f5 = some ⟨oc5, od5, .func (PySem.W.fnOf "all_behind" "all_behind" (defArgs s_all_behind) (defBody s_all_behind) (defScope s_all_behind) .none kV5 dc5 pm5 an5 cd5 ct5), sl5⟩) (c5 : PySem.W.codeIn K cd5 "all_behind" = true) (k5 : PySem.W.keepIn K (.ref f5) = true)
    (a6 : PySem.W.nsIn K mainGlobals "trail" = some (some (.ref f6))) (l6 : K.lookup f6 = some ⟨oc6, od6, .func (PySem.W.fnOf "trail" "trail" (defArgs s_trail) (defBody s_trail) (defScope s_trail) .none kV6 dc6 pm6 an6 cd6 ct6), sl6⟩) (c6 : PySem.W.codeIn K cd6 "trail" = true) (k6 : PySem.W.keepIn K (.ref f6) = true)
    (a7 : PySem.W.nsIn K mainGlobals "stands" = some (some (.ref f7))) (l7 : K.lookup f7 = some ⟨oc7, od7, .func (PySem.W.fnOf "stands" "stands" (defArgs s_stands) (defBody s_stands) (defScope s_stands) .none kV7 dc7 pm7 an7 cd7 ct7), sl7⟩) (c7 : PySem.W.codeIn K cd7 "stands" = true) (k7 : PySem.W.keepIn K (.ref f7) = true)
    (a8 : PySem.W.nsIn K mainGlobals "need_marks" = some (some (.ref f8))) (l8 : K.lookup f8 = some ⟨oc8, od8, .func (PySem.W.fnOf "need_marks" "need_marks" (defArgs s_need_marks) (defBody s_need_marks) (defScope s_need_marks) .none kV8 dc8 pm8 an8 cd8 ct8), sl8⟩) (c8 : PySem.W.codeIn K cd8 "need_marks" = true) (k8 : PySem.W.keepIn K (.ref f8) = true)
    (a9 : PySem.W.nsIn K mainGlobals "off_to" = some (some (.ref f9))) (l9 : K.lookup f9 = some ⟨oc9, od9, .func (PySem.W.fnOf "off_to" "off_to" (defArgs s_off_to) (defBody s_off_to) (defScope s_off_to) .none kV9 dc9 pm9 an9 cd9 ct9), sl9⟩) (c9 : PySem.W.codeIn K cd9 "off_to" = true) (k9 : PySem.W.keepIn K (.ref f9) = true)
    (a10 : PySem.W.nsIn K mainGlobals "sure" = some (some (.ref f10))) (l10 : K.lookup f10 = some ⟨oc10, od10, .func (PySem.W.fnOf "sure" "sure" (defArgs s_sure) (defBody s_sure) (defScope s_sure) .none kV10 dc10 pm10 an10 cd10 ct10), sl10⟩) (c10 : PySem.W.codeIn K cd10 "sure" = true) (k10 : PySem.W.keepIn K (.ref f10) = true)
    (a11 : PySem.W.nsIn K mainGlobals "both_ends" = some (some (.ref f11))) (l11 : K.lookup f11 = some ⟨oc11, od11, .func (PySem.W.fnOf "both_ends" "both_ends" (defArgs s_both_ends) (defBody s_both_ends) (defScope s_both_ends) .none kV11 dc11 pm11 an11 cd11 ct11), sl11⟩) (c11 : PySem.W.codeIn K cd11 "both_ends" = true) (k11 : PySem.W.keepIn K (.ref f11) = true)
    (a12 : PySem.W.nsIn K mainGlobals "known" = some (some (.ref f12))) (l12 : K.lookup f12 = some ⟨oc12, od12, .func (PySem.W.fnOf "known" "known" (defArgs s_known) (defBody s_known) (defScope s_known) .none kV12 dc12 pm12 an12 cd12 ct12), sl12⟩) (c12 : PySem.W.codeIn K cd12 "known" = true) (k12 : PySem.W.keepIn K (.ref f12) = true)
    (a13 : PySem.W.nsIn K mainGlobals "settled" = some (some (.ref f13))) (l13 : K.lookup f13 = some ⟨oc13, od13, .func (PySem.W.fnOf "settled" "settled" (defArgs s_settled) (defBody s_settled) (defScope s_settled) .none kV13 dc13 pm13 an13 cd13 ct13), sl13⟩) (c13 : PySem.W.codeIn K cd13 "settled" = true) (k13 : PySem.W.keepIn K (.ref f13) = true)
    (a14 : PySem.W.nsIn K mainGlobals "word_of" = some (some (.ref f14))) (l14 : K.lookup f14 = some ⟨oc14, od14, .func (PySem.W.fnOf "word_of" "word_of" (defArgs s_word_of) (defBody s_word_of) (defScope s_word_of) .none kV14 dc14 pm14 an14 cd14 ct14), sl14⟩) (c14 : PySem.W.codeIn K cd14 "word_of" = true) (k14 : PySem.W.keepIn K (.ref f14) = true)
    (a15 : PySem.W.nsIn K mainGlobals "written" = some (some (.ref f15))) (l15 : K.lookup f15 = some ⟨oc15, od15, .func (PySem.W.fnOf "written" "written" (defArgs s_written) (defBody s_written) (defScope s_written) .none kV15 dc15 pm15 an15 cd15 ct15), sl15⟩) (c15 : PySem.W.codeIn K cd15 "written" = true) (k15 : PySem.W.keepIn K (.ref f15) = true)
    (a16 : PySem.W.nsIn K mainGlobals "need_goals" = some (some (.ref f16))) (l16 : K.lookup f16 = some ⟨oc16, od16, .func (PySem.W.fnOf "need_goals" "need_goals" (defArgs s_need_goals) (defBody s_need_goals) (defScope s_need_goals) .none kV16 dc16 pm16 an16 cd16 ct16), sl16⟩) (c16 : PySem.W.codeIn K cd16 "need_goals" = true) (k16 : PySem.W.keepIn K (.ref f16) = true)
    (a17 : PySem.W.nsIn K mainGlobals "choices" = some (some (.ref f17))) (l17 : K.lookup f17 = some ⟨oc17, od17, .func (PySem.W.fnOf "choices" "choices" (defArgs s_choices) (defBody s_choices) (defScope s_choices) .none kV17 dc17 pm17 an17 cd17 ct17), sl17⟩) (c17 : PySem.W.codeIn K cd17 "choices" = true) (k17 : PySem.W.keepIn K (.ref f17) = true)
    (a18 : PySem.W.nsIn K mainGlobals "to" = some (some (.ref f18))) (l18 : K.lookup f18 = some ⟨oc18, od18, .func (PySem.W.fnOf "to" "to" (defArgs s_to) (defBody s_to) (defScope s_to) .none kV18 dc18 pm18 an18 cd18 ct18), sl18⟩) (c18 : PySem.W.codeIn K cd18 "to" = true) (k18 : PySem.W.keepIn K (.ref f18) = true)
    (t_to : PySem.W.tabIn K "to" = some (cc_to, PP_to))
    (a19 : PySem.W.nsIn K mainGlobals "best_path" = some (some (.ref f19))) (l19 : K.lookup f19 = some ⟨oc19, od19, .func (PySem.W.fnOf "best_path" "best_path" (defArgs s_best_path) (defBody s_best_path) (defScope s_best_path) .none kV19 dc19 pm19 an19 cd19 ct19), sl19⟩) (c19 : PySem.W.codeIn K cd19 "best_path" = true) (k19 : PySem.W.keepIn K (.ref f19) = true)
    (a20 : PySem.W.nsIn K mainGlobals "path" = some (some (.ref f20))) (l20 : K.lookup f20 = some ⟨oc20, od20, .func (PySem.W.fnOf "path" "path" (defArgs s_path) (defBody s_path) (defScope s_path) .none kV20 dc20 pm20 an20 cd20 ct20), sl20⟩) (c20 : PySem.W.codeIn K cd20 "path" = true) (k20 : PySem.W.keepIn K (.ref f20) = true)
    (a21 : PySem.W.nsIn K mainGlobals "all_orders" = some (some (.ref f21))) (l21 : K.lookup f21 = some ⟨oc21, od21, .func (PySem.W.fnOf "all_orders" "all_orders" (defArgs s_all_orders) (defBody s_all_orders) (defScope s_all_orders) .none kV21 dc21 pm21 an21 cd21 ct21), sl21⟩) (c21 : PySem.W.codeIn K cd21 "all_orders" = true) (k21 : PySem.W.keepIn K (.ref f21) = true)
    (a22 : PySem.W.nsIn K mainGlobals "tour" = some (some (.ref f22))) (l22 : K.lookup f22 = some ⟨oc22, od22, .func (PySem.W.fnOf "tour" "tour" (defArgs s_tour) (defBody s_tour) (defScope s_tour) .none kV22 dc22 pm22 an22 cd22 ct22), sl22⟩) (c22 : PySem.W.codeIn K cd22 "tour" = true) (k22 : PySem.W.keepIn K (.ref f22) = true)
    (a23 : PySem.W.nsIn K mainGlobals "_law_start" = some (some (.ref f23))) (l23 : K.lookup f23 = some ⟨oc23, od23, .func (PySem.W.fnOf "_law_start" "_law_start" (defArgs s_law_start) (defBody s_law_start) (defScope s_law_start) .none kV23 dc23 pm23 an23 cd23 ct23), sl23⟩) (c23 : PySem.W.codeIn K cd23 "_law_start" = true) (k23 : PySem.W.keepIn K (.ref f23) = true)
    (a24 : PySem.W.nsIn K mainGlobals "_law_drawn" = some (some (.ref f24))) (l24 : K.lookup f24 = some ⟨oc24, od24, .func (PySem.W.fnOf "_law_drawn" "_law_drawn" (defArgs s_law_drawn) (defBody s_law_drawn) (defScope s_law_drawn) .none kV24 dc24 pm24 an24 cd24 ct24), sl24⟩) (c24 : PySem.W.codeIn K cd24 "_law_drawn" = true) (k24 : PySem.W.keepIn K (.ref f24) = true)
    (a25 : PySem.W.nsIn K mainGlobals "_law_kind" = some (some (.ref f25))) (l25 : K.lookup f25 = some ⟨oc25, od25, .func (PySem.W.fnOf "_law_kind" "_law_kind" (defArgs s_law_kind) (defBody s_law_kind) (defScope s_law_kind) .none kV25 dc25 pm25 an25 cd25 ct25), sl25⟩) (c25 : PySem.W.codeIn K cd25 "_law_kind" = true) (k25 : PySem.W.keepIn K (.ref f25) = true)
    (a26 : PySem.W.nsIn K mainGlobals "_law_far" = some (some (.ref f26))) (l26 : K.lookup f26 = some ⟨oc26, od26, .func (PySem.W.fnOf "_law_far" "_law_far" (defArgs s_law_far) (defBody s_law_far) (defScope s_law_far) .none kV26 dc26 pm26 an26 cd26 ct26), sl26⟩) (c26 : PySem.W.codeIn K cd26 "_law_far" = true) (k26 : PySem.W.keepIn K (.ref f26) = true)
    (a27 : PySem.W.nsIn K mainGlobals "_law_gear" = some (some (.ref f27))) (l27 : K.lookup f27 = some ⟨oc27, od27, .func (PySem.W.fnOf "_law_gear" "_law_gear" (defArgs s_law_gear) (defBody s_law_gear) (defScope s_law_gear) .none kV27 dc27 pm27 an27 cd27 ct27), sl27⟩) (c27 : PySem.W.codeIn K cd27 "_law_gear" = true) (k27 : PySem.W.keepIn K (.ref f27) = true)
    (a28 : PySem.W.nsIn K mainGlobals "_law_standing" = some (some (.ref f28))) (l28 : K.lookup f28 = some ⟨oc28, od28, .func (PySem.W.fnOf "_law_standing" "_law_standing" (defArgs s_law_standing) (defBody s_law_standing) (defScope s_law_standing) .none kV28 dc28 pm28 an28 cd28 ct28), sl28⟩) (c28 : PySem.W.codeIn K cd28 "_law_standing" = true) (k28 : PySem.W.keepIn K (.ref f28) = true)
    (a29 : PySem.W.nsIn K mainGlobals "_law_of_gears" = some (some (.ref f29))) (l29 : K.lookup f29 = some ⟨oc29, od29, .func (PySem.W.fnOf "_law_of_gears" "_law_of_gears" (defArgs s_law_of_gears) (defBody s_law_of_gears) (defScope s_law_of_gears) .none kV29 dc29 pm29 an29 cd29 ct29), sl29⟩) (c29 : PySem.W.codeIn K cd29 "_law_of_gears" = true) (k29 : PySem.W.keepIn K (.ref f29) = true)
    (t_law_of_gears : PySem.W.tabIn K "_law_of_gears" = some (cc_law_of_gears, PP_law_of_gears))
    (a30 : PySem.W.nsIn K mainGlobals "_law_bad" = some (some (.ref f30))) (l30 : K.lookup f30 = some ⟨oc30, od30, .func (PySem.W.fnOf "_law_bad" "_law_bad" (defArgs s_law_bad) (defBody s_law_bad) (defScope s_law_bad) .none kV30 dc30 pm30 an30 cd30 ct30), sl30⟩) (c30 : PySem.W.codeIn K cd30 "_law_bad" = true) (k30 : PySem.W.keepIn K (.ref f30) = true)
    (a31 : PySem.W.nsIn K mainGlobals "law" = some (some (.ref f31))) (l31 : K.lookup f31 = some ⟨oc31, od31, .func (PySem.W.fnOf "law" "law" (defArgs s_law) (defBody s_law) (defScope s_law) .none kV31 dc31 pm31 an31 cd31 ct31), sl31⟩) (c31 : PySem.W.codeIn K cd31 "law" = true) (k31 : PySem.W.keepIn K (.ref f31) = true)
    (t_law : PySem.W.tabIn K "law" = some (cc_law, PP_law))
    (m_MOST : PySem.W.nsIn K mainGlobals "MOST" = some (some (.int 1000000 t_MOST)))
    (m_MOST_MOVES : PySem.W.nsIn K mainGlobals "MOST_MOVES" = some (some (.int 100 t_MOST_MOVES)))
    (m_MOST_MARKS : PySem.W.nsIn K mainGlobals "MOST_MARKS" = some (some (.int 12 t_MOST_MARKS)))
    (m_MOST_GOALS : PySem.W.nsIn K mainGlobals "MOST_GOALS" = some (some (.int 8 t_MOST_GOALS)))
    (m_MOST_TOUR : PySem.W.nsIn K mainGlobals "MOST_TOUR" = some (some (.int 5 t_MOST_TOUR)))
    (z_len : PySem.W.nsIn K mainGlobals "len" = some none)
    (z_range : PySem.W.nsIn K mainGlobals "range" = some none)
    (z_abs : PySem.W.nsIn K mainGlobals "abs" = some none)
    (z_max : PySem.W.nsIn K mainGlobals "max" = some none)
    (z_min : PySem.W.nsIn K mainGlobals "min" = some none)
    (z_list : PySem.W.nsIn K mainGlobals "list" = some none)
    (z_tuple : PySem.W.nsIn K mainGlobals "tuple" = some none)
    (z_int : PySem.W.nsIn K mainGlobals "int" = some none)
    (z_isinstance : PySem.W.nsIn K mainGlobals "isinstance" = some none)
    (z_sum : PySem.W.nsIn K mainGlobals "sum" = some none)
    (z_set : PySem.W.nsIn K mainGlobals "set" = some none)
    (z_sorted : PySem.W.nsIn K mainGlobals "sorted" = some none)
    (z_zip : PySem.W.nsIn K mainGlobals "zip" = some none)
    (z_enumerate : PySem.W.nsIn K mainGlobals "enumerate" = some none)
    (z_str : PySem.W.nsIn K mainGlobals "str" = some none)
    (z_bool : PySem.W.nsIn K mainGlobals "bool" = some none)
    (n_law : K.lookup PP_law = none) (e_law : PySem.W.codeHdIn K cc_law PP_law = true) (y_law : h.get? PP_law = some { cls := .none, data := .fields #[] })
    (n_law_of_gears : K.lookup PP_law_of_gears = none) (e_law_of_gears : PySem.W.codeHdIn K cc_law_of_gears PP_law_of_gears = true) (y_law_of_gears : h.get? PP_law_of_gears = some { cls := .none, data := .fields #[] })
    (n_to : K.lookup PP_to = none) (e_to : PySem.W.codeHdIn K cc_to PP_to = true) (y_to : h.get? PP_to = some { cls := .none, data := .fields #[] })
    (aC_GearError : PySem.W.nsIn K mainGlobals "GearError" = some (some (.ref C_GearError)))
    (aC_BadGear : PySem.W.nsIn K mainGlobals "BadGear" = some (some (.ref C_BadGear)))
    (aC_BadStanding : PySem.W.nsIn K mainGlobals "BadStanding" = some (some (.ref C_BadStanding)))
    (aC_BadMoves : PySem.W.nsIn K mainGlobals "BadMoves" = some (some (.ref C_BadMoves)))
    (aC_BadGoal : PySem.W.nsIn K mainGlobals "BadGoal" = some (some (.ref C_BadGoal)))
    (aC_BadMarks : PySem.W.nsIn K mainGlobals "BadMarks" = some (some (.ref C_BadMarks)))
    (aC_BadMark : PySem.W.nsIn K mainGlobals "BadMark" = some (some (.ref C_BadMark)))
    (aC_BadText : PySem.W.nsIn K mainGlobals "BadText" = some (some (.ref C_BadText)))
    (z_ValueError : PySem.W.nsIn K mainGlobals "ValueError" = some none)
    (et_GearError : PySem.W.typeIn K (.ref C_GearError) = some (.type "type")) (ed_GearError : PySem.W.hasDictIn K C_GearError = true)
    (et_BadGear : PySem.W.typeIn K (.ref C_BadGear) = some (.type "type")) (ed_BadGear : PySem.W.hasDictIn K C_BadGear = true)
    (et_BadStanding : PySem.W.typeIn K (.ref C_BadStanding) = some (.type "type")) (ed_BadStanding : PySem.W.hasDictIn K C_BadStanding = true)
    (et_BadMoves : PySem.W.typeIn K (.ref C_BadMoves) = some (.type "type")) (ed_BadMoves : PySem.W.hasDictIn K C_BadMoves = true)
    (et_BadGoal : PySem.W.typeIn K (.ref C_BadGoal) = some (.type "type")) (ed_BadGoal : PySem.W.hasDictIn K C_BadGoal = true)
    (et_BadMarks : PySem.W.typeIn K (.ref C_BadMarks) = some (.type "type")) (ed_BadMarks : PySem.W.hasDictIn K C_BadMarks = true)
    (et_BadMark : PySem.W.typeIn K (.ref C_BadMark) = some (.type "type")) (ed_BadMark : PySem.W.hasDictIn K C_BadMark = true)
    (et_BadText : PySem.W.typeIn K (.ref C_BadText) = some (.type "type")) (ed_BadText : PySem.W.hasDictIn K C_BadText = true)
    (eb_GearError : PySem.W.subIn K (.ref C_GearError) (.type "BaseException") = some true)
    (hn_ : PySem.W.specialIn K (.builtin "object.__class__") "__get__" = some (some (.builtin "getset_descriptor.__get__"))) (ht_ : PySem.W.takesIn K (.builtin "object.__class__") = some true)
    (ex_BadGear : PySem.W.excIn K C_BadGear [.type "ValueError", .type "Exception", .type "BaseException", .type "object"] "ValueError.__new__" = true)
    (kc_BadGear : PySem.W.keepIn K (.ref C_BadGear) = true)
    (sb_BadGear : PySem.W.subIn K (.ref C_BadGear) (.type "BaseException") = some true)
    (hg_BadGear : PySem.W.findIn K (.ref C_BadGear) "__getattribute__" = some (some (.builtin "BaseException.__getattribute__")))
    (hk_BadGear : PySem.W.findIn K (.ref C_BadGear) "__getattr__" = some none)
    (ha_BadGear : PySem.W.findIn K (.ref C_BadGear) "__class__" = some (some (.builtin "object.__class__")))
    (hm_BadGear : PySem.W.mroIn K C_BadGear (.type "object") = some true)
    (sg_BadGear : PySem.W.subIn K (.ref C_BadGear) (.ref C_GearError) = some true)
    (sv_BadGear : PySem.W.subIn K (.ref C_BadGear) (.type "ValueError") = some true)
    (s1_BadGear : PySem.W.subIn K (.ref C_BadGear) (.ref C_BadStanding) = some false)
    (n1_BadGear : C_BadGear ≠ C_BadStanding)
    (s2_BadGear : PySem.W.subIn K (.ref C_BadGear) (.ref C_BadMoves) = some false)
    (n2_BadGear : C_BadGear ≠ C_BadMoves)
    (s3_BadGear : PySem.W.subIn K (.ref C_BadGear) (.ref C_BadGoal) = some false)
    (n3_BadGear : C_BadGear ≠ C_BadGoal)
    (s4_BadGear : PySem.W.subIn K (.ref C_BadGear) (.ref C_BadMarks) = some false)
    (n4_BadGear : C_BadGear ≠ C_BadMarks)
    (s5_BadGear : PySem.W.subIn K (.ref C_BadGear) (.ref C_BadMark) = some false)
    (n5_BadGear : C_BadGear ≠ C_BadMark)
    (s6_BadGear : PySem.W.subIn K (.ref C_BadGear) (.ref C_BadText) = some false)
    (n6_BadGear : C_BadGear ≠ C_BadText)
    (ex_BadStanding : PySem.W.excIn K C_BadStanding [.type "ValueError", .type "Exception", .type "BaseException", .type "object"] "ValueError.__new__" = true)
    (kc_BadStanding : PySem.W.keepIn K (.ref C_BadStanding) = true)
    (sb_BadStanding : PySem.W.subIn K (.ref C_BadStanding) (.type "BaseException") = some true)
    (hg_BadStanding : PySem.W.findIn K (.ref C_BadStanding) "__getattribute__" = some (some (.builtin "BaseException.__getattribute__")))
    (hk_BadStanding : PySem.W.findIn K (.ref C_BadStanding) "__getattr__" = some none)
    (ha_BadStanding : PySem.W.findIn K (.ref C_BadStanding) "__class__" = some (some (.builtin "object.__class__")))
    (hm_BadStanding : PySem.W.mroIn K C_BadStanding (.type "object") = some true)
    (sg_BadStanding : PySem.W.subIn K (.ref C_BadStanding) (.ref C_GearError) = some true)
    (sv_BadStanding : PySem.W.subIn K (.ref C_BadStanding) (.type "ValueError") = some true)
    (s0_BadStanding : PySem.W.subIn K (.ref C_BadStanding) (.ref C_BadGear) = some false)
    (n0_BadStanding : C_BadStanding ≠ C_BadGear)
    (s2_BadStanding : PySem.W.subIn K (.ref C_BadStanding) (.ref C_BadMoves) = some false)
    (n2_BadStanding : C_BadStanding ≠ C_BadMoves)
    (s3_BadStanding : PySem.W.subIn K (.ref C_BadStanding) (.ref C_BadGoal) = some false)
    (n3_BadStanding : C_BadStanding ≠ C_BadGoal)
    (s4_BadStanding : PySem.W.subIn K (.ref C_BadStanding) (.ref C_BadMarks) = some false)
    (n4_BadStanding : C_BadStanding ≠ C_BadMarks)
    (s5_BadStanding : PySem.W.subIn K (.ref C_BadStanding) (.ref C_BadMark) = some false)
    (n5_BadStanding : C_BadStanding ≠ C_BadMark)
    (s6_BadStanding : PySem.W.subIn K (.ref C_BadStanding) (.ref C_BadText) = some false)
    (n6_BadStanding : C_BadStanding ≠ C_BadText)
    (ex_BadMoves : PySem.W.excIn K C_BadMoves [.type "ValueError", .type "Exception", .type "BaseException", .type "object"] "ValueError.__new__" = true)
    (kc_BadMoves : PySem.W.keepIn K (.ref C_BadMoves) = true)
    (sb_BadMoves : PySem.W.subIn K (.ref C_BadMoves) (.type "BaseException") = some true)
    (hg_BadMoves : PySem.W.findIn K (.ref C_BadMoves) "__getattribute__" = some (some (.builtin "BaseException.__getattribute__")))
    (hk_BadMoves : PySem.W.findIn K (.ref C_BadMoves) "__getattr__" = some none)
    (ha_BadMoves : PySem.W.findIn K (.ref C_BadMoves) "__class__" = some (some (.builtin "object.__class__")))
    (hm_BadMoves : PySem.W.mroIn K C_BadMoves (.type "object") = some true)
    (sg_BadMoves : PySem.W.subIn K (.ref C_BadMoves) (.ref C_GearError) = some true)
    (sv_BadMoves : PySem.W.subIn K (.ref C_BadMoves) (.type "ValueError") = some true)
    (s0_BadMoves : PySem.W.subIn K (.ref C_BadMoves) (.ref C_BadGear) = some false)
    (n0_BadMoves : C_BadMoves ≠ C_BadGear)
    (s1_BadMoves : PySem.W.subIn K (.ref C_BadMoves) (.ref C_BadStanding) = some false)
    (n1_BadMoves : C_BadMoves ≠ C_BadStanding)
    (s3_BadMoves : PySem.W.subIn K (.ref C_BadMoves) (.ref C_BadGoal) = some false)
    (n3_BadMoves : C_BadMoves ≠ C_BadGoal)
    (s4_BadMoves : PySem.W.subIn K (.ref C_BadMoves) (.ref C_BadMarks) = some false)
    (n4_BadMoves : C_BadMoves ≠ C_BadMarks)
    (s5_BadMoves : PySem.W.subIn K (.ref C_BadMoves) (.ref C_BadMark) = some false)
    (n5_BadMoves : C_BadMoves ≠ C_BadMark)
    (s6_BadMoves : PySem.W.subIn K (.ref C_BadMoves) (.ref C_BadText) = some false)
    (n6_BadMoves : C_BadMoves ≠ C_BadText)
    (ex_BadGoal : PySem.W.excIn K C_BadGoal [.type "ValueError", .type "Exception", .type "BaseException", .type "object"] "ValueError.__new__" = true)
    (kc_BadGoal : PySem.W.keepIn K (.ref C_BadGoal) = true)
    (sb_BadGoal : PySem.W.subIn K (.ref C_BadGoal) (.type "BaseException") = some true)
    (hg_BadGoal : PySem.W.findIn K (.ref C_BadGoal) "__getattribute__" = some (some (.builtin "BaseException.__getattribute__")))
    (hk_BadGoal : PySem.W.findIn K (.ref C_BadGoal) "__getattr__" = some none)
    (ha_BadGoal : PySem.W.findIn K (.ref C_BadGoal) "__class__" = some (some (.builtin "object.__class__")))
    (hm_BadGoal : PySem.W.mroIn K C_BadGoal (.type "object") = some true)
    (sg_BadGoal : PySem.W.subIn K (.ref C_BadGoal) (.ref C_GearError) = some true)
    (sv_BadGoal : PySem.W.subIn K (.ref C_BadGoal) (.type "ValueError") = some true)
    (s0_BadGoal : PySem.W.subIn K (.ref C_BadGoal) (.ref C_BadGear) = some false)
    (n0_BadGoal : C_BadGoal ≠ C_BadGear)
    (s1_BadGoal : PySem.W.subIn K (.ref C_BadGoal) (.ref C_BadStanding) = some false)
    (n1_BadGoal : C_BadGoal ≠ C_BadStanding)
    (s2_BadGoal : PySem.W.subIn K (.ref C_BadGoal) (.ref C_BadMoves) = some false)
    (n2_BadGoal : C_BadGoal ≠ C_BadMoves)
    (s4_BadGoal : PySem.W.subIn K (.ref C_BadGoal) (.ref C_BadMarks) = some false)
    (n4_BadGoal : C_BadGoal ≠ C_BadMarks)
    (s5_BadGoal : PySem.W.subIn K (.ref C_BadGoal) (.ref C_BadMark) = some false)
    (n5_BadGoal : C_BadGoal ≠ C_BadMark)
    (s6_BadGoal : PySem.W.subIn K (.ref C_BadGoal) (.ref C_BadText) = some false)
    (n6_BadGoal : C_BadGoal ≠ C_BadText)
    (ex_BadMarks : PySem.W.excIn K C_BadMarks [.type "ValueError", .type "Exception", .type "BaseException", .type "object"] "ValueError.__new__" = true)
    (kc_BadMarks : PySem.W.keepIn K (.ref C_BadMarks) = true)
    (sb_BadMarks : PySem.W.subIn K (.ref C_BadMarks) (.type "BaseException") = some true)
    (hg_BadMarks : PySem.W.findIn K (.ref C_BadMarks) "__getattribute__" = some (some (.builtin "BaseException.__getattribute__")))
    (hk_BadMarks : PySem.W.findIn K (.ref C_BadMarks) "__getattr__" = some none)
    (ha_BadMarks : PySem.W.findIn K (.ref C_BadMarks) "__class__" = some (some (.builtin "object.__class__")))
    (hm_BadMarks : PySem.W.mroIn K C_BadMarks (.type "object") = some true)
    (sg_BadMarks : PySem.W.subIn K (.ref C_BadMarks) (.ref C_GearError) = some true)
    (sv_BadMarks : PySem.W.subIn K (.ref C_BadMarks) (.type "ValueError") = some true)
    (s0_BadMarks : PySem.W.subIn K (.ref C_BadMarks) (.ref C_BadGear) = some false)
    (n0_BadMarks : C_BadMarks ≠ C_BadGear)
    (s1_BadMarks : PySem.W.subIn K (.ref C_BadMarks) (.ref C_BadStanding) = some false)
    (n1_BadMarks : C_BadMarks ≠ C_BadStanding)
    (s2_BadMarks : PySem.W.subIn K (.ref C_BadMarks) (.ref C_BadMoves) = some false)
    (n2_BadMarks : C_BadMarks ≠ C_BadMoves)
    (s3_BadMarks : PySem.W.subIn K (.ref C_BadMarks) (.ref C_BadGoal) = some false)
    (n3_BadMarks : C_BadMarks ≠ C_BadGoal)
    (s5_BadMarks : PySem.W.subIn K (.ref C_BadMarks) (.ref C_BadMark) = some false)
    (n5_BadMarks : C_BadMarks ≠ C_BadMark)
    (s6_BadMarks : PySem.W.subIn K (.ref C_BadMarks) (.ref C_BadText) = some false)
    (n6_BadMarks : C_BadMarks ≠ C_BadText)
    (haK_ : PySem.W.findIn K (.ref C_Keeper) "__class__" = some (some (.builtin "object.__class__")))
    (hmK_ : PySem.W.mroIn K C_Keeper (.type "object") = some true)
    (sK_ : PySem.W.subIn K (.ref C_Keeper) (.type "str") = some false)
    (ne_0_1 : PP_law ≠ PP_law_of_gears)
    (ne_0_2 : PP_law ≠ PP_to)
    (ne_1_2 : PP_law_of_gears ≠ PP_to) :
    LamX.LawAtS l w K CX0 18 63 "_law_script" mg fa h := by
  have e := hfa.symm.trans (PySem.W.mg_of X G a31)
  cases e
  have F := FunTabF.mk' (st := s_law) a31 l31 c31 t_law
  have B : Bl mg := ⟨PySem.W.mg_none_of X G z_len, PySem.W.mg_none_of X G z_range, PySem.W.mg_none_of X G z_abs, PySem.W.mg_none_of X G z_max, PySem.W.mg_none_of X G z_min, PySem.W.mg_none_of X G z_list, PySem.W.mg_none_of X G z_tuple, PySem.W.mg_none_of X G z_int, PySem.W.mg_none_of X G z_isinstance, PySem.W.mg_none_of X G z_sum, PySem.W.mg_none_of X G z_set, PySem.W.mg_none_of X G z_sorted, PySem.W.mg_none_of X G z_zip, PySem.W.mg_none_of X G z_enumerate, PySem.W.mg_none_of X G z_str, PySem.W.mg_none_of X G z_bool⟩
  have y1 : ∀ p ∈ ([(cc_law, PP_law), (cc_law_of_gears, PP_law_of_gears), (cc_to, PP_to)] : List (Addr × Addr)), h.get? p.2 = some { cls := .none, data := .fields #[] } := fun p hp => by
    simp only [List.mem_cons, List.not_mem_nil, or_false] at hp
    rcases hp with rfl | rfl | rfl
    · exact y_law
    · exact y_law_of_gears
    · exact y_to
  have y2 : ∀ p ∈ ([(cc_law, PP_law), (cc_law_of_gears, PP_law_of_gears), (cc_to, PP_to)] : List (Addr × Addr)), K.lookup p.2 = none := fun p hp => by
    simp only [List.mem_cons, List.not_mem_nil, or_false] at hp
    rcases hp with rfl | rfl | rfl
    · exact n_law
    · exact n_law_of_gears
    · exact n_to
  have y3 : ∀ p ∈ ([(cc_law, PP_law), (cc_law_of_gears, PP_law_of_gears), (cc_to, PP_to)] : List (Addr × Addr)), PySem.W.CodeHd h p.1 p.2 := fun p hp => by
    simp only [List.mem_cons, List.not_mem_nil, or_false] at hp
    rcases hp with rfl | rfl | rfl
    · exact PySem.W.codeHd_of_K X e_law
    · exact PySem.W.codeHd_of_K X e_law_of_gears
    · exact PySem.W.codeHd_of_K X e_to
  refine ⟨_, [(cc_law, PP_law), (cc_law_of_gears, PP_law_of_gears), (cc_to, PP_to)], spLawT K [(PP_law, ("law" ++ ".<locals>." ++ "<lambda>" : Str)), (PP_law_of_gears, ("_law_of_gears" ++ ".<locals>." ++ "<lambda>" : Str)), (PP_to, ("to" ++ ".<locals>." ++ "<lambda>" : Str))], y1, y2, y3, fun s v => .of_eq rfl, fun H a ns hl _ hH hS => ⟨a, ns, rfl, hS, hl, ?_, fun _ => rfl⟩, fun base _ _ TB => law_fn B ⟨⟨pg_Keeper, hd_Keeper, po_Keeper, sa_Keeper⟩, nf_Keeper_gear, nf_Keeper_marks, nf_Keeper_standing⟩ mk_Keeper kc_Keeper (PySem.W.mg_of X G aC_Keeper) (MethAt.mk' a_Keeper_init i_Keeper_init l_Keeper_init c_Keeper_init k_Keeper_init) (MethAt.mk' a_Keeper_move i_Keeper_move l_Keeper_move c_Keeper_move k_Keeper_move) (MethAt.mk' a_Keeper_believed i_Keeper_believed l_Keeper_believed c_Keeper_believed k_Keeper_believed) (MethAt.mk' a_Keeper_moved_by i_Keeper_moved_by l_Keeper_moved_by c_Keeper_moved_by k_Keeper_moved_by) (MethAt.mk' a_Keeper_found i_Keeper_found l_Keeper_found c_Keeper_found k_Keeper_found) (MethAt.mk' a_Keeper_found_any i_Keeper_found_any l_Keeper_found_any c_Keeper_found_any k_Keeper_found_any) (FunAt.mk' X G a0 l0 c0 k0) (FunAt.mk' X G a1 l1 c1 k1) (FunAt.mk' X G a2 l2 c2 k2) (FunAt.mk' X G a3 l3 c3 k3) (FunAt.mk' X G a4 l4 c4 k4) (FunAt.mk' X G a5 l5 c5 k5) (FunAt.mk' X G a6 l6 c6 k6) (FunAt.mk' X G a7 l7 c7 k7) (FunAt.mk' X G a8 l8 c8 k8) (FunAt.mk' X G a9 l9 c9 k9) (FunAt.mk' X G a10 l10 c10 k10) (FunAt.mk' X G a11 l11 c11 k11) (FunAt.mk' X G a12 l12 c12 k12) (FunAt.mk' X G a13 l13 c13 k13) (FunAt.mk' X G a14 l14 c14 k14) (FunAt.mk' X G a15 l15 c15 k15) (FunAt.mk' X G a16 l16 c16 k16) (FunAt.mk' X G a17 l17 c17 k17) (FunTab.mk' X G a18 l18 c18 k18 t_to) (FunAt.mk' X G a19 l19 c19 k19) (FunAt.mk' X G a20 l20 c20 k20) (FunAt.mk' X G a21 l21 c21 k21) (FunAt.mk' X G a22 l22 c22 k22) (FunAt.mk' X G a23 l23 c23 k23) (FunAt.mk' X G a24 l24 c24 k24) (FunAt.mk' X G a25 l25 c25 k25) (FunAt.mk' X G a26 l26 c26 k26) (FunAt.mk' X G a27 l27 c27 k27) (FunAt.mk' X G a28 l28 c28 k28) (FunTab.mk' X G a29 l29 c29 k29 t_law_of_gears) (FunAt.mk' X G a30 l30 c30 k30) ⟨_, PySem.W.mg_of X G m_MOST⟩ ⟨_, PySem.W.mg_of X G m_MOST_MOVES⟩ ⟨_, PySem.W.mg_of X G m_MOST_MARKS⟩ ⟨_, PySem.W.mg_of X G m_MOST_GOALS⟩ ⟨_, PySem.W.mg_of X G m_MOST_TOUR⟩ (TB (cc_law, PP_law) (by simp)) (TB (cc_law_of_gears, PP_law_of_gears) (by simp)) (TB (cc_to, PP_to) (by simp)) ⟨PySem.W.mg_of X G aC_GearError⟩ ⟨PySem.W.mg_of X G aC_BadGear⟩ ⟨PySem.W.mg_of X G aC_BadStanding⟩ ⟨PySem.W.mg_of X G aC_BadMoves⟩ ⟨PySem.W.mg_of X G aC_BadGoal⟩ ⟨PySem.W.mg_of X G aC_BadMarks⟩ ⟨PySem.W.mg_of X G aC_BadMark⟩ ⟨PySem.W.mg_of X G aC_BadText⟩ (PySem.W.mg_none_of X G z_ValueError) ⟨ex_BadGear, kc_BadGear, sb_BadGear, et_BadGear⟩ ⟨⟨hg_BadGear, hk_BadGear, sb_BadGear, ed_BadGear, ha_BadGear, hn_, ht_, hm_BadGear⟩, PySem.W.exm_ref eb_GearError ed_GearError et_GearError sg_BadGear, kit_type (by decide +kernel) sv_BadGear, fun j hj => match j, hj with | 0, _ => kit_self | 1, _ => kit_ref ed_BadStanding et_BadStanding s1_BadGear n1_BadGear | 2, _ => kit_ref ed_BadMoves et_BadMoves s2_BadGear n2_BadGear | 3, _ => kit_ref ed_BadGoal et_BadGoal s3_BadGear n3_BadGear | 4, _ => kit_ref ed_BadMarks et_BadMarks s4_BadGear n4_BadGear | 5, _ => kit_ref ed_BadMark et_BadMark s5_BadGear n5_BadGear | 6, _ => kit_ref ed_BadText et_BadText s6_BadGear n6_BadGear | n + 7, h => absurd h (by omega)⟩ ⟨ex_BadStanding, kc_BadStanding, sb_BadStanding, et_BadStanding⟩ ⟨⟨hg_BadStanding, hk_BadStanding, sb_BadStanding, ed_BadStanding, ha_BadStanding, hn_, ht_, hm_BadStanding⟩, PySem.W.exm_ref eb_GearError ed_GearError et_GearError sg_BadStanding, kit_type (by decide +kernel) sv_BadStanding, fun j hj => match j, hj with | 0, _ => kit_ref ed_BadGear et_BadGear s0_BadStanding n0_BadStanding | 1, _ => kit_self | 2, _ => kit_ref ed_BadMoves et_BadMoves s2_BadStanding n2_BadStanding | 3, _ => kit_ref ed_BadGoal et_BadGoal s3_BadStanding n3_BadStanding | 4, _ => kit_ref ed_BadMarks et_BadMarks s4_BadStanding n4_BadStanding | 5, _ => kit_ref ed_BadMark et_BadMark s5_BadStanding n5_BadStanding | 6, _ => kit_ref ed_BadText et_BadText s6_BadStanding n6_BadStanding | n + 7, h => absurd h (by omega)⟩ ⟨ex_BadMoves, kc_BadMoves, sb_BadMoves, et_BadMoves⟩ ⟨⟨hg_BadMoves, hk_BadMoves, sb_BadMoves, ed_BadMoves, ha_BadMoves, hn_, ht_, hm_BadMoves⟩, PySem.W.exm_ref eb_GearError ed_GearError et_GearError sg_BadMoves, kit_type (by decide +kernel) sv_BadMoves, fun j hj => match j, hj with | 0, _ => kit_ref ed_BadGear et_BadGear s0_BadMoves n0_BadMoves | 1, _ => kit_ref ed_BadStanding et_BadStanding s1_BadMoves n1_BadMoves | 2, _ => kit_self | 3, _ => kit_ref ed_BadGoal et_BadGoal s3_BadMoves n3_BadMoves | 4, _ => kit_ref ed_BadMarks et_BadMarks s4_BadMoves n4_BadMoves | 5, _ => kit_ref ed_BadMark et_BadMark s5_BadMoves n5_BadMoves | 6, _ => kit_ref ed_BadText et_BadText s6_BadMoves n6_BadMoves | n + 7, h => absurd h (by omega)⟩ ⟨ex_BadGoal, kc_BadGoal, sb_BadGoal, et_BadGoal⟩ ⟨⟨hg_BadGoal, hk_BadGoal, sb_BadGoal, ed_BadGoal, ha_BadGoal, hn_, ht_, hm_BadGoal⟩, PySem.W.exm_ref eb_GearError ed_GearError et_GearError sg_BadGoal, kit_type (by decide +kernel) sv_BadGoal, fun j hj => match j, hj with | 0, _ => kit_ref ed_BadGear et_BadGear s0_BadGoal n0_BadGoal | 1, _ => kit_ref ed_BadStanding et_BadStanding s1_BadGoal n1_BadGoal | 2, _ => kit_ref ed_BadMoves et_BadMoves s2_BadGoal n2_BadGoal | 3, _ => kit_self | 4, _ => kit_ref ed_BadMarks et_BadMarks s4_BadGoal n4_BadGoal | 5, _ => kit_ref ed_BadMark et_BadMark s5_BadGoal n5_BadGoal | 6, _ => kit_ref ed_BadText et_BadText s6_BadGoal n6_BadGoal | n + 7, h => absurd h (by omega)⟩ ⟨ex_BadMarks, kc_BadMarks, sb_BadMarks, et_BadMarks⟩ ⟨⟨hg_BadMarks, hk_BadMarks, sb_BadMarks, ed_BadMarks, ha_BadMarks, hn_, ht_, hm_BadMarks⟩, PySem.W.exm_ref eb_GearError ed_GearError et_GearError sg_BadMarks, kit_type (by decide +kernel) sv_BadMarks, fun j hj => match j, hj with | 0, _ => kit_ref ed_BadGear et_BadGear s0_BadMarks n0_BadMarks | 1, _ => kit_ref ed_BadStanding et_BadStanding s1_BadMarks n1_BadMarks | 2, _ => kit_ref ed_BadMoves et_BadMoves s2_BadMarks n2_BadMarks | 3, _ => kit_ref ed_BadGoal et_BadGoal s3_BadMarks n3_BadMarks | 4, _ => kit_self | 5, _ => kit_ref ed_BadMark et_BadMark s5_BadMarks n5_BadMarks | 6, _ => kit_ref ed_BadText et_BadText s6_BadMarks n6_BadMarks | n + 7, h => absurd h (by omega)⟩ ne_0_1 ne_0_2 ne_1_2 F ⟨haK_, hn_, ht_, hmK_, kit_type (by decide +kernel) sK_⟩⟩
  · intro p hp
    simp only [List.mem_cons, List.not_mem_nil, or_false] at hp
    rcases hp with rfl | rfl | rfl
    · exact LamX.TabS.nil (hH (cc_law, PP_law) (by simp))
    · exact LamX.TabS.nil (hH (cc_law_of_gears, PP_law_of_gears) (by simp))
    · exact LamX.TabS.nil (hH (cc_to, PP_to) (by simp))
end Rd
open PySem PySem.W PyProof.Rows
set_option maxRecDepth 100000 in
set_option maxHeartbeats 0 in
theorem PySem.Challenge.cw_stepgear_k01_refused_in_order_holds : PySem.Challenge.rw_stepgear_k01_refused_in_order.Holds := by
  w_on; o_law; k_head; (case hw => w_witness2)
  k_fill
  refine Rd.walk_tabs (l := PySem.Challenge.rw_stepgear_k01_refused_in_order) (n := 63) (k := 18) (x := "_law_script") (CX := fun _ => L2.CX0) rfl (by decide) rfl ⟨rfl, by decide, by decide⟩ (fun w h Y => PySem.W.km_in_of Y) ?F (fun _ _ _ _ _ h => h)
  case F =>
    intro w mg fa h Y KX G hmg TA
    refine' Rd.all_mk KX G hmg ?aC_Keeper ?pg_Keeper ?hd_Keeper ?po_Keeper ?sa_Keeper ?mk_Keeper ?kc_Keeper ?nf_Keeper_gear ?nf_Keeper_marks ?nf_Keeper_standing ?a_Keeper_init ?i_Keeper_init ?l_Keeper_init ?c_Keeper_init ?k_Keeper_init ?a_Keeper_move ?i_Keeper_move ?l_Keeper_move ?c_Keeper_move ?k_Keeper_move ?a_Keeper_believed ?i_Keeper_believed ?l_Keeper_believed ?c_Keeper_believed ?k_Keeper_believed ?a_Keeper_moved_by ?i_Keeper_moved_by ?l_Keeper_moved_by ?c_Keeper_moved_by ?k_Keeper_moved_by ?a_Keeper_found ?i_Keeper_found ?l_Keeper_found ?c_Keeper_found ?k_Keeper_found ?a_Keeper_found_any ?i_Keeper_found_any ?l_Keeper_found_any ?c_Keeper_found_any ?k_Keeper_found_any ?a0 ?l0 ?c0 ?k0 ?a1 ?l1 ?c1 ?k1 ?a2 ?l2 ?c2 ?k2 ?a3 ?l3 ?c3 ?k3 ?a4 ?l4 ?c4 ?k4 ?a5 ?l5 ?c5 ?k5 ?a6 ?l6 ?c6 ?k6 ?a7 ?l7 ?c7 ?k7 ?a8 ?l8 ?c8 ?k8 ?a9 ?l9 ?c9 ?k9 ?a10 ?l10 ?c10 ?k10 ?a11 ?l11 ?c11 ?k11 ?a12 ?l12 ?c12 ?k12 ?a13 ?l13 ?c13 ?k13 ?a14 ?l14 ?c14 ?k14 ?a15 ?l15 ?c15 ?k15 ?a16 ?l16 ?c16 ?k16 ?a17 ?l17 ?c17 ?k17 ?a18 ?l18 ?c18 ?k18 ?t_to ?a19 ?l19 ?c19 ?k19 ?a20 ?l20 ?c20 ?k20 ?a21 ?l21 ?c21 ?k21 ?a22 ?l22 ?c22 ?k22 ?a23 ?l23 ?c23 ?k23 ?a24 ?l24 ?c24 ?k24 ?a25 ?l25 ?c25 ?k25 ?a26 ?l26 ?c26 ?k26 ?a27 ?l27 ?c27 ?k27 ?a28 ?l28 ?c28 ?k28 ?a29 ?l29 ?c29 ?k29 ?t_law_of_gears ?a30 ?l30 ?c30 ?k30 ?a31 ?l31 ?c31 ?k31 ?t_law ?m_MOST ?m_MOST_MOVES ?m_MOST_MARKS ?m_MOST_GOALS ?m_MOST_TOUR ?z_len ?z_range ?z_abs ?z_max ?z_min ?z_list ?z_tuple ?z_int ?z_isinstance ?z_sum ?z_set ?z_sorted ?z_zip ?z_enumerate ?z_str ?z_bool ?n_law ?e_law ?y_law ?n_law_of_gears ?e_law_of_gears ?y_law_of_gears ?n_to ?e_to ?y_to ?aC_GearError ?aC_BadGear ?aC_BadStanding ?aC_BadMoves ?aC_BadGoal ?aC_BadMarks ?aC_BadMark ?aC_BadText ?z_ValueError ?et_GearError ?ed_GearError ?et_BadGear ?ed_BadGear ?et_BadStanding ?ed_BadStanding ?et_BadMoves ?ed_BadMoves ?et_BadGoal ?ed_BadGoal ?et_BadMarks ?ed_BadMarks ?et_BadMark ?ed_BadMark ?et_BadText ?ed_BadText ?eb_GearError ?hn_ ?ht_ ?ex_BadGear ?kc_BadGear ?sb_BadGear ?hg_BadGear ?hk_BadGear ?ha_BadGear ?hm_BadGear ?sg_BadGear ?sv_BadGear ?s1_BadGear ?n1_BadGear ?s2_BadGear ?n2_BadGear ?s3_BadGear ?n3_BadGear ?s4_BadGear ?n4_BadGear ?s5_BadGear ?n5_BadGear ?s6_BadGear ?n6_BadGear ?ex_BadStanding ?kc_BadStanding ?sb_BadStanding ?hg_BadStanding ?hk_BadStanding ?ha_BadStanding ?hm_BadStanding ?sg_BadStanding ?sv_BadStanding ?s0_BadStanding ?n0_BadStanding ?s2_BadStanding ?n2_BadStanding ?s3_BadStanding ?n3_BadStanding ?s4_BadStanding ?n4_BadStanding ?s5_BadStanding ?n5_BadStanding ?s6_BadStanding ?n6_BadStanding ?ex_BadMoves ?kc_BadMoves ?sb_BadMoves ?hg_BadMoves ?hk_BadMoves ?ha_BadMoves ?hm_BadMoves ?sg_BadMoves ?sv_BadMoves ?s0_BadMoves ?n0_BadMoves ?s1_BadMoves ?n1_BadMoves ?s3_BadMoves ?n3_BadMoves ?s4_BadMoves ?n4_BadMoves ?s5_BadMoves ?n5_BadMoves ?s6_BadMoves ?n6_BadMoves ?ex_BadGoal ?kc_BadGoal ?sb_BadGoal ?hg_BadGoal ?hk_BadGoal ?ha_BadGoal ?hm_BadGoal ?sg_BadGoal ?sv_BadGoal ?s0_BadGoal ?n0_BadGoal ?s1_BadGoal ?n1_BadGoal ?s2_BadGoal ?n2_BadGoal ?s4_BadGoal ?n4_BadGoal ?s5_BadGoal ?n5_BadGoal ?s6_BadGoal ?n6_BadGoal ?ex_BadMarks ?kc_BadMarks ?sb_BadMarks ?hg_BadMarks ?hk_BadMarks ?ha_BadMarks ?hm_BadMarks ?sg_BadMarks ?sv_BadMarks ?s0_BadMarks ?n0_BadMarks ?s1_BadMarks ?n1_BadMarks ?s2_BadMarks ?n2_BadMarks ?s3_BadMarks ?n3_BadMarks ?s5_BadMarks ?n5_BadMarks ?s6_BadMarks ?n6_BadMarks ?haK_ ?hmK_ ?sK_ ?ne_0_1 ?ne_0_2 ?ne_1_2
    (case aC_Keeper => k_is)
    (case pg_Keeper => k_is)
    (case hd_Keeper => k_is)
    (case po_Keeper => k_is)
    (case sa_Keeper => first | k_is | with_unfolding_all rfl)
    (case mk_Keeper => k_is)
    (case kc_Keeper => k_is)
    (case nf_Keeper_gear => k_is)
    (case nf_Keeper_marks => k_is)
    (case nf_Keeper_standing => k_is)
    (case a_Keeper_init => first | k_is | with_unfolding_all rfl)
    (case i_Keeper_init => first | k_is | with_unfolding_all rfl)
    (case l_Keeper_init => k_is)
    (case c_Keeper_init => k_is)
    (case k_Keeper_init => k_is)
    (case a_Keeper_move => first | k_is | with_unfolding_all rfl)
    (case i_Keeper_move => first | k_is | with_unfolding_all rfl)
    (case l_Keeper_move => k_is)
    (case c_Keeper_move => k_is)
    (case k_Keeper_move => k_is)
    (case a_Keeper_believed => first | k_is | with_unfolding_all rfl)
    (case i_Keeper_believed => first | k_is | with_unfolding_all rfl)
    (case l_Keeper_believed => k_is)
    (case c_Keeper_believed => k_is)
    (case k_Keeper_believed => k_is)
    (case a_Keeper_moved_by => first | k_is | with_unfolding_all rfl)
    (case i_Keeper_moved_by => first | k_is | with_unfolding_all rfl)
    (case l_Keeper_moved_by => k_is)
    (case c_Keeper_moved_by => k_is)
    (case k_Keeper_moved_by => k_is)
    (case a_Keeper_found => first | k_is | with_unfolding_all rfl)
    (case i_Keeper_found => first | k_is | with_unfolding_all rfl)
    (case l_Keeper_found => k_is)
    (case c_Keeper_found => k_is)
    (case k_Keeper_found => k_is)
    (case a_Keeper_found_any => first | k_is | with_unfolding_all rfl)
    (case i_Keeper_found_any => first | k_is | with_unfolding_all rfl)
    (case l_Keeper_found_any => k_is)
    (case c_Keeper_found_any => k_is)
    (case k_Keeper_found_any => k_is)
    (case a0 => k_is)
    (case l0 => k_is)
    (case c0 => k_is)
    (case k0 => k_is)
    (case a1 => k_is)
    (case l1 => k_is)
    (case c1 => k_is)
    (case k1 => k_is)
    (case a2 => k_is)
    (case l2 => k_is)
    (case c2 => k_is)
    (case k2 => k_is)
    (case a3 => k_is)
    (case l3 => k_is)
    (case c3 => k_is)
    (case k3 => k_is)
    (case a4 => k_is)
    (case l4 => k_is)
    (case c4 => k_is)
    (case k4 => k_is)
    (case a5 => k_is)
    (case l5 => k_is)
    (case c5 => k_is)
    (case k5 => k_is)
    (case a6 => k_is)
    (case l6 => k_is)
    (case c6 => k_is)
    (case k6 => k_is)
    (case a7 => k_is)
    (case l7 => k_is)
    (case c7 => k_is)
    (case k7 => k_is)
    (case a8 => k_is)
    (case l8 => k_is)
    (case c8 => k_is)
    (case k8 => k_is)
    (case a9 => k_is)
    (case l9 => k_is)
    (case c9 => k_is)
    (case k9 => k_is)
    (case a10 => k_is)
    (case l10 => k_is)
    (case c10 => k_is)
    (case k10 => k_is)
    (case a11 => k_is)
    (case l11 => k_is)
    (case c11 => k_is)
    (case k11 => k_is)
    (case a12 => k_is)
    (case l12 => k_is)
    (case c12 => k_is)
    (case k12 => k_is)
    (case a13 => k_is)
    (case l13 => k_is)
    (case c13 => k_is)
    (case k13 => k_is)
    (case a14 => k_is)
    (case l14 => k_is)
    (case c14 => k_is)
    (case k14 => k_is)
    (case a15 => k_is)
    (case l15 => k_is)
    (case c15 => k_is)
    (case k15 => k_is)
    (case a16 => k_is)
    (case l16 => k_is)
    (case c16 => k_is)
    (case k16 => k_is)
    (case a17 => k_is)
    (case l17 => k_is)
    (case c17 => k_is)
    (case k17 => k_is)
    (case a18 => k_is)
    (case l18 => k_is)
    (case c18 => k_is)
    (case k18 => k_is)
    (case t_to => with_unfolding_all rfl)
    (case a19 => k_is)
    (case l19 => k_is)
    (case c19 => k_is)
    (case k19 => k_is)
    (case a20 => k_is)
    (case l20 => k_is)
    (case c20 => k_is)
    (case k20 => k_is)
    (case a21 => k_is)
    (case l21 => k_is)
    (case c21 => k_is)
    (case k21 => k_is)
    (case a22 => k_is)
    (case l22 => k_is)
    (case c22 => k_is)
    (case k22 => k_is)
    (case a23 => k_is)
    (case l23 => k_is)
    (case c23 => k_is)
    (case k23 => k_is)
    (case a24 => k_is)
    (case l24 => k_is)
    (case c24 => k_is)
    (case k24 => k_is)
    (case a25 => k_is)
    (case l25 => k_is)
    (case c25 => k_is)
    (case k25 => k_is)
    (case a26 => k_is)
    (case l26 => k_is)
    (case c26 => k_is)
    (case k26 => k_is)
    (case a27 => k_is)
    (case l27 => k_is)
    (case c27 => k_is)
    (case k27 => k_is)
    (case a28 => k_is)
    (case l28 => k_is)
    (case c28 => k_is)
    (case k28 => k_is)
    (case a29 => k_is)
    (case l29 => k_is)
    (case c29 => k_is)
    (case k29 => k_is)
    (case t_law_of_gears => with_unfolding_all rfl)
    (case a30 => k_is)
    (case l30 => k_is)
    (case c30 => k_is)
    (case k30 => k_is)
    (case a31 => k_is)
    (case l31 => k_is)
    (case c31 => k_is)
    (case k31 => k_is)
    (case t_law => with_unfolding_all rfl)
    (case m_MOST => k_is)
    (case m_MOST_MOVES => k_is)
    (case m_MOST_MARKS => k_is)
    (case m_MOST_GOALS => k_is)
    (case m_MOST_TOUR => k_is)
    (case z_len => k_is)
    (case z_range => k_is)
    (case z_abs => k_is)
    (case z_max => k_is)
    (case z_min => k_is)
    (case z_list => k_is)
    (case z_tuple => k_is)
    (case z_int => k_is)
    (case z_isinstance => k_is)
    (case z_sum => k_is)
    (case z_set => k_is)
    (case z_sorted => k_is)
    (case z_zip => k_is)
    (case z_enumerate => k_is)
    (case z_str => k_is)
    (case z_bool => k_is)
    (case n_law => first | k_is | with_unfolding_all rfl)
    (case e_law => first | k_is | with_unfolding_all rfl)
    (case y_law => exact PySem.W.km_tabs_of Y _ (by first | decide | simp))
    (case n_law_of_gears => first | k_is | with_unfolding_all rfl)
    (case e_law_of_gears => first | k_is | with_unfolding_all rfl)
    (case y_law_of_gears => exact PySem.W.km_tabs_of Y _ (by first | decide | simp))
    (case n_to => first | k_is | with_unfolding_all rfl)
    (case e_to => first | k_is | with_unfolding_all rfl)
    (case y_to => exact PySem.W.km_tabs_of Y _ (by first | decide | simp))
    (case aC_GearError => k_is)
    (case aC_BadGear => k_is)
    (case aC_BadStanding => k_is)
    (case aC_BadMoves => k_is)
    (case aC_BadGoal => k_is)
    (case aC_BadMarks => k_is)
    (case aC_BadMark => k_is)
    (case aC_BadText => k_is)
    (case z_ValueError => k_is)
    (case et_GearError => k_is)
    (case ed_GearError => k_is)
    (case et_BadGear => k_is)
    (case ed_BadGear => k_is)
    (case et_BadStanding => k_is)
    (case ed_BadStanding => k_is)
    (case et_BadMoves => k_is)
    (case ed_BadMoves => k_is)
    (case et_BadGoal => k_is)
    (case ed_BadGoal => k_is)
    (case et_BadMarks => k_is)
    (case ed_BadMarks => k_is)
    (case et_BadMark => k_is)
    (case ed_BadMark => k_is)
    (case et_BadText => k_is)
    (case ed_BadText => k_is)
    (case eb_GearError => k_is)
    (case hn_ => first | k_is | with_unfolding_all rfl)
    (case ht_ => first | k_is | with_unfolding_all rfl)
    (case ex_BadGear => first | k_is | with_unfolding_all rfl)
    (case kc_BadGear => k_is)
    (case sb_BadGear => first | k_is | with_unfolding_all rfl)
    (case hg_BadGear => k_is)
    (case hk_BadGear => k_is)
    (case ha_BadGear => first | k_is | with_unfolding_all rfl)
    (case hm_BadGear => first | k_is | with_unfolding_all rfl)
    (case sg_BadGear => first | k_is | with_unfolding_all rfl)
    (case sv_BadGear => first | k_is | with_unfolding_all rfl)
    (case s1_BadGear => first | k_is | with_unfolding_all rfl)
    (case n1_BadGear => first | decide | decide +kernel)
    (case s2_BadGear => first | k_is | with_unfolding_all rfl)
    (case n2_BadGear => first | decide | decide +kernel)
    (case s3_BadGear => first | k_is | with_unfolding_all rfl)
    (case n3_BadGear => first | decide | decide +kernel)
    (case s4_BadGear => first | k_is | with_unfolding_all rfl)
    (case n4_BadGear => first | decide | decide +kernel)
    (case s5_BadGear => first | k_is | with_unfolding_all rfl)
    (case n5_BadGear => first | decide | decide +kernel)
    (case s6_BadGear => first | k_is | with_unfolding_all rfl)
    (case n6_BadGear => first | decide | decide +kernel)
    (case ex_BadStanding => first | k_is | with_unfolding_all rfl)
    (case kc_BadStanding => k_is)
    (case sb_BadStanding => first | k_is | with_unfolding_all rfl)
    (case hg_BadStanding => k_is)
    (case hk_BadStanding => k_is)
    (case ha_BadStanding => first | k_is | with_unfolding_all rfl)
    (case hm_BadStanding => first | k_is | with_unfolding_all rfl)
    (case sg_BadStanding => first | k_is | with_unfolding_all rfl)
    (case sv_BadStanding => first | k_is | with_unfolding_all rfl)
    (case s0_BadStanding => first | k_is | with_unfolding_all rfl)
    (case n0_BadStanding => first | decide | decide +kernel)
    (case s2_BadStanding => first | k_is | with_unfolding_all rfl)
    (case n2_BadStanding => first | decide | decide +kernel)
    (case s3_BadStanding => first | k_is | with_unfolding_all rfl)
    (case n3_BadStanding => first | decide | decide +kernel)
    (case s4_BadStanding => first | k_is | with_unfolding_all rfl)
    (case n4_BadStanding => first | decide | decide +kernel)
    (case s5_BadStanding => first | k_is | with_unfolding_all rfl)
    (case n5_BadStanding => first | decide | decide +kernel)
    (case s6_BadStanding => first | k_is | with_unfolding_all rfl)
    (case n6_BadStanding => first | decide | decide +kernel)
    (case ex_BadMoves => first | k_is | with_unfolding_all rfl)
    (case kc_BadMoves => k_is)
    (case sb_BadMoves => first | k_is | with_unfolding_all rfl)
    (case hg_BadMoves => k_is)
    (case hk_BadMoves => k_is)
    (case ha_BadMoves => first | k_is | with_unfolding_all rfl)
    (case hm_BadMoves => first | k_is | with_unfolding_all rfl)
    (case sg_BadMoves => first | k_is | with_unfolding_all rfl)
    (case sv_BadMoves => first | k_is | with_unfolding_all rfl)
    (case s0_BadMoves => first | k_is | with_unfolding_all rfl)
    (case n0_BadMoves => first | decide | decide +kernel)
    (case s1_BadMoves => first | k_is | with_unfolding_all rfl)
    (case n1_BadMoves => first | decide | decide +kernel)
    (case s3_BadMoves => first | k_is | with_unfolding_all rfl)
    (case n3_BadMoves => first | decide | decide +kernel)
    (case s4_BadMoves => first | k_is | with_unfolding_all rfl)
    (case n4_BadMoves => first | decide | decide +kernel)
    (case s5_BadMoves => first | k_is | with_unfolding_all rfl)
    (case n5_BadMoves => first | decide | decide +kernel)
    (case s6_BadMoves => first | k_is | with_unfolding_all rfl)
    (case n6_BadMoves => first | decide | decide +kernel)
    (case ex_BadGoal => first | k_is | with_unfolding_all rfl)
    (case kc_BadGoal => k_is)
    (case sb_BadGoal => first | k_is | with_unfolding_all rfl)
    (case hg_BadGoal => k_is)
    (case hk_BadGoal => k_is)
    (case ha_BadGoal => first | k_is | with_unfolding_all rfl)
    (case hm_BadGoal => first | k_is | with_unfolding_all rfl)
    (case sg_BadGoal => first | k_is | with_unfolding_all rfl)
    (case sv_BadGoal => first | k_is | with_unfolding_all rfl)
    (case s0_BadGoal => first | k_is | with_unfolding_all rfl)
    (case n0_BadGoal => first | decide | decide +kernel)
    (case s1_BadGoal => first | k_is | with_unfolding_all rfl)
    (case n1_BadGoal => first | decide | decide +kernel)
    (case s2_BadGoal => first | k_is | with_unfolding_all rfl)
    (case n2_BadGoal => first | decide | decide +kernel)
    (case s4_BadGoal => first | k_is | with_unfolding_all rfl)
    (case n4_BadGoal => first | decide | decide +kernel)
    (case s5_BadGoal => first | k_is | with_unfolding_all rfl)
    (case n5_BadGoal => first | decide | decide +kernel)
    (case s6_BadGoal => first | k_is | with_unfolding_all rfl)
    (case n6_BadGoal => first | decide | decide +kernel)
    (case ex_BadMarks => first | k_is | with_unfolding_all rfl)
    (case kc_BadMarks => k_is)
    (case sb_BadMarks => first | k_is | with_unfolding_all rfl)
    (case hg_BadMarks => k_is)
    (case hk_BadMarks => k_is)
    (case ha_BadMarks => first | k_is | with_unfolding_all rfl)
    (case hm_BadMarks => first | k_is | with_unfolding_all rfl)
    (case sg_BadMarks => first | k_is | with_unfolding_all rfl)
    (case sv_BadMarks => first | k_is | with_unfolding_all rfl)
    (case s0_BadMarks => first | k_is | with_unfolding_all rfl)
    (case n0_BadMarks => first | decide | decide +kernel)
    (case s1_BadMarks => first | k_is | with_unfolding_all rfl)
    (case n1_BadMarks => first | decide | decide +kernel)
    (case s2_BadMarks => first | k_is | with_unfolding_all rfl)
    (case n2_BadMarks => first | decide | decide +kernel)
    (case s3_BadMarks => first | k_is | with_unfolding_all rfl)
    (case n3_BadMarks => first | decide | decide +kernel)
    (case s5_BadMarks => first | k_is | with_unfolding_all rfl)
    (case n5_BadMarks => first | decide | decide +kernel)
    (case s6_BadMarks => first | k_is | with_unfolding_all rfl)
    (case n6_BadMarks => first | decide | decide +kernel)
    (case haK_ => first | k_is | with_unfolding_all rfl)
    (case hmK_ => first | k_is | with_unfolding_all rfl)
    (case sK_ => first | k_is | with_unfolding_all rfl)
    (case ne_0_1 => first | decide | decide +kernel)
    (case ne_0_2 => first | decide | decide +kernel)
    (case ne_1_2 => first | decide | decide +kernel)

