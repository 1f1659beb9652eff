import PyProof.Rows.All
import Wide.All
import OpenK.AllK
import Wide.FinOn
import PyProof.ZipIter
import KE.KItemsList
import HandS.ForMost
import HandS.Wide
import HandS.TupAny
import HandS.IsInst
import HandS.Walk
import HandS.ListItems
import HandS.Conv
import HandS.EndTab
import HandS.TupLe
import KE.DataMinKey
import KE.KNestM
import HandS.SetFor
import HandS.Strs
import HandS.SortRule
import HandS.ExcInit
import HandS.ExcField
import HandS.ClsMeth
import HandS.ExcIs
import HandS.WordsExc
import KE.KExcIs
import HandS.Codes
import HandS.Nested
import PySem.Challenge.RW_stepgear_k11_written_and_read
set_option Elab.async false
set_option linter.all false
set_option maxRecDepth 100000
set_option maxHeartbeats 4000000
namespace Rd
open PySem PySem.Spec PyProof.Rows L2
/-! ## defs by name -/
/-- the name x stands for a def that keeps the promise sp, at level k -/
structure Has (P : Program) (w : World) (K : PySem.W.Frag) (mg : Str → Option Value) (base : Heap) (CX : CXT) (k : Nat) (x : Str) (sp : Sp) : Prop where
  ex : ∃ (f : Addr) (fd : FuncData) (ps : List Str), FnOk P w K mg base CX k f fd ps sp ∧ mg x = some (.ref f) ∧ PySem.W.keepIn K (.ref f) = true ∧ Binds K fd ps []
theorem Has.imp {P : Program} {w : World} {K : PySem.W.Frag} {mg : Str → Option Value} {base : Heap} {CX : CXT} {k : Nat} {x : Str} {sp sp' : Sp} (h : Has P w K mg base CX k x sp) (i : ∀ vs H Q E, sp' vs H Q E → sp vs H Q E) : Has P w K mg base CX k x sp' := by
  obtain ⟨f, fd, ps, F, r⟩ := h.ex
  exact ⟨f, fd, ps, F.imp i, r⟩
theorem Has.mono {P : Program} {w : World} {K : PySem.W.Frag} {mg : Str → Option Value} {base : Heap} {CX : CXT} {j k : Nat} {x : Str} {sp : Sp} (h : Has P w K mg base CX j x sp) (i : j ≤ k) : Has P w K mg base CX k x sp := by
  obtain ⟨f, fd, ps, F, r⟩ := h.ex
  exact ⟨f, fd, ps, F.mono i, r⟩
/-- the def st of the text stands at the name x -/
structure FunAt (K : PySem.W.Frag) (mg : Str → Option Value) (x : Str) (st : Stmt) : Prop where
  ex : ∃ (f : Addr) (fd : FuncData), Fun K x x st f fd ∧ mg x = some (.ref f)
section
variable {P : Program} {w : World} {K : PySem.W.Frag} {mg : Str → Option Value} {base : Heap}
def BindOk (x : Str) (st : Stmt) (ps : List Str) : Prop := ∀ (kV doc pm : Value) (an : Option Addr) (cdv ct : Value) (us : List Value), us.length = ps.length → bindArgs (PySem.W.fnOf x x (defArgs st) (defBody st) (defScope st) .none kV doc pm an cdv ct) ⟨us, []⟩ = pure (ps.zip us)
def BindOkQ (x q : Str) (st : Stmt) (ps : List Str) : Prop := ∀ (kV doc pm : Value) (an : Option Addr) (cdv ct : Value) (us : List Value), us.length = ps.length → bindArgs (PySem.W.fnOf x q (defArgs st) (defBody st) (defScope st) .none kV doc pm an cdv ct) ⟨us, []⟩ = pure (ps.zip us)
/-- a def that lets no exception out -/
theorem FunAt.ok {x : Str} {st : Stmt} {N ps : List Str} {k : Nat} {sp : Sp} (F : FunAt K mg x st) (S : FnScope N ps (defScope st)) (bo : BindOk x st ps) (len : ∀ vs H Q E, sp vs H Q E → vs.length = ps.length)
    (hbody : ∀ (f : Addr) (cdv : Value) (A : Around) (outer : List Env) (s : Shared) (H : Hp) (vs : List V) (Q : VK) (E : XK), Room k (A.deeper (envOfC x (defScope st) s.heap.objs.size f cdv)) → sp vs H Q E →
      ∃ t, PSs (cxOf CX0 P w K mg base N x (defScope st) f cdv A outer s H E).nox (defBody st) t ∧ t { nx := fun _ H' => Q .non H', rt := Q } (start N vs) H) : Has P w K mg base CX0 (k + 1) x sp := by
  obtain ⟨f, fd, F, hm⟩ := F.ex
  exact ⟨f, fd, ps, F.ok S len fun cdv A outer s H vs Q E hr h => hbody f cdv A outer s H vs Q E hr h, hm, F.kp, F.binds bo⟩
theorem FunAt.mk' {x : Str} {st : Stmt} {h : Heap} (X : K.In h) (G : h.Ns mainGlobals mg) {f : Addr} {oc : Value} {od an : Option Addr} {osl : Array (Option Value)} {kV doc pm cdv ct : Value}
    (a : PySem.W.nsIn K mainGlobals x = some (some (.ref f)))
    (l : K.lookup f = some ⟨oc, od, .func (PySem.W.fnOf x x (defArgs st) (defBody st) (defScope st) .none kV doc pm an cdv ct), osl⟩)
    (c : PySem.W.codeIn K cdv x = true) (k : PySem.W.keepIn K (.ref f) = true) : FunAt K mg x st := ⟨f, _, fun_mk l c k, PySem.W.mg_of X G a⟩
end
section
variable {X : Cx} {CX : CXT} {k j : Nat} {sp : Sp} {E : XK} {x : Str} {p pos : Pos} {e : Expr} {es : List Expr} {t : TA}
theorem pe_has (h : Has X.prog X.w X.K X.mg X.base CX k x sp) (hr : Room j X.A) (hk : k ≤ j) (hg : Gl X x) (hx : Passes CX X E)
    (ha : PA X (e :: es) t) (hdb : (x == ("__debug__" : Str)) = false := by decide) (he : starEach (e :: es) X.env = (false, eval e X.env) :: starEach es X.env := by rfl) (hpl : (backTo pos (starEach es X.env)).any (·.1) = false := by rfl) :
    PE X (.Call (.Name x p) (e :: es) [] pos) (tCall sp [] E t) := by
  obtain ⟨f, fd, ps, F, hm, kp, b⟩ := h.ex
  exact pe_call F (hr.mono hk) hg hm kp b .nil hx ha hdb he hpl
end
/-- the built-ins' names are still theirs -/
structure Bl (mg : Str → Option Value) : Prop where
  len : mg "len" = none
  range : mg "range" = none
  abs : mg "abs" = none
  max : mg "max" = none
  min : mg "min" = none
  list : mg "list" = none
  tuple : mg "tuple" = none
  int : mg "int" = none
  isinstance : mg "isinstance" = none
  sum : mg "sum" = none
  set : mg "set" = none
  sorted : mg "sorted" = none
  zip : mg "zip" = none
  enumerate : mg "enumerate" = none
  str : mg "str" = none
  bool : mg "bool" = none
/-! ## unions of rules -/
section
variable {X : Cx}
def rAddA (K : PySem.W.Frag) : R2 := fun x y H Q => rI0 (fun i j => .int (i + j)) x y H Q ∨ ((∃ i j, x = .str i ∧ y = .str j ∧ i.length + j.length ≤ sizeLine ∧ Q (.str (i ++ j)) H) ∨ (rCat x y H Q ∨ rCatA K x y H Q))
theorem op_addA : OpR X (binaryOp .Add) (rAddA X.K) := OpR.or op_add (OpR.or op_add_str (OpR.or op_cat op_catA))
def rEqA (K : PySem.W.Frag) : R2 := fun x y H Q => rEq x y H Q ∨ rEqD K x y H Q
def rNeA (K : PySem.W.Frag) : R2 := fun x y H Q => rNe x y H Q ∨ rNeD K x y H Q
theorem op_eqA (hu : X.A.units + 64 < cLine) : OpR X (compareOp .Eq) (rEqA X.K) := OpR.or op_eq (op_eqD hu)
theorem op_neA (hu : X.A.units + 64 < cLine) : OpR X (compareOp .NotEq) (rNeA X.K) := OpR.or op_ne (op_neD hu)
def rLen (K : PySem.W.Frag) : List V → Hp → VK → Prop := fun xs H Q => (∃ p ys, xs = [.ref p] ∧ (SqL K H p ys ∨ SqT K H p ys) ∧ (ys.length ≤ 16777216 → Q (.int ys.length) H)) ∨ (∃ z, xs = [.str z] ∧ z.length ≤ sizeLine ∧ Q (.int z.length) H)
theorem call_lenA : CallR X (.builtin "len") (rLen X.K) := by
  refine CallR.or (fun pins s σ H xs us Q I r h => ?_) call_len_str
  obtain ⟨p, ys, e, hq, q⟩ := h
  have hz : ys.length ≤ 16777216 := by
    rcases hq with h | h
    · obtain ⟨_, _, _, z⟩ := I.list h
      rwa [PySem.sizeLine_eq] at z
    · obtain ⟨_, _, _, z⟩ := I.tuple h
      rwa [PySem.sizeLine_eq] at z
  exact call_len_seq pins s σ H xs us Q I r ⟨p, ys, e, hq, q hz⟩
def rMaxA (K : PySem.W.Frag) : List V → Hp → VK → Prop := fun xs H Q => (∃ i j, xs = [.int i, .int j] ∧ Q (.int (if j > i then j else i)) H) ∨ rMax K xs H Q
def rMinA (K : PySem.W.Frag) : List V → Hp → VK → Prop := fun xs H Q => (∃ i j, xs = [.int i, .int j] ∧ Q (.int (if j < i then j else i)) H) ∨ rMin K xs H Q
theorem call_maxA (hc : X.calm = true) : CallR X (.builtin "max") (rMaxA X.K) := CallR.or (call_max2 hc) (cr_max hc)
theorem call_minA (hc : X.calm = true) : CallR X (.builtin "min") (rMinA X.K) := CallR.or (call_min2 hc) (cr_min hc)
def rAbs : List V → Hp → VK → Prop := fun xs H Q => ∃ i, xs = [.int i] ∧ Q (.int (if i < 0 then -i else i)) H
theorem call_absA : CallR X (.builtin "abs") rAbs := call_abs
def rInt1 : List V → Hp → VK → Prop := fun xs H Q => (∃ i, xs = [.int i] ∧ Q (.int i) H) ∨ ∃ k, xs = [.bl k] ∧ Q (.int (if k then 1 else 0)) H
theorem call_intA : CallR X (.type "int") rInt1 := call_int1
def rListOf (K : PySem.W.Frag) : List V → Hp → VK → Prop := fun xs H Q => ∃ p ys, xs = [.ref p] ∧ (SqL K H p ys ∨ SqT K H p ys) ∧ ∀ l, H l = none → Q (.ref l) (upd H l (.lst ys))
theorem call_listA : CallR X (.type "list") (rListOf X.K) := call_list_of
def rTupOf (K : PySem.W.Frag) : List V → Hp → VK → Prop := fun xs H Q => ∃ p ys, xs = [.ref p] ∧ ((SqL K H p ys ∧ ∀ l, H l = none → Q (.ref l) (upd H l (.tup ys))) ∨ (SqT K H p ys ∧ Q (.ref p) H))
theorem call_tupA : CallR X (.type "tuple") (rTupOf X.K) := call_tuple_of
def rSlAll (K : PySem.W.Frag) : V → Option Int → Option Int → Hp → VK → Prop := fun x lo hi H Q => rSlL K x lo hi H Q ∨ (rSlA K x lo hi H Q ∨ rSlS x lo hi H Q)
theorem sl_all : SlR X (rSlAll X.K) := SlR.or sl_list (SlR.or sl_tupA sl_str)
end
/-! ## the rules again, the written part K named -/
section
variable {X : Cx} {K : PySem.W.Frag}
theorem kop_add (h : X.K = K) : OpR X (binaryOp .Add) (rAddA K) := by subst h; exact op_addA
theorem kop_eq (h : X.K = K) (hu : X.A.units + 64 < cLine) : OpR X (compareOp .Eq) (rEqA K) := by subst h; exact op_eqA hu
theorem kop_ne (h : X.K = K) (hu : X.A.units + 64 < cLine) : OpR X (compareOp .NotEq) (rNeA K) := by subst h; exact op_neA hu
theorem kix (h : X.K = K) : IxR X (rIx K) := by subst h; exact ix_seq
theorem ksl (h : X.K = K) : SlR X (rSlAll K) := by subst h; exact sl_all
theorem kc_len (h : X.K = K) : CallR X (.builtin "len") (rLen K) := by subst h; exact call_lenA
theorem kc_max (h : X.K = K) (hc : X.calm = true) : CallR X (.builtin "max") (rMaxA K) := by subst h; exact call_maxA hc
theorem kc_min (h : X.K = K) (hc : X.calm = true) : CallR X (.builtin "min") (rMinA K) := by subst h; exact call_minA hc
theorem kc_sum (h : X.K = K) (hc : X.calm = true) : CallR X (.builtin "sum") (rSum K) := by subst h; exact cr_sum hc
theorem kc_list (h : X.K = K) : CallR X (.type "list") (rListOf K) := by subst h; exact call_listA
theorem kc_tup (h : X.K = K) : CallR X (.type "tuple") (rTupOf K) := by subst h; exact call_tupA
theorem kc_isi (h : X.K = K) : CallR X (.builtin "isinstance") (fun xs H Q => rIsi K xs H Q ∨ rIsiT K xs H Q) := by subst h; exact CallR.or call_isi call_isiT
theorem kpg_tup {es : List Expr} {k : Nat} {t : TGs} {n : Nat} {pos : Pos} (hK : X.K = K) (hc : X.calm = true) (h : PGs X es t)
    (hn : (assignEach es X.env).length = n := by rfl) (hst : (assignEach es X.env).findIdx? (·.1) = none := by rfl) : PG X (.Tuple es k pos) (gTup K n t) := by subst hK; exact pg_tup hc h hn hst
theorem kpi_list {tg l : Expr} {tl : TE} (h : X.K = K) (hl : PE X l tl) : PI X tg l (iList K tl) := by subst h; exact pi_list hl
theorem kpi_tup {tg l : Expr} {tl : TE} (h : X.K = K) (hl : PE X l tl) : PI X tg l (iTup K tl) := by subst h; exact pi_tup hl
theorem kpe_bm {o e : Expr} {es : List Expr} {to : TE} {t : TA} {name : Str} {apos cpos : Pos} {T id : String} {r : V → List V → Hp → VK → Prop} (hK : X.K = K) (pa : PlainAttrs T) (slot : Slot T name id) (hty : typeOf (.builtin id) = pure (.type "method_descriptor")) (hm : MtR X id r) (ho : PE X o to) (ha : PA X (e :: es) t)
    (hbase : attributeBase o name X.env (eval o X.env) = eval o X.env := by rfl)
    (hfew : ((backTo cpos (starEach (e :: es) X.env)).all (fun x => !x.1) && (backToKw cpos (keywordEach [] X.env)).all (fun x => x.1.isSome)
      && decide ((e :: es).length + ([] : List Keyword).length + (if ([] : List Keyword).isEmpty then 0 else 1) < 30)) = true := by rfl)
    (hline : (apos.endLine == cpos.line) = true := by rfl) (hs : starEach (e :: es) X.env = (false, eval e X.env) :: starEach es X.env := by rfl) (hplain : (backTo cpos (starEach es X.env)).any (·.1) = false := by rfl) :
    PE X (.Call (.Attribute o name apos) (e :: es) [] cpos) (tBM K T r to t) := by subst hK; exact pe_bm pa slot hty hm ho ha hbase hfew hline hs hplain
/-- a module's constant -/
structure Cn (mg : Str → Option Value) (x : Str) (i : Int) : Prop where
  ex : ∃ t, mg x = some (.int i t)
theorem pe_cn {x : Str} {i : Int} {pos : Pos} (h : Cn X.mg x i) (hg : Gl X x) (hd : (x == ("__debug__" : Str)) = false := by decide) : PE X (.Name x pos) (tC (.int i)) := by
  obtain ⟨t, e⟩ := h.ex
  exact pe_glob hg e ⟨t, rfl⟩ hd
end
/-- an expression, its wish stated between -/
def tMid (t : TE) : TE := fun σ H Q => ∃ Q', t σ H Q' ∧ ∀ v H', Q' v H' → Q v H'
theorem pe_mid {X : Cx} {e : Expr} {t : TE} (h : PE X e t) : PE X e (tMid t) := by
  refine ⟨fun pins s σ H Q I q => ?_⟩
  obtain ⟨Q', h1, h2⟩ := q
  exact thn (h.run pins s σ H Q' I h1) fun u s' ⟨v, H', I', r, z⟩ => ⟨v, H', I', r, h2 _ _ z⟩
theorem r_mid {t : TE} {σ : L2.St} {H : Hp} {Q : VK} (Q' : VK) (h : t σ H Q') (k : ∀ v H', Q' v H' → Q v H') : tMid t σ H Q := ⟨Q', h, k⟩
/-- a block, cut behind its first statement -/
def tCut (t u : TS) : TS := fun D σ H => ∃ Mid : L2.St → Hp → Prop, t ⟨Mid, D.rt, D.bk, D.ct⟩ σ H ∧ ∀ σ' H', Mid σ' H' → u D σ' H'
theorem pss_cut {X : Cx} {st : Stmt} {rest : List Stmt} {t u : TS} (h1 : PS X st t) (h2 : PSs X rest u) : PSs X (st :: rest) (tCut t u) := by
  refine ⟨fun pins s σ H D I h => ?_⟩
  obtain ⟨Mid, h, k⟩ := h
  have p : PS X st (fun D' σ' H' => D' = ⟨u D, D.rt, D.bk, D.ct⟩ ∧ t ⟨Mid, D.rt, D.bk, D.ct⟩ σ' H') := ⟨fun pins s σ H D' I q => by
    obtain ⟨rfl, q⟩ := q
    refine thn (h1.run pins s σ H _ I q) fun f s' z => ?_
    cases f with
    | next => obtain ⟨σ', H', I', m⟩ := z; exact ⟨σ', H', I', k _ _ m⟩
    | cont => exact z
    | brk => exact z
    | ret v => exact z⟩
  exact (pss_cons p h2).run pins s σ H D I ⟨rfl, h⟩
/-! ## reading: names, constants -/
section
variable {K : PySem.W.Frag} {σ : L2.St} {H : Hp} {Q : VK}
theorem r_c {v : V} (k : Q v H) : tC v σ H Q := k
theorem r_var {i : Nat} {v : V} (h : σ[i]? = some (some v)) (k : Q v H) : tVar i σ H Q := ⟨v, h, k⟩
variable {a0 a1 a2 a3 a4 a5 a6 a7 a8 a9 a10 a11 a12 a13 a14 a15 a16 a17 a18 a19 : Option V} {v : V} {r : L2.St}
theorem r_v0 (k : Q v H) : tVar 0 (some v :: r) H Q := ⟨v, rfl, k⟩
theorem r_g0 {z : Option V} {G : L2.St → Hp → Prop} (k : G (some v :: r) H) : gName 0 v (z :: r) H G := k
theorem r_v1 {a0 : Option V} (k : Q v H) : tVar 1 (a0 :: some v :: r) H Q := ⟨v, rfl, k⟩
theorem r_g1 {a0 : Option V} {z : Option V} {G : L2.St → Hp → Prop} (k : G (a0 :: some v :: r) H) : gName 1 v (a0 :: z :: r) H G := k
theorem r_v2 {a0 a1 : Option V} (k : Q v H) : tVar 2 (a0 :: a1 :: some v :: r) H Q := ⟨v, rfl, k⟩
theorem r_g2 {a0 a1 : Option V} {z : Option V} {G : L2.St → Hp → Prop} (k : G (a0 :: a1 :: some v :: r) H) : gName 2 v (a0 :: a1 :: z :: r) H G := k
theorem r_v3 {a0 a1 a2 : Option V} (k : Q v H) : tVar 3 (a0 :: a1 :: a2 :: some v :: r) H Q := ⟨v, rfl, k⟩
theorem r_g3 {a0 a1 a2 : Option V} {z : Option V} {G : L2.St → Hp → Prop} (k : G (a0 :: a1 :: a2 :: some v :: r) H) : gName 3 v (a0 :: a1 :: a2 :: z :: r) H G := k
theorem r_v4 {a0 a1 a2 a3 : Option V} (k : Q v H) : tVar 4 (a0 :: a1 :: a2 :: a3 :: some v :: r) H Q := ⟨v, rfl, k⟩
theorem r_g4 {a0 a1 a2 a3 : Option V} {z : Option V} {G : L2.St → Hp → Prop} (k : G (a0 :: a1 :: a2 :: a3 :: some v :: r) H) : gName 4 v (a0 :: a1 :: a2 :: a3 :: z :: r) H G := k
theorem r_v5 {a0 a1 a2 a3 a4 : Option V} (k : Q v H) : tVar 5 (a0 :: a1 :: a2 :: a3 :: a4 :: some v :: r) H Q := ⟨v, rfl, k⟩
theorem r_g5 {a0 a1 a2 a3 a4 : Option V} {z : Option V} {G : L2.St → Hp → Prop} (k : G (a0 :: a1 :: a2 :: a3 :: a4 :: some v :: r) H) : gName 5 v (a0 :: a1 :: a2 :: a3 :: a4 :: z :: r) H G := k
theorem r_v6 {a0 a1 a2 a3 a4 a5 : Option V} (k : Q v H) : tVar 6 (a0 :: a1 :: a2 :: a3 :: a4 :: a5 :: some v :: r) H Q := ⟨v, rfl, k⟩
theorem r_g6 {a0 a1 a2 a3 a4 a5 : Option V} {z : Option V} {G : L2.St → Hp → Prop} (k : G (a0 :: a1 :: a2 :: a3 :: a4 :: a5 :: some v :: r) H) : gName 6 v (a0 :: a1 :: a2 :: a3 :: a4 :: a5 :: z :: r) H G := k
theorem r_v7 {a0 a1 a2 a3 a4 a5 a6 : Option V} (k : Q v H) : tVar 7 (a0 :: a1 :: a2 :: a3 :: a4 :: a5 :: a6 :: some v :: r) H Q := ⟨v, rfl, k⟩
theorem r_g7 {a0 a1 a2 a3 a4 a5 a6 : Option V} {z : Option V} {G : L2.St → Hp → Prop} (k : G (a0 :: a1 :: a2 :: a3 :: a4 :: a5 :: a6 :: some v :: r) H) : gName 7 v (a0 :: a1 :: a2 :: a3 :: a4 :: a5 :: a6 :: z :: r) H G := k
theorem r_v8 {a0 a1 a2 a3 a4 a5 a6 a7 : Option V} (k : Q v H) : tVar 8 (a0 :: a1 :: a2 :: a3 :: a4 :: a5 :: a6 :: a7 :: some v :: r) H Q := ⟨v, rfl, k⟩
theorem r_g8 {a0 a1 a2 a3 a4 a5 a6 a7 : Option V} {z : Option V} {G : L2.St → Hp → Prop} (k : G (a0 :: a1 :: a2 :: a3 :: a4 :: a5 :: a6 :: a7 :: some v :: r) H) : gName 8 v (a0 :: a1 :: a2 :: a3 :: a4 :: a5 :: a6 :: a7 :: z :: r) H G := k
theorem r_v9 {a0 a1 a2 a3 a4 a5 a6 a7 a8 : Option V} (k : Q v H) : tVar 9 (a0 :: a1 :: a2 :: a3 :: a4 :: a5 :: a6 :: a7 :: a8 :: some v :: r) H Q := ⟨v, rfl, k⟩
theorem r_g9 {a0 a1 a2 a3 a4 a5 a6 a7 a8 : Option V} {z : Option V} {G : L2.St → Hp → Prop} (k : G (a0 :: a1 :: a2 :: a3 :: a4 :: a5 :: a6 :: a7 :: a8 :: some v :: r) H) : gName 9 v (a0 :: a1 :: a2 :: a3 :: a4 :: a5 :: a6 :: a7 :: a8 :: z :: r) H G := k
theorem r_v10 {a0 a1 a2 a3 a4 a5 a6 a7 a8 a9 : Option V} (k : Q v H) : tVar 10 (a0 :: a1 :: a2 :: a3 :: a4 :: a5 :: a6 :: a7 :: a8 :: a9 :: some v :: r) H Q := ⟨v, rfl, k⟩
theorem r_g10 {a0 a1 a2 a3 a4 a5 a6 a7 a8 a9 : Option V} {z : Option V} {G : L2.St → Hp → Prop} (k : G (a0 :: a1 :: a2 :: a3 :: a4 :: a5 :: a6 :: a7 :: a8 :: a9 :: some v :: r) H) : gName 10 v (a0 :: a1 :: a2 :: a3 :: a4 :: a5 :: a6 :: a7 :: a8 :: a9 :: z :: r) H G := k
theorem r_v11 {a0 a1 a2 a3 a4 a5 a6 a7 a8 a9 a10 : Option V} (k : Q v H) : tVar 11 (a0 :: a1 :: a2 :: a3 :: a4 :: a5 :: a6 :: a7 :: a8 :: a9 :: a10 :: some v :: r) H Q := ⟨v, rfl, k⟩
theorem r_g11 {a0 a1 a2 a3 a4 a5 a6 a7 a8 a9 a10 : Option V} {z : Option V} {G : L2.St → Hp → Prop} (k : G (a0 :: a1 :: a2 :: a3 :: a4 :: a5 :: a6 :: a7 :: a8 :: a9 :: a10 :: some v :: r) H) : gName 11 v (a0 :: a1 :: a2 :: a3 :: a4 :: a5 :: a6 :: a7 :: a8 :: a9 :: a10 :: z :: r) H G := k
theorem r_v12 {a0 a1 a2 a3 a4 a5 a6 a7 a8 a9 a10 a11 : Option V} (k : Q v H) : tVar 12 (a0 :: a1 :: a2 :: a3 :: a4 :: a5 :: a6 :: a7 :: a8 :: a9 :: a10 :: a11 :: some v :: r) H Q := ⟨v, rfl, k⟩
theorem r_g12 {a0 a1 a2 a3 a4 a5 a6 a7 a8 a9 a10 a11 : Option V} {z : Option V} {G : L2.St → Hp → Prop} (k : G (a0 :: a1 :: a2 :: a3 :: a4 :: a5 :: a6 :: a7 :: a8 :: a9 :: a10 :: a11 :: some v :: r) H) : gName 12 v (a0 :: a1 :: a2 :: a3 :: a4 :: a5 :: a6 :: a7 :: a8 :: a9 :: a10 :: a11 :: z :: r) H G := k
theorem r_v13 {a0 a1 a2 a3 a4 a5 a6 a7 a8 a9 a10 a11 a12 : Option V} (k : Q v H) : tVar 13 (a0 :: a1 :: a2 :: a3 :: a4 :: a5 :: a6 :: a7 :: a8 :: a9 :: a10 :: a11 :: a12 :: some v :: r) H Q := ⟨v, rfl, k⟩
theorem r_g13 {a0 a1 a2 a3 a4 a5 a6 a7 a8 a9 a10 a11 a12 : Option V} {z : Option V} {G : L2.St → Hp → Prop} (k : G (a0 :: a1 :: a2 :: a3 :: a4 :: a5 :: a6 :: a7 :: a8 :: a9 :: a10 :: a11 :: a12 :: some v :: r) H) : gName 13 v (a0 :: a1 :: a2 :: a3 :: a4 :: a5 :: a6 :: a7 :: a8 :: a9 :: a10 :: a11 :: a12 :: z :: r) H G := k
theorem r_v14 {a0 a1 a2 a3 a4 a5 a6 a7 a8 a9 a10 a11 a12 a13 : Option V} (k : Q v H) : tVar 14 (a0 :: a1 :: a2 :: a3 :: a4 :: a5 :: a6 :: a7 :: a8 :: a9 :: a10 :: a11 :: a12 :: a13 :: some v :: r) H Q := ⟨v, rfl, k⟩
theorem r_g14 {a0 a1 a2 a3 a4 a5 a6 a7 a8 a9 a10 a11 a12 a13 : Option V} {z : Option V} {G : L2.St → Hp → Prop} (k : G (a0 :: a1 :: a2 :: a3 :: a4 :: a5 :: a6 :: a7 :: a8 :: a9 :: a10 :: a11 :: a12 :: a13 :: some v :: r) H) : gName 14 v (a0 :: a1 :: a2 :: a3 :: a4 :: a5 :: a6 :: a7 :: a8 :: a9 :: a10 :: a11 :: a12 :: a13 :: z :: r) H G := k
theorem r_v15 {a0 a1 a2 a3 a4 a5 a6 a7 a8 a9 a10 a11 a12 a13 a14 : Option V} (k : Q v H) : tVar 15 (a0 :: a1 :: a2 :: a3 :: a4 :: a5 :: a6 :: a7 :: a8 :: a9 :: a10 :: a11 :: a12 :: a13 :: a14 :: some v :: r) H Q := ⟨v, rfl, k⟩
theorem r_g15 {a0 a1 a2 a3 a4 a5 a6 a7 a8 a9 a10 a11 a12 a13 a14 : Option V} {z : Option V} {G : L2.St → Hp → Prop} (k : G (a0 :: a1 :: a2 :: a3 :: a4 :: a5 :: a6 :: a7 :: a8 :: a9 :: a10 :: a11 :: a12 :: a13 :: a14 :: some v :: r) H) : gName 15 v (a0 :: a1 :: a2 :: a3 :: a4 :: a5 :: a6 :: a7 :: a8 :: a9 :: a10 :: a11 :: a12 :: a13 :: a14 :: z :: r) H G := k
theorem r_v16 {a0 a1 a2 a3 a4 a5 a6 a7 a8 a9 a10 a11 a12 a13 a14 a15 : Option V} (k : Q v H) : tVar 16 (a0 :: a1 :: a2 :: a3 :: a4 :: a5 :: a6 :: a7 :: a8 :: a9 :: a10 :: a11 :: a12 :: a13 :: a14 :: a15 :: some v :: r) H Q := ⟨v, rfl, k⟩
theorem r_g16 {a0 a1 a2 a3 a4 a5 a6 a7 a8 a9 a10 a11 a12 a13 a14 a15 : Option V} {z : Option V} {G : L2.St → Hp → Prop} (k : G (a0 :: a1 :: a2 :: a3 :: a4 :: a5 :: a6 :: a7 :: a8 :: a9 :: a10 :: a11 :: a12 :: a13 :: a14 :: a15 :: some v :: r) H) : gName 16 v (a0 :: a1 :: a2 :: a3 :: a4 :: a5 :: a6 :: a7 :: a8 :: a9 :: a10 :: a11 :: a12 :: a13 :: a14 :: a15 :: z :: r) H G := k
theorem r_v17 {a0 a1 a2 a3 a4 a5 a6 a7 a8 a9 a10 a11 a12 a13 a14 a15 a16 : Option V} (k : Q v H) : tVar 17 (a0 :: a1 :: a2 :: a3 :: a4 :: a5 :: a6 :: a7 :: a8 :: a9 :: a10 :: a11 :: a12 :: a13 :: a14 :: a15 :: a16 :: some v :: r) H Q := ⟨v, rfl, k⟩
theorem r_g17 {a0 a1 a2 a3 a4 a5 a6 a7 a8 a9 a10 a11 a12 a13 a14 a15 a16 : Option V} {z : Option V} {G : L2.St → Hp → Prop} (k : G (a0 :: a1 :: a2 :: a3 :: a4 :: a5 :: a6 :: a7 :: a8 :: a9 :: a10 :: a11 :: a12 :: a13 :: a14 :: a15 :: a16 :: some v :: r) H) : gName 17 v (a0 :: a1 :: a2 :: a3 :: a4 :: a5 :: a6 :: a7 :: a8 :: a9 :: a10 :: a11 :: a12 :: a13 :: a14 :: a15 :: a16 :: z :: r) H G := k
theorem r_v18 {a0 a1 a2 a3 a4 a5 a6 a7 a8 a9 a10 a11 a12 a13 a14 a15 a16 a17 : Option V} (k : Q v H) : tVar 18 (a0 :: a1 :: a2 :: a3 :: a4 :: a5 :: a6 :: a7 :: a8 :: a9 :: a10 :: a11 :: a12 :: a13 :: a14 :: a15 :: a16 :: a17 :: some v :: r) H Q := ⟨v, rfl, k⟩
theorem r_g18 {a0 a1 a2 a3 a4 a5 a6 a7 a8 a9 a10 a11 a12 a13 a14 a15 a16 a17 : Option V} {z : Option V} {G : L2.St → Hp → Prop} (k : G (a0 :: a1 :: a2 :: a3 :: a4 :: a5 :: a6 :: a7 :: a8 :: a9 :: a10 :: a11 :: a12 :: a13 :: a14 :: a15 :: a16 :: a17 :: some v :: r) H) : gName 18 v (a0 :: a1 :: a2 :: a3 :: a4 :: a5 :: a6 :: a7 :: a8 :: a9 :: a10 :: a11 :: a12 :: a13 :: a14 :: a15 :: a16 :: a17 :: z :: r) H G := k
theorem r_v19 {a0 a1 a2 a3 a4 a5 a6 a7 a8 a9 a10 a11 a12 a13 a14 a15 a16 a17 a18 : Option V} (k : Q v H) : tVar 19 (a0 :: a1 :: a2 :: a3 :: a4 :: a5 :: a6 :: a7 :: a8 :: a9 :: a10 :: a11 :: a12 :: a13 :: a14 :: a15 :: a16 :: a17 :: a18 :: some v :: r) H Q := ⟨v, rfl, k⟩
theorem r_g19 {a0 a1 a2 a3 a4 a5 a6 a7 a8 a9 a10 a11 a12 a13 a14 a15 a16 a17 a18 : Option V} {z : Option V} {G : L2.St → Hp → Prop} (k : G (a0 :: a1 :: a2 :: a3 :: a4 :: a5 :: a6 :: a7 :: a8 :: a9 :: a10 :: a11 :: a12 :: a13 :: a14 :: a15 :: a16 :: a17 :: a18 :: some v :: r) H) : gName 19 v (a0 :: a1 :: a2 :: a3 :: a4 :: a5 :: a6 :: a7 :: a8 :: a9 :: a10 :: a11 :: a12 :: a13 :: a14 :: a15 :: a16 :: a17 :: a18 :: z :: r) H G := k
theorem r_v20 {a0 a1 a2 a3 a4 a5 a6 a7 a8 a9 a10 a11 a12 a13 a14 a15 a16 a17 a18 a19 : Option V} (k : Q v H) : tVar 20 (a0 :: a1 :: a2 :: a3 :: a4 :: a5 :: a6 :: a7 :: a8 :: a9 :: a10 :: a11 :: a12 :: a13 :: a14 :: a15 :: a16 :: a17 :: a18 :: a19 :: some v :: r) H Q := ⟨v, rfl, k⟩
theorem r_g20 {a0 a1 a2 a3 a4 a5 a6 a7 a8 a9 a10 a11 a12 a13 a14 a15 a16 a17 a18 a19 : Option V} {z : Option V} {G : L2.St → Hp → Prop} (k : G (a0 :: a1 :: a2 :: a3 :: a4 :: a5 :: a6 :: a7 :: a8 :: a9 :: a10 :: a11 :: a12 :: a13 :: a14 :: a15 :: a16 :: a17 :: a18 :: a19 :: some v :: r) H) : gName 20 v (a0 :: a1 :: a2 :: a3 :: a4 :: a5 :: a6 :: a7 :: a8 :: a9 :: a10 :: a11 :: a12 :: a13 :: a14 :: a15 :: a16 :: a17 :: a18 :: a19 :: z :: r) H G := k
theorem r_v21 {a0 a1 a2 a3 a4 a5 a6 a7 a8 a9 a10 a11 a12 a13 a14 a15 a16 a17 a18 a19 a20 : Option V} (k : Q v H) : tVar 21 (a0 :: a1 :: a2 :: a3 :: a4 :: a5 :: a6 :: a7 :: a8 :: a9 :: a10 :: a11 :: a12 :: a13 :: a14 :: a15 :: a16 :: a17 :: a18 :: a19 :: a20 :: some v :: r) H Q := ⟨v, rfl, k⟩
theorem r_g21 {a0 a1 a2 a3 a4 a5 a6 a7 a8 a9 a10 a11 a12 a13 a14 a15 a16 a17 a18 a19 a20 : Option V} {z : Option V} {G : L2.St → Hp → Prop} (k : G (a0 :: a1 :: a2 :: a3 :: a4 :: a5 :: a6 :: a7 :: a8 :: a9 :: a10 :: a11 :: a12 :: a13 :: a14 :: a15 :: a16 :: a17 :: a18 :: a19 :: a20 :: some v :: r) H) : gName 21 v (a0 :: a1 :: a2 :: a3 :: a4 :: a5 :: a6 :: a7 :: a8 :: a9 :: a10 :: a11 :: a12 :: a13 :: a14 :: a15 :: a16 :: a17 :: a18 :: a19 :: a20 :: z :: r) H G := k
theorem r_v22 {a0 a1 a2 a3 a4 a5 a6 a7 a8 a9 a10 a11 a12 a13 a14 a15 a16 a17 a18 a19 a20 a21 : Option V} (k : Q v H) : tVar 22 (a0 :: a1 :: a2 :: a3 :: a4 :: a5 :: a6 :: a7 :: a8 :: a9 :: a10 :: a11 :: a12 :: a13 :: a14 :: a15 :: a16 :: a17 :: a18 :: a19 :: a20 :: a21 :: some v :: r) H Q := ⟨v, rfl, k⟩
theorem r_g22 {a0 a1 a2 a3 a4 a5 a6 a7 a8 a9 a10 a11 a12 a13 a14 a15 a16 a17 a18 a19 a20 a21 : Option V} {z : Option V} {G : L2.St → Hp → Prop} (k : G (a0 :: a1 :: a2 :: a3 :: a4 :: a5 :: a6 :: a7 :: a8 :: a9 :: a10 :: a11 :: a12 :: a13 :: a14 :: a15 :: a16 :: a17 :: a18 :: a19 :: a20 :: a21 :: some v :: r) H) : gName 22 v (a0 :: a1 :: a2 :: a3 :: a4 :: a5 :: a6 :: a7 :: a8 :: a9 :: a10 :: a11 :: a12 :: a13 :: a14 :: a15 :: a16 :: a17 :: a18 :: a19 :: a20 :: a21 :: z :: r) H G := k
theorem r_v23 {a0 a1 a2 a3 a4 a5 a6 a7 a8 a9 a10 a11 a12 a13 a14 a15 a16 a17 a18 a19 a20 a21 a22 : Option V} (k : Q v H) : tVar 23 (a0 :: a1 :: a2 :: a3 :: a4 :: a5 :: a6 :: a7 :: a8 :: a9 :: a10 :: a11 :: a12 :: a13 :: a14 :: a15 :: a16 :: a17 :: a18 :: a19 :: a20 :: a21 :: a22 :: some v :: r) H Q := ⟨v, rfl, k⟩
theorem r_g23 {a0 a1 a2 a3 a4 a5 a6 a7 a8 a9 a10 a11 a12 a13 a14 a15 a16 a17 a18 a19 a20 a21 a22 : Option V} {z : Option V} {G : L2.St → Hp → Prop} (k : G (a0 :: a1 :: a2 :: a3 :: a4 :: a5 :: a6 :: a7 :: a8 :: a9 :: a10 :: a11 :: a12 :: a13 :: a14 :: a15 :: a16 :: a17 :: a18 :: a19 :: a20 :: a21 :: a22 :: some v :: r) H) : gName 23 v (a0 :: a1 :: a2 :: a3 :: a4 :: a5 :: a6 :: a7 :: a8 :: a9 :: a10 :: a11 :: a12 :: a13 :: a14 :: a15 :: a16 :: a17 :: a18 :: a19 :: a20 :: a21 :: a22 :: z :: r) H G := k
/-! ## reading: structure -/
theorem r_op {r : R2} {ta tb : TE} (k : ta σ H fun x H1 => tb σ H1 fun y H2 => r x y H2 Q) : tOp r ta tb σ H Q := k
theorem r_un {r : V → Hp → VK → Prop} {ta : TE} (k : ta σ H fun x H1 => r x H1 Q) : tUn r ta σ H Q := k
theorem r_chain {r r' : R2} {ta tb tc : TE} (k : ta σ H fun x H1 => tb σ H1 fun y H2 => r x y H2 fun z H3 => ∃ k, z = .bl k ∧ (if k = true then tc σ H3 fun w' H4 => r' y w' H4 Q else Q (.bl false) H3)) : tChain r r' ta tb tc σ H Q := k
theorem r_nil {Q : List V → Hp → Prop} (k : Q [] H) : tNil σ H Q := k
theorem r_cons {Q : List V → Hp → Prop} {ta : TE} {tr : TA} (k : ta σ H fun x H1 => tr σ H1 fun xs H2 => Q (x :: xs) H2) : tCons ta tr σ H Q := k
theorem r_cB {r : List V → Hp → VK → Prop} {t : TA} (k : t σ H fun vs H1 => r vs H1 Q) : tCB r t σ H Q := k
theorem r_call {sp : Sp} {E : XK} {t : TA} (k : t σ H fun vs H1 => sp vs H1 Q E) : tCall sp [] E t σ H Q := by
  have e : (fun (vs : List V) H1 => sp (vs ++ []) H1 Q E) = fun vs H1 => sp vs H1 Q E := by
    funext vs H1
    rw [List.append_nil]
  show t σ H fun vs H1 => sp (vs ++ []) H1 Q E
  rw [e]
  exact k
theorem r_tup {t : TA} (k : t σ H fun xs H1 => xs.length ≤ sizeLine ∧ ∀ p, H1 p = none → Q (.ref p) (upd H1 p (.tup xs))) : tTup t σ H Q := k
theorem r_lst {t : TA} (k : t σ H fun xs H1 => xs.length ≤ sizeLine ∧ ∀ p, H1 p = none → Q (.ref p) (upd H1 p (.lst xs))) : tLst t σ H Q := k
theorem r_test {t : TE} {Q : Bool → Hp → Prop} (k : t σ H fun x H' => ∃ k, x = .bl k ∧ Q k H') : tTest t σ H Q := k
theorem r_B {t : TE} {Q : Bool → Hp → Prop} (k : t σ H fun x H' => ∃ k, x = .bl k ∧ Q k H') : tB t σ H Q := k
theorem r_bl {b : Bool} {P : Bool → Prop} (k : P b) : ∃ c, V.bl b = .bl c ∧ P c := ⟨b, rfl, k⟩
theorem r_and {t u : TT} {Q : Bool → Hp → Prop} (k : t σ H fun c H1 => if c = true then u σ H1 Q else Q false H1) : tAnd t u σ H Q := k
theorem r_or {t u : TT} {Q : Bool → Hp → Prop} (k : t σ H fun c H1 => if c = true then Q true H1 else u σ H1 Q) : tOr t u σ H Q := k
theorem r_not {t : TT} {Q : Bool → Hp → Prop} (k : t σ H fun c H1 => Q (!c) H1) : tNot t σ H Q := k
theorem r_andV {ta tb : TE} (k : ta σ H fun x H1 => ∃ c, x = .bl c ∧ if c = true then tb σ H1 Q else Q (.bl false) H1) : tAndV ta tb σ H Q := k
theorem r_orV {ta tb : TE} (k : ta σ H fun x H1 => ∃ c, x = .bl c ∧ if c = true then Q (.bl true) H1 else tb σ H1 Q) : tOrV ta tb σ H Q := k
theorem r_notV {ta : TE} (k : ta σ H fun x H1 => ∃ c, x = .bl c ∧ Q (.bl (!c)) H1) : tNotV ta σ H Q := k
theorem r_if {t : TT} {ta tb : TE} (k : t σ H fun c H1 => if c = true then ta σ H1 Q else tb σ H1 Q) : tIf t ta tb σ H Q := k
theorem r_sl {rr : V → Option Int → Option Int → Hp → VK → Prop} {te : TE} {tl th : TO} (k : te σ H fun x H1 => tl σ H1 fun l H2 => th σ H2 fun u H3 => rr x l u H3 Q) : tSl rr te tl th σ H Q := k
theorem r_noP {Q : Option Int → Hp → Prop} (k : Q none H) : tNoPart σ H Q := k
theorem r_part {t : TE} {Q : Option Int → Hp → Prop} (k : t σ H fun x H1 => ∃ i, x = .int i ∧ Q (some i) H1) : tPart t σ H Q := k
theorem r_partI {i : Int} {P : Int → Prop} (k : P i) : ∃ j, V.int i = .int j ∧ P j := ⟨i, rfl, k⟩
theorem r_bm {T : String} {rr : V → List V → Hp → VK → Prop} {to : TE} {t : TA} (k : to σ H fun x H1 => tyV K T x H1 ∧ t σ H1 fun xs H2 => rr x xs H2 Q) : tBM K T rr to t σ H Q := k
theorem r_bm0 {T : String} {rr : V → List V → Hp → VK → Prop} {to : TE} (k : to σ H fun x H1 => tyV K T x H1 ∧ rr x [] H1 Q) : tBM0 K T rr to σ H Q := k
/-! ### statements -/
variable {nn bb cc : L2.St → Hp → Prop} {rr : VK}
theorem r_seq {t u : TS} (k : t ⟨u ⟨nn, rr, bb, cc⟩, rr, bb, cc⟩ σ H) : tSeq t u ⟨nn, rr, bb, cc⟩ σ H := k
theorem r_cut {t u : TS} (Mid : L2.St → Hp → Prop) (k : t ⟨Mid, rr, bb, cc⟩ σ H) (k2 : ∀ σ' H', Mid σ' H' → u ⟨nn, rr, bb, cc⟩ σ' H') : tCut t u ⟨nn, rr, bb, cc⟩ σ H := ⟨Mid, k, k2⟩
theorem r_next (k : nn σ H) : tNext ⟨nn, rr, bb, cc⟩ σ H := k
theorem r_break (k : bb σ H) : tBreak ⟨nn, rr, bb, cc⟩ σ H := k
theorem r_cont (k : cc σ H) : tCont ⟨nn, rr, bb, cc⟩ σ H := k
theorem r_drop {te : TE} (k : te σ H fun _ H1 => nn σ H1) : tDrop te ⟨nn, rr, bb, cc⟩ σ H := k
theorem r_ret {te : TE} (k : te σ H rr) : tRet te ⟨nn, rr, bb, cc⟩ σ H := k
theorem r_retN (k : rr .non H) : tRetN ⟨nn, rr, bb, cc⟩ σ H := k
theorem r_ifS {c : TT} {t u : TS} (k : c σ H fun b H1 => if b = true then t ⟨nn, rr, bb, cc⟩ σ H1 else u ⟨nn, rr, bb, cc⟩ σ H1) : tIfS c t u ⟨nn, rr, bb, cc⟩ σ H := k
theorem r_asg {te : TE} {g : TG} (k : te σ H fun x H1 => g x σ H1 nn) : tAsg te g ⟨nn, rr, bb, cc⟩ σ H := k
def ForW (J : It) (g : TG) (tb : TS) (D : Ends) (σ : L2.St) (H1 : Hp) : Prop := ∃ W : Nat → Nat → L2.St → Hp → Prop, (∃ m, W 0 m σ H1) ∧ ∀ i m σ H, W i m σ H →
  (J.stop i H ∧ D.nx σ H) ∨ (J.go i H ∧ ∃ N : L2.St → Hp → Prop, (∀ σ' H', N σ' H' → ∃ m', m' < m ∧ W (i + 1) m' σ' H') ∧ ∀ x H', J.yld i H x H' → g x σ H' fun σ2 H2 => tb { D with nx := N, ct := N, bk := D.nx } σ2 H2)
theorem r_for {wi : TI} {g : TG} {tb : TS} (k : wi σ H fun J H1 => ForW J g tb ⟨nn, rr, bb, cc⟩ σ H1) : tFor wi g tb ⟨nn, rr, bb, cc⟩ σ H := k
theorem fw_list {a : Addr} {xs : List V} {g : TG} {tb : TS} (Pv : Nat → L2.St → Hp → Prop) (h0 : Pv 0 σ H) (hl : ∀ i σ H, i ≤ xs.length → Pv i σ H → SqL K H a xs)
    (hs : ∀ i x σ H, xs[i]? = some x → Pv i σ H → g x σ H fun σ2 H2 => tb ⟨Pv (i + 1), rr, nn, Pv (i + 1)⟩ σ2 H2) (hd : ∀ σ H, Pv xs.length σ H → nn σ H) : ForW (Itl K a) g tb ⟨nn, rr, bb, cc⟩ σ H := for_list Pv h0 hl hs hd
theorem fw_tup {a : Addr} {xs : List V} {g : TG} {tb : TS} (Pv : Nat → L2.St → Hp → Prop) (h0 : Pv 0 σ H) (hl : ∀ i σ H, i ≤ xs.length → Pv i σ H → SqT K H a xs)
    (hs : ∀ i x σ H, xs[i]? = some x → Pv i σ H → g x σ H fun σ2 H2 => tb ⟨Pv (i + 1), rr, nn, Pv (i + 1)⟩ σ2 H2) (hd : ∀ σ H, Pv xs.length σ H → nn σ H) : ForW (Itt K a) g tb ⟨nn, rr, bb, cc⟩ σ H := for_tup Pv h0 hl hs hd
theorem fw_range {lo : Int} {n : Nat} {g : TG} {tb : TS} (Pv : Nat → L2.St → Hp → Prop) (h0 : Pv 0 σ H)
    (hs : ∀ i σ H, i < n → Pv i σ H → g (.int (lo + i)) σ H fun σ2 H2 => tb ⟨Pv (i + 1), rr, nn, Pv (i + 1)⟩ σ2 H2) (hd : ∀ σ H, Pv n σ H → nn σ H) : ForW (Itr lo n) g tb ⟨nn, rr, bb, cc⟩ σ H := for_range Pv h0 hs hd
theorem r_iList {tl : TE} {R : It → Hp → Prop} (k : tl σ H fun x H1 => ∃ a, x = .ref a ∧ (∃ xs, SqL K H1 a xs) ∧ R (Itl K a) H1) : iList K tl σ H R := k
theorem r_iRng1 {ta : TA} {R : It → Hp → Prop} (k : ta σ H fun vs H1 => ∃ j : Int, vs = [.int j] ∧ -(2 ^ 62) ≤ j ∧ j < 2 ^ 62 ∧ R (Itr 0 j.toNat) H1) : iRng1 ta σ H R := k
theorem r_iRng2 {ta : TA} {R : It → Hp → Prop} (k : ta σ H fun vs H1 => ∃ i j : Int, vs = [.int i, .int j] ∧ (-(2 ^ 62) ≤ i ∧ i < 2 ^ 62 ∧ -(2 ^ 62) ≤ j ∧ j < 2 ^ 62) ∧ R (Itr i (j - i).toNat) H1) : iRng2 ta σ H R := k
/-! ### targets -/
variable {G : L2.St → Hp → Prop} {x : V}
theorem r_gTup {n : Nat} {t : TGs} {a : Addr} {xs : List V} (h : SqT K H a xs) (hl : xs.length = n) (k : t xs σ H G) : gTup K n t (.ref a) σ H G := ⟨a, xs, rfl, h, hl, k⟩
theorem r_gCons {t : TG} {u : TGs} {xs : List V} (k : t x σ H fun σ' H' => u xs σ' H' G) : gCons t u (x :: xs) σ H G := ⟨x, xs, rfl, k⟩
theorem r_gNil (k : G σ H) : gNil [] σ H G := ⟨rfl, k⟩
theorem r_gSub {to ti : TE} {t : TSet} (k : to σ H fun o H1 => ti σ H1 fun i H2 => t o i x H2 fun H3 => G σ H3) : gSub to ti t x σ H G := k
theorem r_setL {p : Addr} {xs : List V} {i : Int} {j : Nat} {G : Hp → Prop} (h : H p = some (.lst xs)) (e : ixN xs.length i = some j) (k : G (upd H p (.lst (xs.set j x)))) : rSetL (.ref p) (.int i) x H G := ⟨p, xs, i, j, rfl, rfl, h, e, k⟩
/-! ### values -/
theorem r_I0 {g : Int → Int → V} {i j : Int} (k : Q (g i j) H) : rI0 g (.int i) (.int j) H Q := ⟨i, j, rfl, rfl, k⟩
theorem r_I {C : Int → Int → Prop} {g : Int → Int → V} {i j : Int} (c : C i j) (k : Q (g i j) H) : rI C g (.int i) (.int j) H Q := ⟨i, j, rfl, rfl, c, k⟩
theorem r_U {g : Int → V} {i : Int} (k : Q (g i) H) : rU g (.int i) H Q := ⟨i, rfl, k⟩
theorem r_addI {i j : Int} (k : Q (.int (i + j)) H) : rAddA K (.int i) (.int j) H Q := .inl ⟨i, j, rfl, rfl, k⟩
theorem r_addL {l b : Addr} {xs zs : List V} (h1 : H l = some (.lst xs)) (h2 : H b = some (.lst zs)) (hl : xs.length + zs.length ≤ sizeLine) (k : ∀ p, H p = none → Q (.ref p) (upd H p (.lst (xs ++ zs)))) : rAddA K (.ref l) (.ref b) H Q := .inr (.inr (.inl ⟨l, b, xs, zs, rfl, rfl, h1, h2, hl, k⟩))
theorem r_eqI {i j : Int} (k : Q (.bl (decide (i = j))) H) : rEqA K (.int i) (.int j) H Q := .inl ⟨rfl, by
  have e : decide (V.int i = V.int j) = decide (i = j) := by by_cases h : i = j <;> simp [h]
  rw [e]
  exact k⟩
theorem r_neI {i j : Int} (k : Q (.bl (!decide (i = j))) H) : rNeA K (.int i) (.int j) H Q := .inl ⟨rfl, by
  have e : decide (V.int i = V.int j) = decide (i = j) := by by_cases h : i = j <;> simp [h]
  rw [e]
  exact k⟩
theorem r_eqB {i j : Bool} (k : Q (.bl (decide (i = j))) H) : rEqA K (.bl i) (.bl j) H Q := .inl ⟨rfl, by
  have e : decide (V.bl i = V.bl j) = decide (i = j) := by by_cases h : i = j <;> simp [h]
  rw [e]
  exact k⟩
theorem r_neB {i j : Bool} (k : Q (.bl (!decide (i = j))) H) : rNeA K (.bl i) (.bl j) H Q := .inl ⟨rfl, by
  have e : decide (V.bl i = V.bl j) = decide (i = j) := by by_cases h : i = j <;> simp [h]
  rw [e]
  exact k⟩
theorem r_ix {p : Addr} {xs : List V} {i : Int} {v : V} (h : SqL K H p xs ∨ SqT K H p xs) (e : atI xs i = some v) (k : Q v H) : rIx K (.ref p) (.int i) H Q := by
  rcases h with h | h
  · exact .inl ⟨p, xs, i, v, rfl, rfl, h, e, k⟩
  · exact .inr (.inl ⟨p, xs, i, v, rfl, rfl, h, e, k⟩)
theorem r_lenS {p : Addr} {ys : List V} (h : SqL K H p ys ∨ SqT K H p ys) (k : ys.length ≤ 16777216 → Q (.int ys.length) H) : rLen K [.ref p] H Q := .inl ⟨p, ys, rfl, h, k⟩
theorem r_max2 {i j : Int} (k : Q (.int (max i j)) H) : rMaxA K [.int i, .int j] H Q := .inl ⟨i, j, rfl, by
  have e : (if j > i then j else i) = max i j := by rw [Int.max_def]; split <;> split <;> omega
  rw [e]
  exact k⟩
theorem r_min2 {i j : Int} (k : Q (.int (min i j)) H) : rMinA K [.int i, .int j] H Q := .inl ⟨i, j, rfl, by
  have e : (if j < i then j else i) = min i j := by rw [Int.min_def]; split <;> split <;> omega
  rw [e]
  exact k⟩
theorem r_maxL {p : Addr} {ns : List Int} (h : SqL K H p (ns.map V.int)) (h0 : 0 < ns.length) (k : ∀ m, m ∈ ns → (∀ y, y ∈ ns → y ≤ m) → Q (.int m) H) : rMaxA K [.ref p] H Q := .inr ⟨p, ns, rfl, h, h0, k⟩
theorem r_minL {p : Addr} {ns : List Int} (h : SqL K H p (ns.map V.int)) (h0 : 0 < ns.length) (k : ∀ m, m ∈ ns → (∀ y, y ∈ ns → m ≤ y) → Q (.int m) H) : rMinA K [.ref p] H Q := .inr ⟨p, ns, rfl, h, h0, k⟩
theorem r_abs {i : Int} (k : Q (.int i.natAbs) H) : rAbs [.int i] H Q := ⟨i, rfl, by
  have e : (if i < 0 then -i else i) = (i.natAbs : Int) := by split <;> omega
  rw [e]
  exact k⟩
theorem r_intI {i : Int} (k : Q (.int i) H) : rInt1 [.int i] H Q := .inl ⟨i, rfl, k⟩
theorem r_intB {b : Bool} (k : Q (.int (if b then 1 else 0)) H) : rInt1 [.bl b] H Q := .inr ⟨b, rfl, k⟩
theorem r_listOf {p : Addr} {ys : List V} (h : SqL K H p ys ∨ SqT K H p ys) (k : ∀ l, H l = none → Q (.ref l) (upd H l (.lst ys))) : rListOf K [.ref p] H Q := ⟨p, ys, rfl, h, k⟩
theorem r_tupT {p : Addr} {ys : List V} (h : SqT K H p ys) (k : Q (.ref p) H) : rTupOf K [.ref p] H Q := ⟨p, ys, rfl, .inr ⟨h, k⟩⟩
theorem r_tupL {p : Addr} {ys : List V} (h : SqL K H p ys) (k : ∀ l, H l = none → Q (.ref l) (upd H l (.tup ys))) : rTupOf K [.ref p] H Q := ⟨p, ys, rfl, .inl ⟨h, k⟩⟩
theorem r_slL {p : Addr} {xs : List V} {lo hi : Option Int} (h : SqL K H p xs) (k : ∀ l, H l = none → Q (.ref l) (upd H l (.lst (cutV xs lo hi)))) : rSlAll K (.ref p) lo hi H Q := .inl ⟨p, xs, rfl, h, k⟩
theorem r_app {l : Addr} {xs : List V} {y : V} (h : H l = some (.lst xs)) (hz : xs.length < sizeLine) (k : Q .non (upd H l (.lst (xs ++ [y])))) : rAppend (.ref l) [y] H Q := ⟨l, xs, y, rfl, rfl, h, hz, k⟩
theorem r_tyL {p : Addr} {xs : List V} (h : H p = some (.lst xs)) : tyV K "list" (.ref p) H := .inl ⟨rfl, _, SqL.of h⟩
theorem r_eqD {x y : V} {d : PyData} (h1 : Dp K H x d) (h2 : Dp K H y d) (hs : SeqAt.shaped d = true) (k : Q (.bl true) H) : rEqA K x y H Q := .inr ⟨d, d, h1, h2, hs, hs, by
  rw [SeqAt.eqv_refl d (SeqAt.canLay_of_shaped hs)]
  exact k⟩
theorem r_neD {x y : V} {d : PyData} (h1 : Dp K H x d) (h2 : Dp K H y d) (hs : SeqAt.shaped d = true) (k : Q (.bl false) H) : rNeA K x y H Q := .inr ⟨d, d, h1, h2, hs, hs, by
  rw [SeqAt.eqv_refl d (SeqAt.canLay_of_shaped hs)]
  exact k⟩
end
/-! ## tests -/
theorem iteD {c A B : Prop} [Decidable c] (h1 : c → A) (h2 : ¬ c → B) : if decide c = true then A else B := by
  by_cases h : c
  · rw [if_pos (decide_eq_true h)]
    exact h1 h
  · rw [if_neg (by simpa using h)]
    exact h2 h
theorem iteN {c A B : Prop} [Decidable c] (h1 : ¬ c → A) (h2 : c → B) : if (!decide c) = true then A else B := by
  by_cases h : c
  · rw [if_neg (by simpa using h)]
    exact h2 h
  · rw [if_pos (by simpa using h)]
    exact h1 h
theorem iteDT {c A B : Prop} [Decidable c] (hc : c) (h1 : A) : if decide c = true then A else B := iteD (fun _ => h1) fun h => absurd hc h
theorem iteDF {c A B : Prop} [Decidable c] (hc : ¬ c) (h1 : B) : if decide c = true then A else B := iteD (fun h => absurd h hc) fun _ => h1
theorem iteNT {c A B : Prop} [Decidable c] (hc : ¬ c) (h1 : A) : if (!decide c) = true then A else B := iteN (fun _ => h1) fun h => absurd h hc
theorem iteNF {c A B : Prop} [Decidable c] (hc : c) (h1 : B) : if (!decide c) = true then A else B := iteN (fun h => absurd hc h) fun _ => h1
/-! ## heaps -/
section
variable {H H' H1 H2 : Hp}
theorem at_new {p g : Addr} {o u : HO} (np : H p = none) (h : H g = some o) : upd H p u g = some o := by
  rw [upd_ne (ne_of_none h np)]
  exact h
theorem at_wr {p g : Addr} {o u : HO} (hne : g ≠ p) (h : H g = some o) : upd H p u g = some o := by
  rw [upd_ne hne]
  exact h
theorem same_new {p : Addr} {u : HO} (np : H p = none) : Same H (upd H p u) := fun _ _ h => at_new np h
end
/-! ## frames: all stays but the place of the draws -/
/-- not the list that the draws turn -/
def NotSt (o : HO) : Prop := ∀ (a : Addr) (i m r : Int), o ≠ .lst [.ref a, .int i, .int m, .int r]
theorem nst_tup {xs : List V} : NotSt (.tup xs) := fun _ _ _ _ h => nomatch h
theorem nst_frz {o : Obj} {u : HO} : NotSt (.frz o u) := fun _ _ _ _ h => nomatch h
theorem nst_ins {C dx : Addr} {fs : List (Str × V)} : NotSt (.ins C dx fs) := fun _ _ _ _ h => nomatch h
theorem nst_own {x : Addr} : NotSt (.own x) := fun _ _ _ _ h => nomatch h
theorem nst_nil : NotSt (.lst []) := fun _ _ _ _ h => by cases h
theorem nst_int {i : Int} {r : List V} : NotSt (.lst (.int i :: r)) := fun _ _ _ _ h => by cases h
theorem nst_cons {a b : Addr} {r : List V} : NotSt (.lst (.ref a :: .ref b :: r)) := fun _ _ _ _ h => by cases h
theorem nst_ints {ns : List Int} : NotSt (.lst (ns.map V.int)) := fun _ _ _ _ h => by
  cases ns with
  | nil => cases h
  | cons a r => cases h
theorem nst_refs {as : List Addr} : NotSt (.lst (as.map V.ref)) := fun _ _ _ _ h => by
  match as, h with
  | [], h => cases h
  | [_], h => cases h
  | _ :: _ :: _, h => cases h
def Fr (H H' : Hp) : Prop := ∀ b o, H b = some o → NotSt o → H' b = some o
section
variable {K : PySem.W.Frag} {H H' H1 H2 : Hp}
theorem Fr.refl (H : Hp) : Fr H H := fun _ _ h _ => h
theorem Fr.trans (a : Fr H H1) (b : Fr H1 H2) : Fr H H2 := fun c o h n => b c o (a c o h n) n
theorem Fr.same (a : Fr H H1) (b : Same H1 H2) : Fr H H2 := fun c o h n => b c o (a c o h n)
theorem Fr.of (a : Same H H1) : Fr H H1 := fun c o h _ => a c o h
theorem fr_at {g : Addr} {o : HO} (R : Fr H H') (h : H g = some o) (n : NotSt o) : H' g = some o := R g o h n
theorem same_at {g : Addr} {o : HO} (R : Same H H') (h : H g = some o) : H' g = some o := R g o h
theorem same_sq {a : Addr} {xs : List V} (R : Same H H') (h : SqL K H a xs) : SqL K H' a xs := R.seq h
theorem fr_sq {a : Addr} {ns : List Int} (R : Fr H H') (h : SqL K H a (ns.map V.int)) : SqL K H' a (ns.map V.int) := by
  rcases h with (h | ⟨o, h⟩) | h
  · exact .inl (.inl (R _ _ h nst_ints))
  · exact .inl (.inr ⟨o, R _ _ h nst_frz⟩)
  · exact .inr h
theorem sq_new {p a : Addr} {u : HO} {xs : List V} (np : H p = none) (h : SqL K H a xs) : SqL K (upd H p u) a xs := (same_new np).seq h
theorem fr_new {p : Addr} {u : HO} (np : H1 p = none) (h : Fr H H1) : Fr H (upd H1 p u) := fun b o e n => at_new np (h b o e n)
theorem sm_new {p : Addr} {u : HO} (np : H1 p = none) (h : Same H H1) : Same H (upd H1 p u) := fun b o e => at_new np (h b o e)
theorem Same.free {p : Addr} (h : Same H H1) (n : H1 p = none) : H p = none := by
  cases e : H p with
  | none => rfl
  | some o => rw [h p o e] at n; cases n
theorem r_pow {Q : VK} {i j : Int} (c : 0 ≤ j ∧ j ≤ 1000000 ∧ i.natAbs < 2 ^ 64) (k : Q (.int (i ^ j.toNat)) H) : rI CPow (fun i j => .int (i ^ j.toNat)) (.int i) (.int j) H Q := ⟨i, j, rfl, rfl, c, k⟩
theorem r_dec {Q : VK} {p : Prop} [Decidable p] {a : Hp} (k : Q (.bl (decide p)) a) : Q (.bl (decide p)) a := k
end
theorem map_at {α : Type} {f : α → V} {l : List α} {i : Nat} {y : V} (h : (l.map f)[i]? = some y) : ∃ z, l[i]? = some z ∧ y = f z := by
  rw [List.getElem?_map] at h
  cases e : l[i]? with
  | none => rw [e] at h; cases h
  | some z => rw [e] at h; exact ⟨z, rfl, (Option.some.inj h).symm⟩
theorem r_start {T : L2.St → Hp → Prop} {σ σ' : L2.St} {H : Hp} (e : σ = σ') (k : T σ' H) : T σ H := e ▸ k
theorem len_ok {n : Nat} (h : Nat.ble n 1000 = true) : n ≤ sizeLine := Nat.le_of_lt (small1000 (Nat.le_of_ble_eq_true h))
theorem r_lay {xs : List V} {R : Prop} (h : xs.length ≤ sizeLine) (k : R) : xs.length ≤ sizeLine ∧ R := ⟨h, k⟩
theorem r_setA {H : Hp} {p : Addr} {xs ys : List V} {i : Int} {j : Nat} {x : V} {G : Hp → Prop} (h : H p = some (.lst xs)) (e : ixN xs.length i = some j) (hy : xs.set j x = ys) (k : ∀ H', H' p = some (.lst ys) → (∀ b o, b ≠ p → H b = some o → H' b = some o) → G H') : rSetL (.ref p) (.int i) x H G :=
  r_setL h e (by rw [hy]; exact k _ upd_same fun b o n q => at_wr n q)
theorem r_appA {H : Hp} {Q : VK} {l : Addr} {xs : List V} {y : V} (h : H l = some (.lst xs)) (hz : xs.length < sizeLine) (k : ∀ H', H' l = some (.lst (xs ++ [y])) → (∀ b o, b ≠ l → H b = some o → H' b = some o) → Q .non H') : rAppend (.ref l) [y] H Q :=
  r_app h hz (k _ upd_same fun b o n q => at_wr n q)
theorem pickI {v : Int} (ns : List Int) (h0 : 0 ≤ v) (h1 : v < ns.length) : ∃ w, atI (ns.map V.int) v = some (.int w) ∧ w ∈ ns := by
  have h : v.toNat < ns.length := by omega
  exact ⟨ns[v.toNat], at_of (j := v.toNat) (by omega) (by rw [List.getElem?_map, List.getElem?_eq_getElem h]; rfl), List.getElem_mem h⟩
theorem pickN {v : Int} {n : Nat} (ns : List Int) (h0 : 0 ≤ v) (h1 : v < n) (h2 : n ≤ ns.length) : ∃ w, atI (ns.map V.int) v = some (.int w) ∧ w ∈ ns.take n := by
  have h : v.toNat < ns.length := by omega
  refine ⟨ns[v.toNat], at_of (j := v.toNat) (by omega) (by rw [List.getElem?_map, List.getElem?_eq_getElem h]; rfl), ?_⟩
  have h3 : v.toNat < (ns.take n).length := by rw [List.length_take]; omega
  have e : (ns.take n)[v.toNat] = ns[v.toNat] := List.getElem_take
  rw [← e]
  exact List.getElem_mem h3
theorem pick2 {v : Int} (a b : Int) (h0 : 0 ≤ v) (h1 : v < 2) : ∃ w, atI [V.int a, V.int b] v = some (.int w) ∧ (v = 0 ∧ w = a ∨ v = 1 ∧ w = b) := by
  have : v = 0 ∨ v = 1 := by omega
  rcases this with rfl | rfl
  · exact ⟨a, rfl, .inl ⟨rfl, rfl⟩⟩
  · exact ⟨b, rfl, .inr ⟨rfl, rfl⟩⟩
theorem pick3 {v : Int} (a b c : Int) (h0 : 0 ≤ v) (h1 : v < 3) : ∃ w, atI [V.int a, V.int b, V.int c] v = some (.int w) ∧ (v = 0 ∧ w = a ∨ v = 1 ∧ w = b ∨ v = 2 ∧ w = c) := by
  have : v = 0 ∨ v = 1 ∨ v = 2 := by omega
  rcases this with rfl | rfl | rfl
  · exact ⟨a, rfl, .inl ⟨rfl, rfl⟩⟩
  · exact ⟨b, rfl, .inr (.inl ⟨rfl, rfl⟩)⟩
  · exact ⟨c, rfl, .inr (.inr ⟨rfl, rfl⟩)⟩
theorem pick4 {v : Int} (a b c d : Int) (h0 : 0 ≤ v) (h1 : v < 4) : ∃ w, atI [V.int a, V.int b, V.int c, V.int d] v = some (.int w) ∧ (v = 0 ∧ w = a ∨ v = 1 ∧ w = b ∨ v = 2 ∧ w = c ∨ v = 3 ∧ w = d) := by
  have : v = 0 ∨ v = 1 ∨ v = 2 ∨ v = 3 := by omega
  rcases this with rfl | rfl | rfl | rfl
  · exact ⟨a, rfl, .inl ⟨rfl, rfl⟩⟩
  · exact ⟨b, rfl, .inr (.inl ⟨rfl, rfl⟩)⟩
  · exact ⟨c, rfl, .inr (.inr (.inl ⟨rfl, rfl⟩))⟩
  · exact ⟨d, rfl, .inr (.inr (.inr ⟨rfl, rfl⟩))⟩
theorem at_neg1 {xs : List V} {n : Nat} {v : V} (hl : xs.length = n + 1) (h : xs[n]? = some v) : atI xs (-1) = some v := by
  have e : ixN xs.length (-1) = some n := by
    unfold ixN
    rw [hl, if_neg (by decide), if_pos (by omega)]
    have : (-1 + ((n + 1 : Nat) : Int)).toNat = n := by omega
    rw [this]
  unfold atI
  rw [e]
  exact h
/-! ## comprehensions -/
def LcW (J : It) (g : TG) (tt : TT) (te : TE) (vs : List Nat) (σ : L2.St) (Q : VK) (D : Addr) (H1 : Hp) : Prop := ∃ W : Nat → Nat → Hp → Prop, (∃ m, W 0 m (upd H1 D (.lst []))) ∧ ∀ i m H, W i m H →
  (J.stop i H ∧ Q (.ref D) H) ∨ (J.go i H ∧ ∃ Nx : Hp → Prop, (∀ H', Nx H' → ∃ m', m' < m ∧ W (i + 1) m' H') ∧ ∀ x H', J.yld i H x H' → g x (wipe σ vs) H' fun σ2 H2 => wipe σ2 vs = wipe σ vs ∧ tt σ2 H2 fun b H3 =>
    if b = true then te σ2 H3 fun y H4 => ∃ acc, H4 D = some (.lst acc) ∧ acc.length < sizeLine ∧ Nx (upd H4 D (.lst (acc ++ [y]))) else Nx H3)
theorem r_lc {wi : TI} {g : TG} {tt : TT} {te : TE} {vs : List Nat} {σ : L2.St} {H : Hp} {Q : VK} (k : wi σ H fun J H1 => ∀ D, H1 D = none → LcW J g tt te vs σ Q D H1) : tLc wi g tt te vs σ H Q := k
theorem r_tYes {σ : L2.St} {H : Hp} {Q : Bool → Hp → Prop} (k : Q true H) : tYes σ H Q := k
section
variable {g : TG} {tt : TT} {te : TE} {vs : List Nat} {σ σw : L2.St} {Q : VK} {D : Addr} {H1 : Hp}
theorem lcw_range {lo : Int} {n : Nat} (Pv : Nat → Hp → Prop) (hw : wipe σ vs = σw) (h0 : Pv 0 (upd H1 D (.lst [])))
    (hs : ∀ i H, i < n → Pv i H → g (.int (lo + i)) σw H fun σ2 H2 => wipe σ2 vs = σw ∧ tt σ2 H2 fun b H3 =>
      if b = true then te σ2 H3 fun y H4 => ∃ acc, H4 D = some (.lst acc) ∧ acc.length < sizeLine ∧ Pv (i + 1) (upd H4 D (.lst (acc ++ [y]))) else Pv (i + 1) H3) (hd : ∀ H, Pv n H → Q (.ref D) H) : LcW (Itr lo n) g tt te vs σ Q D H1 := by
  subst hw
  exact lc_range Pv h0 hs hd
theorem lcw_list {K : PySem.W.Frag} {a : Addr} {xs : List V} (Pv : Nat → Hp → Prop) (hw : wipe σ vs = σw) (h0 : Pv 0 (upd H1 D (.lst []))) (hl : ∀ i H, i ≤ xs.length → Pv i H → SqL K H a xs)
    (hs : ∀ i x H, xs[i]? = some x → Pv i H → g x σw H fun σ2 H2 => wipe σ2 vs = σw ∧ tt σ2 H2 fun b H3 =>
      if b = true then te σ2 H3 fun y H4 => ∃ acc, H4 D = some (.lst acc) ∧ acc.length < sizeLine ∧ Pv (i + 1) (upd H4 D (.lst (acc ++ [y]))) else Pv (i + 1) H3) (hd : ∀ H, Pv xs.length H → Q (.ref D) H) : LcW (Itl K a) g tt te vs σ Q D H1 := by
  subst hw
  exact lc_list Pv h0 hl hs hd
end
/-- what the tail of a comprehension's turn asks, the heap behind it a letter -/
theorem lc_put {D : Addr} {acc : List V} {y : V} {H4 : Hp} {Nx : Hp → Prop} (h : H4 D = some (.lst acc)) (hz : acc.length < sizeLine) (k : ∀ H5, H5 D = some (.lst (acc ++ [y])) → (∀ b o, b ≠ D → H4 b = some o → H5 b = some o) → Nx H5) :
    ∃ acc, H4 D = some (.lst acc) ∧ acc.length < sizeLine ∧ Nx (upd H4 D (.lst (acc ++ [y]))) := ⟨acc, h, hz, k _ upd_same fun b o n q => at_wr n q⟩
/-! ## data in the heap -/
mutual
inductive Is (H : Hp) : V → PyData → Prop
  | non : Is H .non .none
  | bl (b : Bool) : Is H (.bl b) (.bool b)
  | int (i : Int) : Is H (.int i) (.int i)
  | str (x : Str) : Is H (.str x) (.str x)
  | lst {a : Addr} {xs : List V} {ds : List PyData} : H a = some (.lst xs) → IsAll H xs ds → Is H (.ref a) (.list ds)
  | tup {a : Addr} {xs : List V} {ds : List PyData} : H a = some (.tup xs) → IsAll H xs ds → Is H (.ref a) (.tuple ds)
inductive IsAll (H : Hp) : List V → List PyData → Prop
  | nil : IsAll H [] []
  | cons {v : V} {vs : List V} {d : PyData} {ds : List PyData} : Is H v d → IsAll H vs ds → IsAll H (v :: vs) (d :: ds)
end
mutual
theorem Is.dp {K : PySem.W.Frag} {H : Hp} : ∀ (d : PyData) (v : V), Is H v d → Dp K H v d
  | .none, _, h => by cases h; exact .non
  | .bool b, _, h => by cases h; exact .bl b
  | .int i, _, h => by cases h; exact .int i
  | .str x, _, h => by cases h; exact .str x
  | .list ds, _, h => by
    cases h with
    | lst a b => exact .lst (SqL.of a) (IsAll.dp ds _ b)
  | .tuple ds, _, h => by
    cases h with
    | tup a b => exact .tup (SqT.of a) (IsAll.dp ds _ b)
  | .dict _, _, h => by cases h
theorem IsAll.dp {K : PySem.W.Frag} {H : Hp} : ∀ (ds : List PyData) (vs : List V), IsAll H vs ds → DpAll K H vs ds
  | [], _, h => by cases h; exact .nil
  | d :: ds, _, h => by
    cases h with
    | cons a b => exact .cons (Is.dp d _ a) (IsAll.dp ds _ b)
end
mutual
theorem Is.mono {H H' : Hp} (R : Same H H') : ∀ (d : PyData) (v : V), Is H v d → Is H' v d
  | .none, _, h => by cases h; exact .non
  | .bool b, _, h => by cases h; exact .bl b
  | .int i, _, h => by cases h; exact .int i
  | .str x, _, h => by cases h; exact .str x
  | .list ds, _, h => by
    cases h with
    | lst a b => exact .lst (R _ _ a) (IsAll.mono R ds _ b)
  | .tuple ds, _, h => by
    cases h with
    | tup a b => exact .tup (R _ _ a) (IsAll.mono R ds _ b)
  | .dict _, _, h => by cases h
theorem IsAll.mono {H H' : Hp} (R : Same H H') : ∀ (ds : List PyData) (vs : List V), IsAll H vs ds → IsAll H' vs ds
  | [], _, h => by cases h; exact .nil
  | d :: ds, _, h => by
    cases h with
    | cons a b => exact .cons (Is.mono R d _ a) (IsAll.mono R ds _ b)
end
theorem IsAll.len {H : Hp} : ∀ {ds : List PyData} {vs : List V}, IsAll H vs ds → vs.length = ds.length
  | [], _, h => by cases h; rfl
  | d :: ds, _, h => by
    cases h with
    | cons a b =>
      show _ + 1 = _ + 1
      rw [IsAll.len b]
theorem IsAll.get {H : Hp} : ∀ {ds : List PyData} {vs : List V} {i : Nat}, IsAll H vs ds → i < ds.length → ∃ v d, vs[i]? = some v ∧ ds[i]? = some d ∧ Is H v d
  | [], _, _, _, h2 => by simp at h2
  | d :: ds, _, 0, h, _ => by
    cases h with
    | cons a b => exact ⟨_, d, rfl, rfl, a⟩
  | d :: ds, _, i + 1, h, h2 => by
    cases h with
    | cons a b =>
      obtain ⟨v, e, h1, h3, h4⟩ := IsAll.get (i := i) b (by simpa using h2)
      exact ⟨v, e, by simpa using h1, by simpa using h3, h4⟩
theorem IsAll.snoc {H : Hp} {v : V} {d : PyData} (h2 : Is H v d) : ∀ {ds : List PyData} {vs : List V}, IsAll H vs ds → IsAll H (vs ++ [v]) (ds ++ [d])
  | [], _, h => by cases h; exact .cons h2 .nil
  | e :: ds, _, h => by
    cases h with
    | cons a b => exact .cons a (IsAll.snoc h2 b)
theorem IsAll.ints {H : Hp} : ∀ ns : List Int, IsAll H (ns.map V.int) (ns.map PyData.int)
  | [] => .nil
  | n :: r => .cons (.int n) (IsAll.ints r)
/-- a pair of ints as data -/
def dPair (x : Int × Int) : PyData := .tuple [.int x.1, .int x.2]
theorem Is.pair {H : Hp} {a : Addr} {x : Int × Int} (h : H a = some (.tup [.int x.1, .int x.2])) : Is H (.ref a) (dPair x) := .tup h (.cons (.int _) (.cons (.int _) .nil))
def dInts (ns : List Int) : PyData := .list (ns.map PyData.int)
theorem Is.ints {H : Hp} {a : Addr} {ns : List Int} (h : H a = some (.lst (ns.map V.int))) : Is H (.ref a) (dInts ns) := .lst h (.ints ns)
/-- flat enough, and without dicts -/
def Fl (n : Nat) (d : PyData) : Prop := d.canLay0 = true ∧ d.depth ≤ n
theorem Fl.shaped {n : Nat} {d : PyData} (h : Fl n d) (hn : n ≤ 64) : SeqAt.shaped d = true := by
  unfold SeqAt.shaped
  rw [h.1]
  exact decide_eq_true (Nat.le_trans h.2 hn)
theorem fl_all {n : Nat} : ∀ {ds : List PyData}, (∀ d ∈ ds, Fl n d) → PyData.canLayAll0 ds = true ∧ PyData.depthAll ds ≤ n
  | [], _ => ⟨rfl, Nat.zero_le _⟩
  | d :: ds, h => by
    obtain ⟨a, b⟩ := fl_all (ds := ds) fun e he => h e (List.mem_cons_of_mem _ he)
    obtain ⟨c, e⟩ := h d List.mem_cons_self
    refine ⟨?_, ?_⟩
    · rw [PyData.canLayAll0, c, a]
      rfl
    · rw [PyData.depthAll]
      omega
theorem Fl.list {n : Nat} {ds : List PyData} (h : ∀ d ∈ ds, Fl n d) : Fl (n + 1) (.list ds) := by
  obtain ⟨a, b⟩ := fl_all h
  exact ⟨by rw [PyData.canLay0]; exact a, by rw [PyData.depth]; omega⟩
theorem Fl.tuple {n : Nat} {ds : List PyData} (h : ∀ d ∈ ds, Fl n d) : Fl (n + 1) (.tuple ds) := by
  obtain ⟨a, b⟩ := fl_all h
  exact ⟨by rw [PyData.canLay0]; exact a, by rw [PyData.depth]; omega⟩
theorem Fl.int (n : Nat) (i : Int) : Fl n (.int i) := ⟨by rw [PyData.canLay0], by rw [PyData.depth]; omega⟩
theorem Fl.bl (n : Nat) (i : Bool) : Fl n (.bool i) := ⟨by rw [PyData.canLay0], by rw [PyData.depth]; omega⟩
theorem Fl.non (n : Nat) : Fl n .none := ⟨by rw [PyData.canLay0], by rw [PyData.depth]; omega⟩
theorem Fl.pair (n : Nat) (x : Int × Int) : Fl (n + 1) (dPair x) := Fl.tuple fun d h => by
  simp at h
  rcases h with rfl | rfl <;> exact Fl.int _ _
theorem Fl.ints (n : Nat) (ns : List Int) : Fl (n + 1) (dInts ns) := Fl.list fun d h => by
  obtain ⟨i, _, rfl⟩ := List.mem_map.mp h
  exact Fl.int _ _
theorem Fl.pairs (n : Nat) (xs : List (Int × Int)) : Fl (n + 2) (.list (xs.map dPair)) := Fl.list fun d h => by
  obtain ⟨i, _, rfl⟩ := List.mem_map.mp h
  exact Fl.pair _ _
theorem Fl.mono {n m : Nat} {d : PyData} (h : Fl n d) (k : n ≤ m) : Fl m d := ⟨h.1, Nat.le_trans h.2 k⟩
theorem r_eqIs {K : PySem.W.Frag} {H : Hp} {Q : VK} {x y : V} {d : PyData} {n : Nat} (h1 : Is H x d) (h2 : Is H y d) (f : Fl n d) (k : Q (.bl true) H) (hn : n ≤ 64 := by decide) : rEqA K x y H Q := r_eqD (Is.dp d x h1) (Is.dp d y h2) (f.shaped hn) k
theorem r_neIs {K : PySem.W.Frag} {H : Hp} {Q : VK} {x y : V} {d : PyData} {n : Nat} (h1 : Is H x d) (h2 : Is H y d) (f : Fl n d) (k : Q (.bl false) H) (hn : n ≤ 64 := by decide) : rNeA K x y H Q := r_neD (Is.dp d x h1) (Is.dp d y h2) (f.shaped hn) k
/-! ## isinstance -/
def rIsiA (K : PySem.W.Frag) : List V → Hp → VK → Prop := fun xs H Q => rIsi K xs H Q ∨ rIsiT K xs H Q
/-- the class of a datum -/
def tyD : PyData → String
  | .none => "NoneType"
  | .bool _ => "bool"
  | .int _ => "int"
  | .str _ => "str"
  | .list _ => "list"
  | .tuple _ => "tuple"
  | .dict _ => "dict"
theorem Is.ty {K : PySem.W.Frag} {H : Hp} {v : V} {d : PyData} (h : Is H v d) : TyX K H v (.type (tyD d)) := by
  cases h with
  | non => exact .base .non
  | bl b => exact .base (.bl b)
  | int i => exact .base (.int i)
  | str x => exact .base (.str x)
  | lst a b => exact .base (.lst a)
  | tup a b => exact .base (.tup a)
theorem r_isi {K : PySem.W.Frag} {H : Hp} {Q : VK} {v : V} {T c : String} {b : Bool} (ty : TyX K H v (.type T)) (e : kitB T c = some b) (k : Q (.bl b) H) : rIsiA K [v, .ty c] H Q := .inl ⟨v, .ty c, .type T, .type c, b, rfl, .ty c, ty, kit_ty e, k⟩
theorem r_isi2 {K : PySem.W.Frag} {H : Hp} {Q : VK} {v : V} {t : Addr} {T c1 c2 : String} {b1 b2 : Bool} (ht : H t = some (.tup [.ty c1, .ty c2])) (ty : TyX K H v (.type T)) (e1 : kitB T c1 = some b1) (e2 : kitB T c2 = some b2) (k : Q (.bl (b1 || b2)) H) : rIsiA K [v, .ref t] H Q := by
  refine .inr ⟨v, t, [.ty c1, .ty c2], .type T, [.type c1, .type c2], b1 || b2, rfl, ht, .cons (.ty c1) (.cons (.ty c2) .nil), ty, ?_, k⟩
  refine kitAny_cons (kit_ty e1) (r := b1 || b2) (fun h => ?_) fun h => by rw [h]; rfl
  subst h
  refine kitAny_cons (kit_ty e2) (r := false || b2) (fun h => ?_) fun h => by rw [h]; rfl
  subst h
  exact kitAny_nil
theorem kcc_isi {X : Cx} {K : PySem.W.Frag} (h : X.K = K) : CallR X (.builtin "isinstance") (rIsiA K) := by subst h; exact CallR.or call_isi call_isiT
/-- where drawing stands -/
structure St (H : Hp) (st a : Addr) : Prop where
  ex : ∃ i m r : Int, H st = some (.lst [.ref a, .int i, .int m, .int r]) ∧ 0 ≤ i ∧ 0 ≤ m ∧ m < 2147483647 ∧ 0 ≤ r
theorem fr_st {H : Hp} {st : Addr} {a : Addr} {i m r : Int} {o : HO} (h : H st = some (.lst [.ref a, .int i, .int m, .int r])) : Fr H (upd H st o) := fun b u e n => by
  rw [upd_ne (fun q => by subst q; rw [h] at e; cases e; exact n _ _ _ _ rfl)]
  exact e
theorem St.same {H H' : Hp} {st a : Addr} (s : St H st a) (R : Same H H') : St H' st a := by
  obtain ⟨i, m, r, h, q⟩ := s.ex
  exact ⟨i, m, r, R _ _ h, q⟩
theorem St.new {H : Hp} {st a p : Addr} {u : HO} (s : St H st a) (np : H p = none) : St (upd H p u) st a := s.same (same_new np)
theorem St.ne {H : Hp} {st a p : Addr} {o : HO} (s : St H st a) (h : H p = some o) (n : NotSt o) : st ≠ p := by
  obtain ⟨i, m, r, e, q⟩ := s.ex
  exact ne_of e h fun z => n _ _ _ _ z.symm
theorem St.wr {H : Hp} {st a p : Addr} {o u : HO} (s : St H st a) (h : H p = some o) (n : NotSt o) : St (upd H p u) st a := by
  have ne := s.ne h n
  obtain ⟨i, m, r, e, q⟩ := s.ex
  exact ⟨i, m, r, by rw [upd_ne ne]; exact e, q⟩
theorem kpi_enum {X : Cx} {K : PySem.W.Frag} {e : Expr} {ta : TA} {p pos tpos : Pos} {elts : List Expr} {kk : Nat} (hK : X.K = K) (hg : Gl X "enumerate") (hm : X.mg "enumerate" = none) (ha : PA X [e] ta) (hs : starEach [e] X.env = [(false, eval e X.env)] := by rfl) :
    PI X (.Tuple elts kk tpos) (.Call (.Name "enumerate" p) [e] [] pos) (iEnum K ta) := by subst hK; exact pi_enum hg hm ha hs
theorem r_iEnum {K : PySem.W.Frag} {σ : L2.St} {H : Hp} {ta : TA} {R : It → Hp → Prop} (k : ta σ H fun vs H1 => ∃ a xs, vs = [.ref a] ∧ SqL K H1 a xs ∧ R (Ite K a) H1) : iEnum K ta σ H R := k
theorem fw_enum {K : PySem.W.Frag} {σ : L2.St} {H : Hp} {nn bb cc : L2.St → Hp → Prop} {rr : VK} {a : Addr} {xs : List V} {g : TG} {tb : TS} (Pv : Nat → L2.St → Hp → Prop) (h0 : Pv 0 σ H) (hl : ∀ i σ H, i ≤ xs.length → Pv i σ H → SqL K H a xs)
    (hs : ∀ i x σ H T, xs[i]? = some x → Pv i σ H → H T = none → g (.ref T) σ (upd H T (.tup [.int (i : Nat), x])) fun σ2 H2 => tb ⟨Pv (i + 1), rr, nn, Pv (i + 1)⟩ σ2 H2) (hd : ∀ σ H, Pv xs.length σ H → nn σ H) : ForW (Ite K a) g tb ⟨nn, rr, bb, cc⟩ σ H := by
  refine for_it (walk_enum (xs := xs)) Pv h0 hl (fun i x σ H H' hi p y => ?_) hd
  obtain ⟨T, u, v, rfl, nT, rfl, e1, e2⟩ := y
  cases e1
  exact hs i v σ H T e2 p nT
/-- == of two pairs of ints -/
theorem eqv_pair (x y : Int × Int) : PyData.eqv (dPair x) (dPair y) = decide (x = y) := by
  unfold dPair
  simp only [PyData.eqv, PyData.eqvAll, Bool.and_true]
  by_cases h : x = y
  · subst h
    simp
  · have : ¬ (x.1 = y.1 ∧ x.2 = y.2) := fun z => h (Prod.ext z.1 z.2)
    rw [decide_eq_false h]
    simp only [Bool.and_eq_false_iff, beq_eq_false_iff_ne]
    by_cases h1 : x.1 = y.1
    · exact .inr fun h2 => this ⟨h1, h2⟩
    · exact .inl h1
theorem r_eqPair {K : PySem.W.Frag} {H : Hp} {Q : VK} {a b : Addr} {x y : Int × Int} (h1 : H a = some (.tup [.int x.1, .int x.2])) (h2 : H b = some (.tup [.int y.1, .int y.2])) (k : Q (.bl (decide (x = y))) H) : rEqA K (.ref a) (.ref b) H Q :=
  .inr ⟨dPair x, dPair y, Is.dp _ _ (Is.pair h1), Is.dp _ _ (Is.pair h2), (Fl.pair 0 x).shaped (by decide), (Fl.pair 0 y).shaped (by decide), by rw [eqv_pair]; exact k⟩
theorem r_nePair {K : PySem.W.Frag} {H : Hp} {Q : VK} {a b : Addr} {x y : Int × Int} (h1 : H a = some (.tup [.int x.1, .int x.2])) (h2 : H b = some (.tup [.int y.1, .int y.2])) (k : Q (.bl (!decide (x = y))) H) : rNeA K (.ref a) (.ref b) H Q :=
  .inr ⟨dPair x, dPair y, Is.dp _ _ (Is.pair h1), Is.dp _ _ (Is.pair h2), (Fl.pair 0 x).shaped (by decide), (Fl.pair 0 y).shaped (by decide), by rw [eqv_pair]; exact k⟩
theorem r_sum {K : PySem.W.Frag} {H : Hp} {Q : VK} {a : Addr} {ns : List Int} (h : SqL K H a (ns.map V.int)) (k : Q (.int ns.sum) H) : rSum K [.ref a] H Q := ⟨a, ns, rfl, h, k⟩
theorem r_neSelf {K : PySem.W.Frag} {H : Hp} {Q : VK} {v : V} (h : v = .non ∨ ∃ i, v = .int i) (k : Q (.bl false) H) : rNeA K v v H Q := by
  rcases h with rfl | ⟨i, rfl⟩
  · exact .inl ⟨rfl, by rw [decide_eq_true rfl]; exact k⟩
  · exact r_neI (by rw [decide_eq_true rfl]; exact k)
theorem r_neNil {K : PySem.W.Frag} {H : Hp} {Q : VK} {a b : Addr} {ns : List Int} (h : H a = some (.lst (ns.map V.int))) (h2 : H b = some (.lst [])) (k : Q (.bl (!decide (ns = []))) H) : rNeA K (.ref a) (.ref b) H Q := by
  refine .inr ⟨dInts ns, .list [], Is.dp _ _ (Is.ints h), Is.dp _ _ (.lst h2 .nil), (Fl.ints 0 ns).shaped (by decide), (Fl.list (n := 0) (ds := []) (by simp)).shaped (by decide), ?_⟩
  have e : PyData.eqv (dInts ns) (.list []) = decide (ns = []) := by
    cases ns with
    | nil => simp [dInts, PyData.eqv, PyData.eqvAll]
    | cons n r => simp [dInts, PyData.eqv, PyData.eqvAll]
  rw [e]
  exact k
theorem cut_take {α : Type} (f : α → V) (ms : List α) {v : Int} (h0 : 0 ≤ v) : cutV (ms.map f) none (some v) = (ms.take v.toNat).map f := by
  obtain ⟨n, rfl⟩ : ∃ n : Nat, v = (n : Int) := ⟨v.toNat, by omega⟩
  unfold cutV
  rw [HT.sIx_nat, HT.sIx_none, List.drop_zero, Nat.sub_zero, Int.toNat_natCast, List.map_take]
  by_cases h : n ≤ (ms.map f).length
  · rw [Nat.min_eq_left h]
  · rw [Nat.min_eq_right (by omega), List.take_of_length_le (Nat.le_refl _), List.take_of_length_le (by omega)]
theorem cut_drop {α : Type} (f : α → V) (ms : List α) {v : Int} (h0 : 0 ≤ v) : cutV (ms.map f) (some v) none = (ms.drop v.toNat).map f := by
  obtain ⟨n, rfl⟩ : ∃ n : Nat, v = (n : Int) := ⟨v.toNat, by omega⟩
  unfold cutV
  rw [HT.sIx_nat, HT.sIx_none, Int.toNat_natCast, List.map_drop]
  by_cases h : n ≤ (ms.map f).length
  · rw [Nat.min_eq_left h, List.take_of_length_le (by rw [List.length_drop]; omega)]
  · rw [Nat.min_eq_right (by omega), Nat.sub_self, List.take_zero, List.drop_of_length_le (by omega)]
end Rd

/-! ## macros -/
local macro_rules | `(tactic| walk_at "nst") => `(tactic| first
  | exact Rd.nst_tup | exact Rd.nst_ints | exact Rd.nst_refs | exact Rd.nst_nil | exact Rd.nst_int | exact Rd.nst_cons | exact Rd.nst_frz | exact Rd.nst_ins | exact Rd.nst_own | assumption
  | (intro a i m r h; simp at h; done) | (intro a i m r h; cases h; done))
local macro_rules | `(tactic| walk_at "hp") => `(tactic| first
  | with_reducible assumption
  | with_reducible exact L2.upd_same
  | ((with_reducible refine' Rd.at_new ?hnp ?hup); (case hnp => with_reducible assumption); (case hup => walk_at "hp"))
  | ((with_reducible refine' Rd.same_at ?hsm ?hup); (case hsm => with_reducible assumption); (case hup => walk_at "hp"))
  | ((with_reducible refine' Rd.fr_at ?hsm ?hup ?hns); (case hsm => with_reducible assumption); (case hup => walk_at "hp"); (case hns => walk_at "nst"))
  | ((with_reducible refine' Rd.at_wr ?hne ?hup); (case hup => walk_at "hp"); (case hne => first | with_reducible assumption | (with_reducible refine' Ne.symm ?hne2; with_reducible assumption))))
local macro_rules | `(tactic| walk_at "sq") => `(tactic| first
  | with_reducible assumption
  | ((with_reducible refine' Rd.same_sq ?hsm ?hup); (case hsm => with_reducible assumption); (case hup => walk_at "sq"))
  | ((with_reducible refine' Rd.fr_sq ?hsm ?hup); (case hsm => with_reducible assumption); (case hup => walk_at "sq"))
  | ((with_reducible refine' Rd.sq_new ?hnp ?hup); (case hnp => with_reducible assumption); (case hup => walk_at "sq"))
  | ((with_reducible refine' L2.SqL.of ?hup); (case hup => walk_at "hp"))
  | ((with_reducible refine' L2.SqT.of ?hup); (case hup => walk_at "hp"))
  | ((with_reducible refine' Or.inl ?hup); (case hup => walk_at "sq"))
  | ((with_reducible refine' Or.inr ?hup); (case hup => walk_at "sq")))
local macro_rules | `(tactic| walk_at "ss") => `(tactic| first
  | with_reducible assumption
  | ((with_reducible refine' Rd.St.new ?hup ?hnp); (case hnp => with_reducible assumption); (case hup => walk_at "ss"))
  | ((with_reducible refine' Rd.St.same ?hup ?hsm); (case hsm => with_reducible assumption); (case hup => walk_at "ss")))
local macro_rules | `(tactic| walk_at "fr") => `(tactic| first
  | with_reducible assumption
  | with_reducible exact Rd.Fr.refl _
  | with_reducible exact L2.Same.refl _
  | ((with_reducible refine' Rd.fr_new ?hnp ?hup); (case hnp => first | with_reducible assumption | walk_at "no"); (case hup => walk_at "fr"))
  | ((with_reducible refine' Rd.sm_new ?hnp ?hup); (case hnp => first | with_reducible assumption | walk_at "no"); (case hup => walk_at "fr"))
  | ((with_reducible refine' Rd.Fr.trans ?hup ?hsm); (case hsm => with_reducible assumption); (case hup => walk_at "fr"))
  | ((with_reducible refine' Rd.Fr.same ?hup ?hsm); (case hsm => with_reducible assumption); (case hup => walk_at "fr"))
  | ((with_reducible refine' L2.Same.trans ?hup ?hsm); (case hsm => with_reducible assumption); (case hup => walk_at "fr")))
/-- one step -/
local macro_rules | `(tactic| walk_at "go1") => `(tactic| first
  | with_reducible refine Rd.r_v0 ?_ | with_reducible refine Rd.r_v1 ?_ | with_reducible refine Rd.r_v2 ?_ | with_reducible refine Rd.r_v3 ?_ | with_reducible refine Rd.r_v4 ?_ | with_reducible refine Rd.r_v5 ?_
  | with_reducible refine Rd.r_c ?_ | with_reducible refine Rd.r_op ?_ | with_reducible refine Rd.r_cons ?_ | with_reducible refine Rd.r_nil ?_
  | with_reducible refine Rd.r_I0 ?_ | with_reducible refine Rd.r_addI ?_ | with_reducible refine Rd.r_eqI ?_ | with_reducible refine Rd.r_neI ?_ | with_reducible refine Rd.r_eqB ?_ | with_reducible refine Rd.r_neB ?_
  | with_reducible refine Rd.r_seq ?_ | with_reducible refine Rd.r_asg ?_
  | with_reducible refine Rd.r_g0 ?_ | with_reducible refine Rd.r_g1 ?_ | with_reducible refine Rd.r_g2 ?_ | with_reducible refine Rd.r_g3 ?_ | with_reducible refine Rd.r_g4 ?_ | with_reducible refine Rd.r_g5 ?_
  | with_reducible refine Rd.r_ret ?_ | with_reducible refine Rd.r_retN ?_ | with_reducible refine Rd.r_ifS ?_ | with_reducible refine Rd.r_next ?_ | with_reducible refine Rd.r_drop ?_ | with_reducible refine Rd.r_break ?_ | with_reducible refine Rd.r_cont ?_
  | with_reducible refine Rd.r_test ?_ | with_reducible refine Rd.r_B ?_ | with_reducible refine Rd.r_bl ?_ | with_reducible refine Rd.r_and ?_ | with_reducible refine Rd.r_or ?_ | with_reducible refine Rd.r_not ?_
  | with_reducible refine Rd.r_andV ?_ | with_reducible refine Rd.r_orV ?_ | with_reducible refine Rd.r_notV ?_ | with_reducible refine Rd.r_if ?_ | with_reducible refine Rd.r_chain ?_ | with_reducible refine Rd.r_un ?_ | with_reducible refine Rd.r_U ?_
  | with_reducible refine Rd.r_cB ?_ | with_reducible refine Rd.r_call ?_ | with_reducible refine Rd.r_tup ?_ | with_reducible refine Rd.r_lst ?_
  | with_reducible refine Rd.r_sl ?_ | with_reducible refine Rd.r_noP ?_ | with_reducible refine Rd.r_part ?_ | with_reducible refine Rd.r_partI ?_ | with_reducible refine Rd.r_bm ?_ | with_reducible refine Rd.r_bm0 ?_
  | with_reducible refine Rd.r_for ?_ | with_reducible refine Rd.r_iList ?_ | with_reducible refine Rd.r_iRng1 ?_ | with_reducible refine Rd.r_iRng2 ?_ | with_reducible refine Rd.r_iEnum ?_
  | with_reducible refine Rd.r_lc ?_ | with_reducible refine Rd.r_tYes ?_
  | with_reducible refine Rd.r_max2 ?_ | with_reducible refine Rd.r_min2 ?_ | with_reducible refine Rd.r_abs ?_ | with_reducible refine Rd.r_intI ?_ | with_reducible refine Rd.r_intB ?_
  | with_reducible refine Rd.r_gCons ?_ | with_reducible refine Rd.r_gNil ?_ | with_reducible refine Rd.r_gSub ?_
  | ((with_reducible refine' Rd.r_ix ?hsq ?hat ?hk); (case hsq => walk_at "sq"); (case hat => first | rfl | assumption))
  | ((with_reducible refine' Rd.r_gTup ?hsq ?hat ?hk); (case hsq => walk_at "sq"); (case hat => rfl))
  | ((with_reducible refine' Rd.r_lenS ?hsq ?hk); (case hsq => walk_at "sq"); (intro hlenS))
  | ((with_reducible refine' Rd.r_lay ?hlen ?hk); (case hlen => exact Rd.len_ok rfl))
  | ((with_reducible refine' Rd.r_pow ?hpo ?hk); (case hpo => decide))
  | with_reducible refine Rd.r_v6 ?_ | with_reducible refine Rd.r_v7 ?_ | with_reducible refine Rd.r_v8 ?_ | with_reducible refine Rd.r_v9 ?_ | with_reducible refine Rd.r_v10 ?_ | with_reducible refine Rd.r_v11 ?_ | with_reducible refine Rd.r_v12 ?_ | with_reducible refine Rd.r_v13 ?_ | with_reducible refine Rd.r_v14 ?_ | with_reducible refine Rd.r_v15 ?_ | with_reducible refine Rd.r_v16 ?_ | with_reducible refine Rd.r_v17 ?_ | with_reducible refine Rd.r_v18 ?_ | with_reducible refine Rd.r_v19 ?_ | with_reducible refine Rd.r_v20 ?_ | with_reducible refine Rd.r_v21 ?_
  | with_reducible refine Rd.r_g6 ?_ | with_reducible refine Rd.r_g7 ?_ | with_reducible refine Rd.r_g8 ?_ | with_reducible refine Rd.r_g9 ?_ | with_reducible refine Rd.r_g10 ?_ | with_reducible refine Rd.r_g11 ?_ | with_reducible refine Rd.r_g12 ?_ | with_reducible refine Rd.r_g13 ?_ | with_reducible refine Rd.r_g14 ?_ | with_reducible refine Rd.r_g15 ?_ | with_reducible refine Rd.r_g16 ?_ | with_reducible refine Rd.r_g17 ?_ | with_reducible refine Rd.r_g18 ?_ | with_reducible refine Rd.r_g19 ?_ | with_reducible refine Rd.r_g20 ?_ | with_reducible refine Rd.r_g21 ?_)
local macro_rules | `(tactic| walk_at "go") => `(tactic| repeat walk_at "go1")

namespace Rd
open PySem L2
def top (i : Nat) : Stmt := PySem.Challenge.pw_stepgear_k11_written_and_read.main.body.getD i (.Pass ⟨0, 0, 0, 0⟩)
abbrev s_need_moves : Stmt := top 11
theorem sc_need_moves : FnScope ["moves"] ["moves"] (defScope s_need_moves) := ⟨rfl, rfl, rfl, by decide +kernel, rfl, by decide +kernel, by decide +kernel⟩
theorem bo_need_moves : BindOk "need_moves" s_need_moves ["moves"] := fun _ _ _ _ _ _ us hl => match us, hl with | [_], _ => rfl
abbrev s_word_of : Stmt := top 15
theorem sc_word_of : FnScope ["steps"] ["steps"] (defScope s_word_of) := ⟨rfl, rfl, rfl, by decide +kernel, rfl, by decide +kernel, by decide +kernel⟩
theorem bo_word_of : BindOk "word_of" s_word_of ["steps"] := fun _ _ _ _ _ _ us hl => match us, hl with | [_], _ => rfl
abbrev s_written : Stmt := top 16
theorem sc_written : FnScope ["moves", "steps"] ["moves"] (defScope s_written) := ⟨rfl, rfl, rfl, by decide +kernel, rfl, by decide +kernel, by decide +kernel⟩
theorem bo_written : BindOk "written" s_written ["moves"] := fun _ _ _ _ _ _ us hl => match us, hl with | [_], _ => rfl
abbrev s_steps_of : Stmt := top 17
theorem sc_steps_of : FnScope ["word", "size", "sign"] ["word"] (defScope s_steps_of) := ⟨rfl, rfl, rfl, by decide +kernel, rfl, by decide +kernel, by decide +kernel⟩
theorem bo_steps_of : BindOk "steps_of" s_steps_of ["word"] := fun _ _ _ _ _ _ us hl => match us, hl with | [_], _ => rfl
abbrev s_read_moves : Stmt := top 18
theorem sc_read_moves : FnScope ["text", "found", "place", "word", "steps"] ["text"] (defScope s_read_moves) := ⟨rfl, rfl, rfl, by decide +kernel, rfl, by decide +kernel, by decide +kernel⟩
theorem bo_read_moves : BindOk "read_moves" s_read_moves ["text"] := fun _ _ _ _ _ _ us hl => match us, hl with | [_], _ => rfl
abbrev s_law_start : Stmt := top 20
theorem sc_law_start : FnScope ["_law_script", "_law_mixed", "_law_cell"] ["_law_script"] (defScope s_law_start) := ⟨rfl, rfl, rfl, by decide +kernel, rfl, by decide +kernel, by decide +kernel⟩
theorem bo_law_start : BindOk "_law_start" s_law_start ["_law_script"] := fun _ _ _ _ _ _ us hl => match us, hl with | [_], _ => rfl
abbrev s_law_drawn : Stmt := top 21
theorem sc_law_drawn : FnScope ["_law_state", "_law_many", "_law_found", "_law_cell"] ["_law_state", "_law_many"] (defScope s_law_drawn) := ⟨rfl, rfl, rfl, by decide +kernel, rfl, by decide +kernel, by decide +kernel⟩
theorem bo_law_drawn : BindOk "_law_drawn" s_law_drawn ["_law_state", "_law_many"] := fun _ _ _ _ _ _ us hl => match us, hl with | [_, _], _ => rfl
abbrev s_law_same : Stmt := top 22
theorem sc_law_same : FnScope ["_law_found", "_law_due", "_law_k"] ["_law_found", "_law_due"] (defScope s_law_same) := ⟨rfl, rfl, rfl, by decide +kernel, rfl, by decide +kernel, by decide +kernel⟩
theorem bo_law_same : BindOk "_law_same" s_law_same ["_law_found", "_law_due"] := fun _ _ _ _ _ _ us hl => match us, hl with | [_, _], _ => rfl
abbrev s_law_kind : Stmt := top 23
theorem sc_law_kind : FnScope ["_law_work", "e", "_law_kinds", "_law_words", "_law_word_here"] ["_law_work"] (defScope s_law_kind) := ⟨rfl, rfl, rfl, by decide +kernel, rfl, by decide +kernel, by decide +kernel⟩
theorem bo_law_kind : BindOk "_law_kind" s_law_kind ["_law_work"] := fun _ _ _ _ _ _ us hl => match us, hl with | [_], _ => rfl
abbrev s_law_gear : Stmt := top 24
theorem sc_law_gear : FnScope ["_law_state", "_law_small", "_law_sorts", "_law_around", "_law_play"] ["_law_state", "_law_small"] (defScope s_law_gear) := ⟨rfl, rfl, rfl, by decide +kernel, rfl, by decide +kernel, by decide +kernel⟩
theorem bo_law_gear : BindOk "_law_gear" s_law_gear ["_law_state", "_law_small"] := fun _ _ _ _ _ _ us hl => match us, hl with | [_, _], _ => rfl
abbrev s_law_standing : Stmt := top 25
theorem sc_law_standing : FnScope ["_law_state", "_law_gear_here", "_law_far", "_law_motor"] ["_law_state", "_law_gear_here"] (defScope s_law_standing) := ⟨rfl, rfl, rfl, by decide +kernel, rfl, by decide +kernel, by decide +kernel⟩
theorem bo_law_standing : BindOk "_law_standing" s_law_standing ["_law_state", "_law_gear_here"] := fun _ _ _ _ _ _ us hl => match us, hl with | [_, _], _ => rfl
abbrev s_law_moves : Stmt := top 26
theorem sc_law_moves : FnScope ["_law_state", "_law_gear_here", "_law_most", "_law_found", "_law_k", "_law_size"] ["_law_state", "_law_gear_here", "_law_most"] (defScope s_law_moves) := ⟨rfl, rfl, rfl, by decide +kernel, rfl, by decide +kernel, by decide +kernel⟩
theorem bo_law_moves : BindOk "_law_moves" s_law_moves ["_law_state", "_law_gear_here", "_law_most"] := fun _ _ _ _ _ _ us hl => match us, hl with | [_, _, _], _ => rfl
abbrev s_law_behind : Stmt := top 27
theorem sc_law_behind : FnScope ["_law_gear_here", "_law_standing_here", "_law_steps", "_law_motor", "_law_shaft", "_law_free"] ["_law_gear_here", "_law_standing_here", "_law_steps"] (defScope s_law_behind) := ⟨rfl, rfl, rfl, by decide +kernel, rfl, by decide +kernel, by decide +kernel⟩
theorem bo_law_behind : BindOk "_law_behind" s_law_behind ["_law_gear_here", "_law_standing_here", "_law_steps"] := fun _ _ _ _ _ _ us hl => match us, hl with | [_, _, _], _ => rfl
abbrev s_law_word : Stmt := top 28
theorem sc_law_word : FnScope ["_law_steps"] ["_law_steps"] (defScope s_law_word) := ⟨rfl, rfl, rfl, by decide +kernel, rfl, by decide +kernel, by decide +kernel⟩
theorem bo_law_word : BindOk "_law_word" s_law_word ["_law_steps"] := fun _ _ _ _ _ _ us hl => match us, hl with | [_], _ => rfl
abbrev s_law_read : Stmt := top 29
theorem sc_law_read : FnScope ["_law_text", "_law_found", "_law_words", "_law_place", "_law_word_here", "_law_figures", "_law_good", "_law_odd", "_law_sign"] ["_law_text"] (defScope s_law_read) := ⟨rfl, rfl, rfl, by decide +kernel, rfl, by decide +kernel, by decide +kernel⟩
theorem bo_law_read : BindOk "_law_read" s_law_read ["_law_text"] := fun _ _ _ _ _ _ us hl => match us, hl with | [_], _ => rfl
abbrev s_law_changed : Stmt := top 30
theorem sc_law_changed : FnScope ["_law_state", "_law_text", "_law_way", "_law_at", "_law_sign", "_law_words", "_law_k", "_law_odd", "_law_some"] ["_law_state", "_law_text"] (defScope s_law_changed) := ⟨rfl, rfl, rfl, by decide +kernel, rfl, by decide +kernel, by decide +kernel⟩
theorem bo_law_changed : BindOk "_law_changed" s_law_changed ["_law_state", "_law_text"] := fun _ _ _ _ _ _ us hl => match us, hl with | [_, _], _ => rfl
abbrev s_law : Stmt := top 31
theorem sc_law : FnScope ["_law_script", "_law_state", "_law_turn", "_law_moves_here", "_law_text", "_law_handed", "_law_again", "_law_found", "_law_change", "_law_steps"] ["_law_script"] (defScope s_law) := ⟨rfl, rfl, rfl, by decide +kernel, rfl, by decide +kernel, by decide +kernel⟩
theorem bo_law : BindOk "law" s_law ["_law_script"] := fun _ _ _ _ _ _ us hl => match us, hl with | [_], _ => rfl
abbrev s_BadText_init : Stmt := inClass (top 8) 0
theorem sc_BadText_init : FnScope ["self", "place"] ["self", "place"] (defScope s_BadText_init) := ⟨rfl, rfl, rfl, by decide +kernel, rfl, by decide +kernel, by decide +kernel⟩
end Rd

/-! ## texts -/
namespace Rd
open PySem PySem.Spec L2 PyProof.Rows TL
section
variable {K : PySem.W.Frag} {σ : L2.St} {H : Hp} {Q : VK}
def rStrI : List V → Hp → VK → Prop := fun xs H Q => ∃ i, xs = [.int i] ∧ i.natAbs.log2 < 1920 ∧ Q (.str (toString i)) H
theorem kc_str {X : Cx} : CallR X (.type "str") rStrI := call_str_int
theorem r_strI {i : Int} (h : i.natAbs.log2 < 1920) (k : Q (.str (toString i)) H) : rStrI [.int i] H Q := ⟨i, rfl, h, k⟩
def rIntS : List V → Hp → VK → Prop := fun xs H Q => ∃ a n, xs = [.str a] ∧ PySem.intText? a = some n ∧ a.length ≤ 640 ∧ Q (.int n) H
theorem kc_intS {X : Cx} : CallR X (.type "int") rIntS := call_int_str
theorem r_intS {a : Str} {n : Int} (h : PySem.intText? a = some n) (hl : a.length ≤ 640) (k : Q (.int n) H) : rIntS [.str a] H Q := ⟨a, n, rfl, h, hl, k⟩
theorem r_eqS {x y : Str} (k : Q (.bl (decide (x = y))) H) : rEqA K (.str x) (.str y) H Q := .inl ⟨rfl, by
  have e : decide (V.str x = V.str y) = decide (x = y) := by by_cases h : x = y <;> simp [h]
  rw [e]
  exact k⟩
theorem r_neS {x y : Str} (k : Q (.bl (!decide (x = y))) H) : rNeA K (.str x) (.str y) H Q := .inl ⟨rfl, by
  have e : decide (V.str x = V.str y) = decide (x = y) := by by_cases h : x = y <;> simp [h]
  rw [e]
  exact k⟩
theorem r_ixS {z : Str} {i : Int} {c : Nat} (hz : z.length ≤ sizeLine) (e : atI z.cps.toList i = some c) (k : Q (.str ⟨#[c]⟩) H) : rIx K (.str z) (.int i) H Q := .inr (.inr ⟨z, i, c, rfl, rfl, hz, e, k⟩)
theorem r_slS {z : Str} {lo hi : Option Int} (hz : z.length ≤ sizeLine) (k : Q (.str (cutS z lo hi)) H) : rSlAll K (.str z) lo hi H Q := .inr (.inr ⟨z, rfl, hz, k⟩)
theorem r_lenStr {z : Str} (hz : z.length ≤ sizeLine) (k : Q (.int z.length) H) : rLen K [.str z] H Q := .inr ⟨z, rfl, hz, k⟩
theorem r_addS {x y : Str} (hz : x.length + y.length ≤ sizeLine) (k : Q (.str (x ++ y)) H) : rAddA K (.str x) (.str y) H Q := .inr (.inl ⟨x, y, rfl, rfl, hz, k⟩)
theorem inV_strs (x : Str) : ∀ ys : List Str, inV (.str x) (ys.map V.str) = decide (x ∈ ys)
  | [] => by simp [inV]
  | a :: r => by
    have ih := inV_strs x r
    unfold inV at ih ⊢
    rw [List.map_cons, List.any_cons, ih]
    have e : eqV (.str a) (.str x) = decide (x = a) := by
      by_cases c : x = a
      · subst c
        simp [eqV]
      · have c2 : ¬ a = x := fun e => c e.symm
        simp [eqV, c, c2]
    rw [e]
    by_cases c : x = a
    · simp [c]
    · simp [c]
theorem flat_strs9 (ys : List Str) : (ys.map V.str).all flatV = true := by
  rw [List.all_map]
  exact List.all_eq_true.mpr fun _ _ => rfl
theorem r_notInT {a : Addr} {x : Str} {ys : List Str} (h : H a = some (.tup (ys.map V.str))) (k : Q (.bl (!decide (x ∈ ys))) H) : rIn K true (.str x) (.ref a) H Q := ⟨a, _, rfl, .inr (SqT.of h), rfl, flat_strs9 ys, by rw [inV_strs]; exact k⟩
theorem r_inT {a : Addr} {x : Str} {ys : List Str} (h : H a = some (.tup (ys.map V.str))) (k : Q (.bl (decide (x ∈ ys))) H) : rIn K false (.str x) (.ref a) H Q := ⟨a, _, rfl, .inr (SqT.of h), rfl, flat_strs9 ys, by rw [inV_strs]; exact k⟩
def rNSign : R2 := fun x y H Q => ∃ (c : Nat) (z : Str), x = .str ⟨#[c]⟩ ∧ y = .str z ∧ Q (.bl (!decide (c ∈ z.cps.toList))) H
theorem op_nsign {X : Cx} : OpR X (compareOp .NotIn) rNSign := op_notIn_sign
theorem r_nsign {c : Nat} {z : Str} (k : Q (.bl (!decide (c ∈ tl z))) H) : rNSign (.str ⟨#[c]⟩) (.str z) H Q := ⟨c, z, rfl, rfl, k⟩
theorem r_iStr {te : TE} {R : It → Hp → Prop} (k : te σ H fun y H1 => ∃ x, y = .str x ∧ R (Its x) H1) : iStr te σ H R := k
theorem lcw_str {g : TG} {tt : TT} {te : TE} {vs : List Nat} {σw : L2.St} {D : Addr} {H1 : Hp} {z : Str} (Pv : Nat → Hp → Prop) (hw : wipe σ vs = σw) (h0 : Pv 0 (upd H1 D (.lst [])))
    (hs : ∀ i c H, (tl z)[i]? = some c → Pv i H → g (.str ⟨#[c]⟩) σw H fun σ2 H2 => wipe σ2 vs = σw ∧ tt σ2 H2 fun b H3 =>
      if b = true then te σ2 H3 fun y H4 => ∃ acc, H4 D = some (.lst acc) ∧ acc.length < sizeLine ∧ Pv (i + 1) (upd H4 D (.lst (acc ++ [y]))) else Pv (i + 1) H3) (hd : ∀ H, Pv (tl z).length H → Q (.ref D) H) : LcW (Its z) g tt te vs σ Q D H1 := by
  subst hw
  have e : z.cps.size = (tl z).length := len_tl z
  refine lc_it walk_str Pv h0 (fun _ _ _ _ => trivial) (fun i x H H' hi p y => ?_) (fun H p => hd H (by rw [← e]; exact p))
  obtain ⟨rfl, c, hc, rfl⟩ := y
  exact hs i c H' (by rw [Array.getElem?_toList]; exact hc) p
def rJoin (K : PySem.W.Frag) : V → List V → Hp → VK → Prop := fun x xs H Q => ∃ a p, ∃ ys : List Str, x = .str a ∧ xs = [.ref p] ∧ (SqL K H p (ys.map V.str) ∨ SqT K H p (ys.map V.str)) ∧ (ys.map (·.length)).sum + ys.length * a.length ≤ 16777216 ∧ Q (.str (Txt.join a ys)) H
theorem kpe_join {X : Cx} {o e : Expr} {to te : TE} {apos pos : Pos} (h : X.K = K) (ho : PE X o to) (he : PE X e te) (hs : starEach [e] X.env = [(false, eval e X.env)] := by rfl) (hbase : attributeBase o "join" X.env (eval o X.env) = eval o X.env := by rfl) (hline : (apos.endLine == pos.line) = true := by rfl) :
    PE X (.Call (.Attribute o "join" apos) [e] [] pos) (tM1 (rJoin K) to te) := by subst h; exact pe_join ho he hs hbase hline
def rSplit : V → List V → Hp → VK → Prop := fun x xs H Q => ∃ a b, x = .str a ∧ xs = [.str b] ∧ (b.length == 0) = false ∧ a.length + 2 ≤ sizeLine ∧ rNewStrs (Txt.split a b) H Q
theorem kpe_split {X : Cx} {o e : Expr} {to te : TE} {apos pos : Pos} (ho : PE X o to) (he : PE X e te) (hs : starEach [e] X.env = [(false, eval e X.env)] := by rfl) (hbase : attributeBase o "split" X.env (eval o X.env) = eval o X.env := by rfl) (hline : (apos.endLine == pos.line) = true := by rfl) :
    PE X (.Call (.Attribute o "split" apos) [e] [] pos) (tM1 rSplit to te) := pe_split ho he hs hbase hline
theorem r_m1 {r : V → List V → Hp → VK → Prop} {to te : TE} (k : to σ H fun x H1 => (∃ a, x = .str a) ∧ te σ H1 fun y H2 => r x [y] H2 Q) : tM1 r to te σ H Q := k
theorem r_join {a : Str} {p : Addr} {ys : List Str} (h : SqL K H p (ys.map V.str)) (hz : (ys.map (·.length)).sum + ys.length * a.length ≤ 16777216) (k : Q (.str (Txt.join a ys)) H) : rJoin K (.str a) [.ref p] H Q := ⟨a, p, ys, rfl, rfl, .inl h, hz, k⟩
theorem r_split {a b : Str} (hb : (b.length == 0) = false) (hz : a.length + 2 ≤ sizeLine) (k : ∀ p, H p = none → Q (.ref p) (upd H p (.lst ((Txt.split a b).map V.str)))) : rSplit (.str a) [.str b] H Q := ⟨a, b, rfl, rfl, hb, hz, k⟩
/-- a module's text -/
structure CnS (mg : Str → Option Value) (x : Str) (i : Str) : Prop where
  ex : ∃ t, mg x = some (.str i t)
theorem pe_cnS {X : Cx} {x i : Str} {pos : Pos} (h : CnS X.mg x i) (hg : Gl X x) (hd : (x == ("__debug__" : Str)) = false := by decide) : PE X (.Name x pos) (tC (.str i)) := by
  obtain ⟨t, e⟩ := h.ex
  exact pe_glob hg e ⟨t, rfl⟩ hd
end
/-! ### words of moves -/
theorem tl_cut1 (z : Str) : tl (cutS z (some 1) none) = (tl z).drop 1 := by
  unfold cutS
  rw [tl_mk, show (1 : Int) = ((1 : Nat) : Int) from rfl, HT.sIx_nat, HT.sIx_none]
  rw [len_tl]
  by_cases h : 1 ≤ (tl z).length
  · rw [Nat.min_eq_left h, List.take_of_length_le (by rw [List.length_drop]; exact Nat.le_refl _)]
  · rw [Nat.min_eq_right (by omega), Nat.sub_self, List.take_zero, List.drop_of_length_le (by omega)]
theorem tl_cut01 (z : Str) : tl (cutS z none (some 1)) = (tl z).take 1 := by
  unfold cutS
  rw [tl_mk, show (1 : Int) = ((1 : Nat) : Int) from rfl, HT.sIx_nat, HT.sIx_none]
  rw [len_tl, List.drop_zero, Nat.sub_zero]
  by_cases h : 1 ≤ (tl z).length
  · rw [Nat.min_eq_left h]
  · rw [Nat.min_eq_right (by omega), List.take_of_length_le (Nat.le_refl _), List.take_of_length_le (by omega)]
def wordL (k : Int) : List Nat := if k = 0 then [48] else (if 0 < k then 43 else 45) :: numL k.natAbs
def wordS (k : Int) : Str := ⟨(wordL k).toArray⟩
theorem tl_word (k : Int) : tl (wordS k) = wordL k := rfl
def digit (c : Nat) : Bool := decide (48 ≤ c ∧ c ≤ 57)
/-- the move that a word writes -/
def stepsL (l : List Nat) : Option Int :=
  if l = [48] then some 0 else
  if l.take 1 = [43] ∨ l.take 1 = [45] then
    (if 1 ≤ (l.drop 1).length ∧ (l.drop 1).length ≤ 30 ∧ (l.drop 1).head? ≠ some 48 ∧ (l.drop 1).all digit = true then some (if l.take 1 = [43] then (NumText.digitsVal (l.drop 1) : Int) else 0 - (NumText.digitsVal (l.drop 1) : Int)) else none)
  else none
theorem numL_head {n : Nat} (h : 0 < n) : (numL n).head? ≠ some 48 := by
  induction n using Nat.strongRecOn with
  | _ n ih =>
    by_cases c : n < 10
    · rw [numL_lt c]
      show some (48 + n) ≠ some 48
      intro e
      have := Option.some.inj e
      omega
    · have a := ih (n / 10) (by omega) (by omega)
      have b := numL_ne (n / 10)
      rw [numL_step (by omega)]
      cases e : numL (n / 10) with
      | nil => exact absurd e b
      | cons x r =>
        rw [e] at a
        exact a
theorem allDigits_iff (l : List Nat) : l.all digit = true ↔ NumText.AllDigits l := by
  rw [List.all_eq_true]
  exact ⟨fun h c hc => of_decide_eq_true (h c hc), fun h c hc => decide_eq_true (h c hc)⟩
theorem stepsL_word {k : Int} (h : k.natAbs < 10 ^ 30) : stepsL (wordL k) = some k := by
  unfold wordL
  by_cases c : k = 0
  · rw [if_pos c, stepsL, if_pos rfl, c]
  · rw [if_neg c]
    have n0 : 0 < k.natAbs := by omega
    have hne : numL k.natAbs ≠ [] := numL_ne _
    have hl : 1 ≤ (numL k.natAbs).length := List.length_pos_iff.mpr hne
    have h30 : (numL k.natAbs).length ≤ 30 := numL_len (by decide) h
    have hd := (allDigits_iff _).mpr (numL_digits k.natAbs)
    unfold stepsL
    rw [if_neg (fun e => hne (List.cons.inj e).2)]
    by_cases p : 0 < k
    · rw [if_pos p, if_pos (.inl rfl)]
      have cond : 1 ≤ (List.drop 1 (43 :: numL k.natAbs)).length ∧ (List.drop 1 (43 :: numL k.natAbs)).length ≤ 30 ∧ (List.drop 1 (43 :: numL k.natAbs)).head? ≠ some 48 ∧ (List.drop 1 (43 :: numL k.natAbs)).all digit = true := ⟨hl, h30, numL_head n0, hd⟩
      rw [if_pos cond]
      show some (if ([43] : List Nat) = [43] then ((NumText.digitsVal (numL k.natAbs) : Nat) : Int) else 0 - ((NumText.digitsVal (numL k.natAbs) : Nat) : Int)) = _
      rw [if_pos rfl]
      show some ((NumText.digitsVal (numL k.natAbs) : Nat) : Int) = _
      rw [numL_val]
      congr 1
      omega
    · rw [if_neg p, if_pos (.inr rfl)]
      have cond : 1 ≤ (List.drop 1 (45 :: numL k.natAbs)).length ∧ (List.drop 1 (45 :: numL k.natAbs)).length ≤ 30 ∧ (List.drop 1 (45 :: numL k.natAbs)).head? ≠ some 48 ∧ (List.drop 1 (45 :: numL k.natAbs)).all digit = true := ⟨hl, h30, numL_head n0, hd⟩
      rw [if_pos cond]
      show some (if ([45] : List Nat) = [43] then ((NumText.digitsVal (numL k.natAbs) : Nat) : Int) else 0 - ((NumText.digitsVal (numL k.natAbs) : Nat) : Int)) = _
      rw [if_neg (by decide), numL_val]
      congr 1
      omega
theorem word_free (k : Int) : 32 ∉ wordL k := by
  unfold wordL
  split
  · decide
  · intro h
    rcases List.mem_cons.mp h with e | e
    · split at e <;> omega
    · exact numL_free (.inl (by decide)) e
theorem word_len {k : Int} (h : k.natAbs < 10 ^ 30) : (wordS k).length ≤ 31 := by
  rw [len_tl, tl_word, wordL]
  split
  · decide
  · rw [List.length_cons]
    have := numL_len (n := k.natAbs) (k := 30) (by decide) h
    omega
theorem word_ne (k : Int) : wordL k ≠ [] := by
  unfold wordL
  split
  · decide
  · exact List.cons_ne_nil _ _
/-- the text of moves -/
def textS (ms : List Int) : Str := Txt.join ⟨#[32]⟩ (ms.map wordS)
theorem textS_nil : textS [] = ⟨#[]⟩ := by decide +kernel
theorem tl_text (ms : List Int) : tl (textS ms) = joinL [32] (ms.map wordL) := by
  unfold textS
  rw [join_eq, tl_join, List.map_map]
  rfl
theorem split_text {ms : List Int} (h : ms ≠ []) : Txt.split (textS ms) ⟨#[32]⟩ = ms.map wordS := by
  refine split_join (y := ⟨#[32]⟩) (s := 32) (S := []) rfl (by decide +kernel) (fun e => h (List.map_eq_nil_iff.mp e)) fun p hp => ?_
  obtain ⟨k, _, rfl⟩ := List.mem_map.mp hp
  exact word_free k
theorem joinL_ne {ps : List (List Nat)} (h : ps ≠ []) (hp : ∀ p ∈ ps, p ≠ []) : joinL [32] ps ≠ [] := by
  match ps, h with
  | [p], _ => exact hp p List.mem_cons_self
  | p :: q :: r, _ =>
    intro e
    exact hp p List.mem_cons_self (List.append_eq_nil_iff.mp e).1
theorem text_ne {ms : List Int} (h : ms ≠ []) : textS ms ≠ ⟨#[]⟩ := fun e => by
  have := congrArg tl e
  rw [tl_text] at this
  exact joinL_ne (fun z => h (List.map_eq_nil_iff.mp z)) (fun p hp => by
    obtain ⟨k, _, rfl⟩ := List.mem_map.mp hp
    exact word_ne k) this
theorem joinL_len {c : Nat} : ∀ {ps : List (List Nat)}, (∀ p ∈ ps, p.length ≤ c) → (joinL [32] ps).length ≤ ps.length * (c + 1)
  | [], _ => Nat.zero_le _
  | [p], h => by
    have := h p List.mem_cons_self
    show p.length ≤ 1 * (c + 1)
    omega
  | p :: q :: r, h => by
    have a := h p List.mem_cons_self
    have b := joinL_len (ps := q :: r) fun z hz => h z (List.mem_cons_of_mem _ hz)
    show (p ++ ([32] ++ joinL [32] (q :: r))).length ≤ ((q :: r).length + 1) * (c + 1)
    rw [List.length_append, List.length_append, Nat.succ_mul]
    show p.length + (1 + _) ≤ _
    omega
theorem text_len {ms : List Int} (h : ∀ m ∈ ms, m.natAbs < 10 ^ 30) : (textS ms).length ≤ ms.length * 32 := by
  rw [len_tl, tl_text]
  have := joinL_len (c := 31) (ps := ms.map wordL) fun p hp => by
    obtain ⟨k, hk, rfl⟩ := List.mem_map.mp hp
    have := word_len (h k hk)
    rw [len_tl, tl_word] at this
    exact this
  rw [List.length_map] at this
  exact this
end Rd

/-! ## max of a list of lists of ints, min of a list of (int, list of ints) -/
namespace Rd
open PySem PySem.Spec L2 PyProof.Rows
/-- lists as they ascend -/
def ltL : List Int → List Int → Bool
  | [], [] => false
  | [], _ :: _ => true
  | _ :: _, [] => false
  | x :: xs, y :: ys => if x = y then ltL xs ys else decide (x < y)
theorem ltL_irrefl : ∀ a : List Int, ltL a a = false
  | [] => rfl
  | x :: xs => by
    rw [ltL, if_pos rfl]
    exact ltL_irrefl xs
theorem ltL_asym : ∀ a b : List Int, ltL a b = true → ltL b a = false
  | [], [], h => by cases h
  | [], _ :: _, _ => rfl
  | _ :: _, [], h => by cases h
  | x :: xs, y :: ys, h => by
    rw [ltL] at h ⊢
    by_cases e : x = y
    · rw [if_pos e] at h
      rw [if_pos e.symm]
      exact ltL_asym xs ys h
    · rw [if_neg e] at h
      rw [if_neg (Ne.symm e)]
      have := of_decide_eq_true h
      exact decide_eq_false (by omega)
theorem ltL_tri : ∀ a b : List Int, ltL a b = false → ltL b a = false → a = b
  | [], [], _, _ => rfl
  | [], _ :: _, h, _ => by cases h
  | _ :: _, [], _, h => by cases h
  | x :: xs, y :: ys, h, k => by
    rw [ltL] at h k
    by_cases e : x = y
    · rw [if_pos e] at h
      rw [if_pos e.symm] at k
      rw [e, ltL_tri xs ys h k]
    · rw [if_neg e] at h
      rw [if_neg (Ne.symm e)] at k
      have a := of_decide_eq_false h
      have b := of_decide_eq_false k
      omega
theorem ltL_trans : ∀ a b c : List Int, ltL a b = true → ltL b c = true → ltL a c = true
  | [], [], _, h, _ => by cases h
  | [], _ :: _, [], _, k => by cases k
  | [], _ :: _, _ :: _, _, _ => rfl
  | _ :: _, [], _, h, _ => by cases h
  | _ :: _, _ :: _, [], _, k => by cases k
  | x :: xs, y :: ys, z :: zs, h, k => by
    rw [ltL] at h k ⊢
    by_cases e : x = y
    · rw [if_pos e] at h
      by_cases f : y = z
      · rw [if_pos f] at k
        rw [if_pos (e.trans f)]
        exact ltL_trans xs ys zs h k
      · rw [if_neg f] at k
        rw [if_neg (by rw [e]; exact f), e]
        exact k
    · rw [if_neg e] at h
      have a := of_decide_eq_true h
      by_cases f : y = z
      · rw [if_neg (by rw [← f]; exact e), ← f]
        exact h
      · rw [if_neg f] at k
        have b := of_decide_eq_true k
        rw [if_neg (by omega)]
        exact decide_eq_true (by omega)
/-- not less, turned around, goes on -/
theorem ltL_le_trans {a b c : List Int} (h : ltL b a = false) (k : ltL c b = false) : ltL c a = false := by
  cases e : ltL c a with
  | false => rfl
  | true =>
    cases f : ltL a b with
    | true => rw [ltL_trans c a b e f] at k; cases k
    | false =>
      rw [ltL_tri a b f h] at e
      rw [e] at k
      cases k
theorem firstLt_map (e r : Nat → Bool) (fin : Bool) (f : Nat → Nat) : ∀ l : List Nat, SeqAt.firstLt e r fin (l.map f) = SeqAt.firstLt (fun j => e (f j)) (fun j => r (f j)) fin l
  | [] => rfl
  | j :: t => by
    rw [List.map_cons, SeqAt.firstLt, SeqAt.firstLt, firstLt_map e r fin f t]
theorem firstLt_gt : ∀ a b : List Int, SeqAt.firstLt (fun j => decide (a.getD j 0 = b.getD j 0)) (fun j => decide (b.getD j 0 < a.getD j 0)) (decide (a.length > b.length)) (List.range (min a.length b.length)) = ltL b a
  | [], [] => rfl
  | [], _ :: _ => rfl
  | _ :: xs, [] => by
    rw [ltL]
    show decide (xs.length + 1 > 0) = true
    exact decide_eq_true (Nat.succ_pos _)
  | x :: xs, y :: ys => by
    have ih := firstLt_gt xs ys
    rw [ltL]
    rw [List.length_cons, List.length_cons, Nat.succ_min_succ, List.range_succ_eq_map, SeqAt.firstLt]
    rw [firstLt_map]
    show (if decide (x = y) = true then SeqAt.firstLt (fun j => decide (xs.getD j 0 = ys.getD j 0)) (fun j => decide (ys.getD j 0 < xs.getD j 0)) (decide (xs.length + 1 > ys.length + 1)) (List.range (min xs.length ys.length)) else decide (y < x)) = _
    rw [show decide (xs.length + 1 > ys.length + 1) = decide (xs.length > ys.length) from decide_eq_decide.mpr (by omega), ih]
    by_cases e : x = y
    · rw [if_pos (decide_eq_true e), if_pos e.symm]
    · rw [if_neg (by rw [decide_eq_true_eq]; exact e), if_neg (Ne.symm e)]
theorem firstLt_lt (a b : List Int) : SeqAt.firstLt (fun j => decide (a.getD j 0 = b.getD j 0)) (fun j => decide (a.getD j 0 < b.getD j 0)) (decide (a.length < b.length)) (List.range (min a.length b.length)) = ltL a b := by
  have h := firstLt_gt b a
  rw [Nat.min_comm, ← h]
  congr 1
  funext j
  exact decide_eq_decide.mpr ⟨Eq.symm, Eq.symm⟩
theorem beq_dec (a b : Int) : (a == b) = decide (a = b) := by
  by_cases q : a = b
  · rw [decide_eq_true q]; exact beq_iff_eq.mpr q
  · rw [decide_eq_false q]; exact beq_eq_false_iff_ne.mpr q
section
variable {A : Around} {s : Shared} {t u : Addr} {its its2 : List Value} {a b : List Int}
theorem ints_gt (hl : s.heap.IsList t its.toArray) (hb : s.heap.IsList u its2.toArray) (i1 : IntsAre its a) (i2 : IntsAre its2 b) (hu : A.units < cLine) : SeqAt.RcOp .Gt A s (.ref t) (.ref u) (ltL b a) := by
  have e1 : its.toArray.size = a.length := by rw [List.size_toArray]; exact i1.length
  have e2 : its2.toArray.size = b.length := by rw [List.size_toArray]; exact i2.length
  have at1 : ∀ j (h1 : j < its.toArray.size), ∃ t, its.toArray[j] = .int (a.getD j 0) t := fun j h1 => PyProof.Rows.IntsAre.int_at i1 _ _ (by simp at h1; simp [h1])
  have at2 : ∀ j (h1 : j < its2.toArray.size), ∃ t, its2.toArray[j] = .int (b.getD j 0) t := fun j h1 => PyProof.Rows.IntsAre.int_at i2 _ _ (by simp at h1; simp [h1])
  have R := SeqAt.RcOp.lists_gt (A := A) (s := s) (e := fun j => decide (a.getD j 0 = b.getD j 0)) (r := fun j => decide (b.getD j 0 < a.getD j 0)) hl hb hu (fun j h1 h2 => by
    obtain ⟨t, et⟩ := at1 j h1
    obtain ⟨t', et'⟩ := at2 j h2
    rw [et, et', ← beq_dec]
    exact SeqAt.EqAt.int_int _ _ _ _) (fun j h1 h2 _ => by
    obtain ⟨t, et⟩ := at1 j h1
    obtain ⟨t', et'⟩ := at2 j h2
    rw [et, et']
    exact fun _ _ _ _ h => PyProof.Rows.gt_int h)
  rw [e1, e2, firstLt_gt] at R
  exact R
theorem ints_lt (hl : s.heap.IsList t its.toArray) (hb : s.heap.IsList u its2.toArray) (i1 : IntsAre its a) (i2 : IntsAre its2 b) (hu : A.units < cLine) : SeqAt.RcLt A s (.ref t) (.ref u) (ltL a b) := by
  have e1 : its.toArray.size = a.length := by rw [List.size_toArray]; exact i1.length
  have e2 : its2.toArray.size = b.length := by rw [List.size_toArray]; exact i2.length
  have at1 : ∀ j (h1 : j < its.toArray.size), ∃ t, its.toArray[j] = .int (a.getD j 0) t := fun j h1 => PyProof.Rows.IntsAre.int_at i1 _ _ (by simp at h1; simp [h1])
  have at2 : ∀ j (h1 : j < its2.toArray.size), ∃ t, its2.toArray[j] = .int (b.getD j 0) t := fun j h1 => PyProof.Rows.IntsAre.int_at i2 _ _ (by simp at h1; simp [h1])
  have R := SeqAt.RcLt.lists (A := A) (s := s) (e := fun j => decide (a.getD j 0 = b.getD j 0)) (r := fun j => decide (a.getD j 0 < b.getD j 0)) hl hb hu (fun j h1 h2 => by
    obtain ⟨t, et⟩ := at1 j h1
    obtain ⟨t', et'⟩ := at2 j h2
    rw [et, et', ← beq_dec]
    exact SeqAt.EqAt.int_int _ _ _ _) (fun j h1 h2 _ => by
    obtain ⟨t, et⟩ := at1 j h1
    obtain ⟨t', et'⟩ := at2 j h2
    rw [et, et']
    exact fun _ _ _ _ h => PyProof.Rows.lt_int h)
  rw [e1, e2, firstLt_lt] at R
  exact R
end
/-- the first of the best by an order whose «not less» goes on -/
theorem argBest_le {lt : Nat → Nat → Bool} (as : ∀ i j, lt i j = true → lt j i = false) (tr : ∀ i j k, lt j i = false → lt k j = false → lt k i = false) : ∀ k, argBest lt k ≤ k ∧ ∀ j, j ≤ k → lt j (argBest lt k) = false
  | 0 => ⟨Nat.le_refl _, fun j hj => by
    have e : j = 0 := by omega
    subst e
    cases h : lt 0 0 with
    | false => exact h
    | true => exact absurd (as 0 0 h) (by rw [h]; exact Bool.noConfusion)⟩
  | k + 1 => by
    obtain ⟨h1, h2⟩ := argBest_le as tr k
    simp only [argBest]
    have self : ∀ i, lt i i = false := fun i => by
      cases h : lt i i with
      | false => rfl
      | true => rw [as i i h] at h; cases h
    cases hc : lt (k + 1) (argBest lt k) with
    | true =>
      rw [if_pos rfl]
      refine ⟨Nat.le_refl _, fun j hj => ?_⟩
      rcases Nat.lt_or_ge j (k + 1) with hlt | hge
      · exact tr _ _ _ (as _ _ hc) (h2 j (by omega))
      · have : j = k + 1 := by omega
        rw [this]
        exact self _
    | false =>
      rw [if_neg Bool.false_ne_true]
      refine ⟨by omega, fun j hj => ?_⟩
      rcases Nat.lt_or_ge j (k + 1) with hlt | hge
      · exact h2 j (by omega)
      · have : j = k + 1 := by omega
        rw [this]
        exact hc
/-! ### the rules -/
/-- lists of ints at the addresses as, by number -/
def Rows (H : Hp) (as : List Addr) (rows : List (List Int)) : Prop := as.length = rows.length ∧ ∀ (i : Nat) (a : Addr) (row : List Int), as[i]? = some a → rows[i]? = some row → H a = some (.lst (row.map V.int))
def rMaxLL (K : PySem.W.Frag) (vs : List V) (H : Hp) (Q : VK) : Prop := ∃ (l : Addr) (as : List Addr) (rows : List (List Int)), vs = [.ref l] ∧ SqL K H l (as.map V.ref) ∧ Rows H as rows ∧ 0 < rows.length ∧
  ∀ (i : Nat) (a : Addr) (row : List Int), as[i]? = some a → rows[i]? = some row → (∀ r ∈ rows, ltL row r = false) → Q (.ref a) H
/-- pairs of a number and a list of ints at the addresses ts -/
def NRows (H : Hp) (ts : List Addr) (as : List Addr) (rows : List (Int × List Int)) : Prop := ts.length = rows.length ∧ as.length = rows.length ∧ ∀ (i : Nat) (t a : Addr) (row : Int × List Int), ts[i]? = some t → as[i]? = some a → rows[i]? = some row →
  H t = some (.tup [.int row.1, .ref a]) ∧ H a = some (.lst (row.2.map V.int))
def rMinTL (K : PySem.W.Frag) (vs : List V) (H : Hp) (Q : VK) : Prop := ∃ (l : Addr) (ts as : List Addr) (rows : List (Int × List Int)), vs = [.ref l] ∧ SqL K H l (ts.map V.ref) ∧ NRows H ts as rows ∧ 0 < rows.length ∧
  ∀ (i : Nat) (t : Addr) (row : Int × List Int), ts[i]? = some t → rows[i]? = some row → (∀ r ∈ rows, ltL (r.1 :: r.2) (row.1 :: row.2) = false) → Q (.ref t) H
theorem map_ref_at {as : List Addr} {its : List Value} {i : Nat} {a : Addr} (r : Vals (as.map V.ref) its) (h : as[i]? = some a) : its[i]? = some (.ref a) := by
  obtain ⟨u, h1, h2⟩ := Vals.get r (i := i) (x := .ref a) (by rw [List.getElem?_map, h] <;> rfl)
  rw [h1, show u = Value.ref a from h2]
theorem eqv_ints : ∀ a b : List Int, PyData.eqv (dInts a) (dInts b) = decide (a = b) := by
  intro a b
  have e : PyData.eqvAll (a.map PyData.int) (b.map PyData.int) = decide (a = b) := by
    induction a generalizing b with
    | nil =>
      cases b with
      | nil => rfl
      | cons y ys => rfl
    | cons x xs ih =>
      cases b with
      | nil => rfl
      | cons y ys =>
        rw [List.map_cons, List.map_cons, PyData.eqvAll, ih ys]
        simp only [PyData.eqv, List.cons.injEq]
        rw [beq_dec]
        by_cases h1 : x = y
        · by_cases h2 : xs = ys
          · simp [h1, h2]
          · simp [h1, h2]
        · simp [h1]
  unfold dInts
  rw [PyData.eqv]
  exact e
section
variable {X : Cx}
theorem cr_maxLL (hc : X.calm = true) (hu : X.A.units + 64 < cLine) : CallR X (.builtin "max") (rMaxLL X.K) := by
  intro pins s σ H xs us Q I r h
  obtain ⟨l, as, rows, rfl, hl, hR, h0, q⟩ := h
  obtain ⟨hlen, hR⟩ := hR
  rw [Vals.ref1 r]
  obtain ⟨its, rv, pl, _⟩ := I.list hl
  have hn : its.toArray.size = rows.length := by rw [List.size_toArray, ← rv.length, List.length_map]; exact hlen
  have item : ∀ (i : Nat) (v : Value), its.toArray[i]? = some v → ∃ a row iA, as[i]? = some a ∧ rows[i]? = some row ∧ v = .ref a ∧ IntsAre iA row ∧ s.heap.IsList a iA.toArray := fun i v hv => by
    have hi : i < rows.length := by
      rw [← hn]
      exact (Array.getElem?_eq_some_iff.mp hv).1
    obtain ⟨a, ha⟩ : ∃ a, as[i]? = some a := ⟨_, List.getElem?_eq_getElem (by omega)⟩
    obtain ⟨row, hrow⟩ : ∃ row, rows[i]? = some row := ⟨_, List.getElem?_eq_getElem hi⟩
    obtain ⟨iA, ra, pa, _⟩ := I.list (SqL.of (hR i a row ha hrow))
    have hv' : its[i]? = some v := by simpa using hv
    rw [map_ref_at rv ha] at hv'
    exact ⟨a, row, iA, ha, hrow, (Option.some.inj hv').symm, Vals.ints ra, pa.isList⟩
  refine call_max_walkH (PySem.W.iter_listW (A := X.A.in1) (I.ok.hd hc) pl.isList fun s₂ e W st hfp hw hk => ?_)
  refine ⟨_, _, _, _, _, _, _, s.heap, fun i j => ltL (rows.getD j []) (rows.getD i []), rfl, W, st, hfp, by omega, hw, hk, fun i j vi vj s' Q' E' hk' hi hj hq => ?_, fun v s' hP m => ?_⟩
  · obtain ⟨a, ra, iA, _, h2, rfl, h4, h5⟩ := item i vi hi
    obtain ⟨b, rb, iB, _, g2, rfl, g4, g5⟩ := item j vj hj
    have e1 : rows.getD i [] = ra := by rw [List.getD_eq_getElem?_getD, h2] <;> rfl
    have e2 : rows.getD j [] = rb := by rw [List.getD_eq_getElem?_getD, g2] <;> rfl
    dsimp only at hq
    rw [e1, e2] at hq
    exact ints_gt (A := X.A.in1) (h5.at fun o e => hk' _ _ e) (g5.at fun o e => hk' _ _ e) h4 g4 (show X.A.units + 1 < cLine by omega) _ _ _ _ hq
  · obtain ⟨h', tk, rfl, hk'⟩ := PySem.W.moved_old e rfl m
    obtain ⟨a, row, iA, h1, h2, rfl, _, _⟩ := item _ v hP
    obtain ⟨b1, b2⟩ := argBest_le (lt := fun i j => ltL (rows.getD j []) (rows.getD i [])) (fun i j => ltL_asym _ _) (fun i j k h h' => ltL_le_trans h' h) (its.toArray.size - 1)
    refine ⟨.ref a, H, I.kept (t' := tk) hk', rfl, q _ a row h1 h2 fun r hr => ?_⟩
    obtain ⟨j, hj, ej⟩ := List.mem_iff_getElem.mp hr
    have := b2 j (by omega)
    have e1 : rows.getD j [] = r := by rw [List.getD_eq_getElem?_getD, List.getElem?_eq_getElem hj, ← ej] <;> rfl
    have e2 : rows.getD (argBest (fun i j => ltL (rows.getD j []) (rows.getD i [])) (its.toArray.size - 1)) [] = row := by rw [List.getD_eq_getElem?_getD, h2] <;> rfl
    rw [← e1, ← e2]
    exact this
theorem cr_minTL (hc : X.calm = true) (hu : X.A.units + 64 < cLine) : CallR X (.builtin "min") (rMinTL X.K) := by
  intro pins s σ H xs us Q I r h
  obtain ⟨l, ts, as, rows, rfl, hl, hR, h0, q⟩ := h
  obtain ⟨hlen, hlenA, hR⟩ := hR
  rw [Vals.ref1 r]
  obtain ⟨its, rv, pl, _⟩ := I.list hl
  have hn : its.toArray.size = rows.length := by rw [List.size_toArray, ← rv.length, List.length_map]; exact hlen
  have item : ∀ (i : Nat) (v : Value), its.toArray[i]? = some v → ∃ t row a tk iA rs, ts[i]? = some t ∧ rows[i]? = some row ∧ v = .ref t ∧ s.heap.IsTuple t #[.int row.1 tk, .ref a] ∧ IntsAre iA row.2 ∧ s.heap.IsList a iA.toArray ∧ Reads s.heap (.ref a) (dInts row.2) rs := fun i v hv => by
    have hi : i < rows.length := by
      rw [← hn]
      exact (Array.getElem?_eq_some_iff.mp hv).1
    obtain ⟨t, ht⟩ : ∃ t, ts[i]? = some t := ⟨_, List.getElem?_eq_getElem (by omega)⟩
    obtain ⟨a, ha⟩ : ∃ a, as[i]? = some a := ⟨_, List.getElem?_eq_getElem (by omega)⟩
    obtain ⟨row, hrow⟩ : ∃ row, rows[i]? = some row := ⟨_, List.getElem?_eq_getElem hi⟩
    obtain ⟨e1, e2⟩ := hR i t a row ht ha hrow
    obtain ⟨iA, ra, pa, _⟩ := I.list (SqL.of e2)
    obtain ⟨iT, rT, pT, _⟩ := I.tuple (SqT.of e1)
    obtain ⟨rs, hrs⟩ := Dp.reads I _ _ (.ref a) (Is.dp (K := X.K) _ _ (Is.ints e2)) rfl
    have hv' : its[i]? = some v := by simpa using hv
    rw [map_ref_at rv ht] at hv'
    cases rT with
    | cons r1 rr =>
      cases rr with
      | cons r2 rr =>
        cases rr
        obtain ⟨tk, rfl⟩ := r1
        obtain rfl := r2
        exact ⟨t, row, a, tk, iA, rs, ht, hrow, (Option.some.inj hv').symm, pT, Vals.ints ra, pa.isList, hrs⟩
  refine call_min_walkH (PySem.W.iter_listW (A := X.A.in1) (I.ok.hd hc) pl.isList fun s₂ e W st hfp hw hk => ?_)
  refine ⟨_, _, _, _, _, _, _, s.heap, fun i j => ltL ((rows.getD i (0, [])).1 :: (rows.getD i (0, [])).2) ((rows.getD j (0, [])).1 :: (rows.getD j (0, [])).2), rfl, W, st, hfp, by omega, hw, hk, fun i j vi vj s' Q' E' hk' hi hj hq => ?_, fun v s' hP m => ?_⟩
  · obtain ⟨t, ra, a, k1, iA, rs, _, h2, rfl, h4, h5, h6, h7⟩ := item i vi hi
    obtain ⟨u, rb, b, k2, iB, rs2, _, g2, rfl, g4, g5, g6, g7⟩ := item j vj hj
    have e1 : rows.getD i (0, []) = ra := by rw [List.getD_eq_getElem?_getD, h2] <;> rfl
    have e2 : rows.getD j (0, []) = rb := by rw [List.getD_eq_getElem?_getD, g2] <;> rfl
    dsimp only at hq
    rw [e1, e2] at hq
    have R := SeqAt.RcLt.tuples (A := X.A.in1) (s := s') (e := fun j => if j = 0 then decide (ra.1 = rb.1) else decide (ra.2 = rb.2)) (r := fun j => if j = 0 then decide (ra.1 < rb.1) else ltL ra.2 rb.2) (h4.at fun o e => hk' _ _ e) (g4.at fun o e => hk' _ _ e) (show X.A.units + 1 < cLine by omega)
      (fun j p1 p2 => by
        have hj : j < 2 := p1
        match j, hj with
        | 0, _ => rw [if_pos rfl, ← beq_dec]; exact SeqAt.EqAt.int_int _ _ _ _
        | 1, _ =>
          rw [if_neg (by decide), ← eqv_ints]
          exact SeqAt.eqAt_reads _ _ _ _ _ _ _ _ (PySem.W.reads_keeps hk' h7) (PySem.W.reads_keeps hk' g7) (Fl.ints 0 _).1 (Fl.ints 0 _).1 (by
            have := (Fl.ints 0 ra.2).2
            have := Nat.min_le_left (dInts ra.2).depth (dInts rb.2).depth
            show X.A.units + 1 + 1 + _ < cLine
            omega))
      (fun j p1 p2 _ => by
        have hj : j < 2 := p1
        match j, hj with
        | 0, _ => rw [if_pos rfl]; exact fun _ _ _ _ h => PyProof.Rows.lt_int h
        | 1, _ => rw [if_neg (by decide)]; exact ints_lt (A := X.A.in1.in1) (h6.at fun o e => hk' _ _ e) (g6.at fun o e => hk' _ _ e) h5 g5 (show X.A.units + 1 + 1 < cLine by omega))
    have eR : SeqAt.firstLt (fun j => if j = 0 then decide (ra.1 = rb.1) else decide (ra.2 = rb.2)) (fun j => if j = 0 then decide (ra.1 < rb.1) else ltL ra.2 rb.2) (decide (2 < 2)) (List.range (min 2 2)) = ltL (ra.1 :: ra.2) (rb.1 :: rb.2) := by
      show (if decide (ra.1 = rb.1) = true then (if decide (ra.2 = rb.2) = true then false else ltL ra.2 rb.2) else decide (ra.1 < rb.1)) = _
      rw [ltL]
      by_cases c : ra.1 = rb.1
      · rw [if_pos (decide_eq_true c), if_pos c]
        by_cases d : ra.2 = rb.2
        · rw [if_pos (decide_eq_true d), d, ltL_irrefl]
        · rw [if_neg (by rw [decide_eq_true_eq]; exact d)]
      · rw [if_neg (by rw [decide_eq_true_eq]; exact c), if_neg c]
    have R2 : SeqAt.RcLt X.A.in1 s' (.ref t) (.ref u) (SeqAt.firstLt (fun j => if j = 0 then decide (ra.1 = rb.1) else decide (ra.2 = rb.2)) (fun j => if j = 0 then decide (ra.1 < rb.1) else ltL ra.2 rb.2) (decide (2 < 2)) (List.range (min 2 2))) := R
    rw [eR] at R2
    exact R2 _ _ _ _ hq
  · obtain ⟨h', tk, rfl, hk'⟩ := PySem.W.moved_old e rfl m
    obtain ⟨t, row, a, _, _, _, h1, h2, rfl, _⟩ := item _ v hP
    obtain ⟨b1, b2⟩ := argBest_le (lt := fun i j => ltL ((rows.getD i (0, [])).1 :: (rows.getD i (0, [])).2) ((rows.getD j (0, [])).1 :: (rows.getD j (0, [])).2)) (fun i j => ltL_asym _ _) (fun i j k h h' => ltL_le_trans h h') (its.toArray.size - 1)
    refine ⟨.ref t, H, I.kept (t' := tk) hk', rfl, q _ t row h1 h2 fun r hr => ?_⟩
    obtain ⟨j, hj, ej⟩ := List.mem_iff_getElem.mp hr
    have := b2 j (by omega)
    have e1 : rows.getD j (0, []) = r := by rw [List.getD_eq_getElem?_getD, List.getElem?_eq_getElem hj, ← ej] <;> rfl
    have e2 : rows.getD (argBest (fun i j => ltL ((rows.getD i (0, [])).1 :: (rows.getD i (0, [])).2) ((rows.getD j (0, [])).1 :: (rows.getD j (0, [])).2)) (its.toArray.size - 1)) (0, []) = row := by rw [List.getD_eq_getElem?_getD, h2] <;> rfl
    rw [e1, e2] at this
    exact this
end
section
variable {X : Cx} {K : PySem.W.Frag}
theorem kc_maxLL (h : X.K = K) (hc : X.calm = true) (hu : X.A.units + 64 < cLine) : CallR X (.builtin "max") (rMaxLL K) := by subst h; exact cr_maxLL hc hu
theorem kc_minTL (h : X.K = K) (hc : X.calm = true) (hu : X.A.units + 64 < cLine) : CallR X (.builtin "min") (rMinTL K) := by subst h; exact cr_minTL hc hu
theorem kop_notIn (h : X.K = K) : OpR X (compareOp .NotIn) (rIn K true) := by subst h; exact op_notIn_seq
theorem kop_in (h : X.K = K) : OpR X (compareOp .In) (rIn K false) := by subst h; exact op_in_seq
end
section
variable {K : PySem.W.Frag} {H : Hp} {Q : VK}
theorem inV_ints (n : Int) : ∀ ns : List Int, inV (.int n) (ns.map V.int) = decide (n ∈ ns) := by
  intro ns
  induction ns with
  | nil => rfl
  | cons k r ih =>
    have e : inV (.int n) (V.int k :: r.map V.int) = (decide (n = k) || inV (.int n) (r.map V.int)) := by
      unfold inV
      rw [List.any_cons]
      congr 1
      first
        | rfl
        | (simp [eqV]; done)
        | (by_cases q : n = k
           · simp [eqV, q]
           · simp [eqV, q, Ne.symm q])
    rw [List.map_cons, e, ih]
    by_cases c : n = k
    · simp [c]
    · simp [c]
theorem flat_ints (ns : List Int) : (ns.map V.int).all flatV = true := by
  rw [List.all_map, List.all_eq_true]
  intro x _
  rfl
theorem r_notIn {a : Addr} {n : Int} {ns : List Int} (h : SqL K H a (ns.map V.int) ∨ SqT K H a (ns.map V.int)) (k : Q (.bl (!decide (n ∈ ns))) H) : rIn K true (.int n) (.ref a) H Q := by
  refine ⟨a, _, rfl, h, rfl, flat_ints ns, ?_⟩
  rw [if_pos rfl, inV_ints]
  exact k
theorem r_extend {l b : Addr} {xs zs : List V} (h : H l = some (.lst xs)) (hb : H b = some (.lst zs)) (hz : xs.length + zs.length ≤ sizeLine) (k : ∀ H', H' l = some (.lst (xs ++ zs)) → (∀ b o, b ≠ l → H b = some o → H' b = some o) → Q .non H') : rExtend (.ref l) [.ref b] H Q :=
  ⟨l, b, xs, zs, rfl, rfl, h, hb, hz, k _ upd_same fun b o n q => at_wr n q⟩
/-- xs == [], xs a list of ints -/
theorem r_eqNil {a b : Addr} {ns : List Int} (h : H a = some (.lst (ns.map V.int))) (h2 : H b = some (.lst [])) (k : Q (.bl (decide (ns = []))) H) : rEqA K (.ref a) (.ref b) H Q := by
  refine .inr ⟨dInts ns, .list [], Is.dp _ _ (Is.ints h), Is.dp _ _ (.lst h2 .nil), (Fl.ints 0 ns).shaped (by decide), (Fl.list (n := 0) (ds := []) (by simp)).shaped (by decide), ?_⟩
  have e : PyData.eqv (dInts ns) (.list []) = decide (ns = []) := by
    cases ns with
    | nil => simp [dInts, PyData.eqv, PyData.eqvAll]
    | cons n r => simp [dInts, PyData.eqv, PyData.eqvAll]
  rw [e]
  exact k
theorem NRows.mono {H' : Hp} {ts as : List Addr} {rows : List (Int × List Int)} (h : NRows H ts as rows) (R : ∀ b o, H b = some o → (∃ i : Nat, ts[i]? = some b ∨ as[i]? = some b) → H' b = some o) : NRows H' ts as rows :=
  ⟨h.1, h.2.1, fun i t a row h1 h2 h3 => ⟨R _ _ (h.2.2 i t a row h1 h2 h3).1 ⟨i, .inl h1⟩, R _ _ (h.2.2 i t a row h1 h2 h3).2 ⟨i, .inr h2⟩⟩⟩
theorem NRows.nil : NRows H [] [] [] := ⟨rfl, rfl, fun i t a row h => by simp at h⟩
theorem at_snoc {α : Type} {l : List α} {x y : α} {i : Nat} (h : (l ++ [x])[i]? = some y) : l[i]? = some y ∧ i < l.length ∨ i = l.length ∧ y = x := by
  rw [List.getElem?_append] at h
  by_cases c : i < l.length
  · rw [if_pos c] at h
    exact .inl ⟨h, c⟩
  · rw [if_neg c] at h
    have : i - l.length = 0 := by
      cases e : i - l.length with
      | zero => rfl
      | succ n => rw [e] at h; simp at h
    rw [this] at h
    exact .inr ⟨by omega, by simpa using h.symm⟩
theorem NRows.snoc {ts as : List Addr} {rows : List (Int × List Int)} {t a : Addr} {row : Int × List Int} (h : NRows H ts as rows) (h1 : H t = some (.tup [.int row.1, .ref a])) (h2 : H a = some (.lst (row.2.map V.int))) : NRows H (ts ++ [t]) (as ++ [a]) (rows ++ [row]) := by
  obtain ⟨l1, l2, at_⟩ := h
  refine ⟨by simp [l1], by simp [l2], fun i t' a' row' e1 e2 e3 => ?_⟩
  rcases at_snoc e1 with ⟨f1, g1⟩ | ⟨f1, rfl⟩
  · rcases at_snoc e2 with ⟨f2, g2⟩ | ⟨f2, rfl⟩
    · rcases at_snoc e3 with ⟨f3, g3⟩ | ⟨f3, rfl⟩
      · exact at_ i _ _ _ f1 f2 f3
      · omega
    · omega
  · rcases at_snoc e2 with ⟨f2, g2⟩ | ⟨f2, rfl⟩
    · omega
    · rcases at_snoc e3 with ⟨f3, g3⟩ | ⟨f3, rfl⟩
      · omega
      · exact ⟨h1, h2⟩
end
end Rd

/-! ## min(xs, key=lambda x: (abs(x), 0 - x)), xs a list of ints -/
namespace Rd
open PySem PySem.Spec L2 PyProof.Rows LamX
/-- the order of the keys (abs(x), 0 - x), as one number -/
def cod (n : Int) : Int := 2 * (n.natAbs : Int) + (if n < 0 then 1 else 0)
theorem cod_lt (n m : Int) : cod n < cod m ↔ (n.natAbs : Int) < m.natAbs ∨ ((n.natAbs : Int) = m.natAbs ∧ 0 - n < 0 - m) := by
  unfold cod
  split <;> split <;> omega
theorem cod_inj {n m : Int} (h : cod n = cod m) : n = m := by
  unfold cod at h
  split at h <;> split at h <;> omega
/-- an address that no frame, no cell and no pin of the context is -/
structure Loose (X : Cx) (pins : List (Addr × Obj)) (b : Addr) : Prop where
  hi : X.s_0.heap.objs.size ≤ b
  nl : b ≠ X.env.locals
  nc : ∀ x c, X.env.cells.lookup x = some c → c ≠ b
  np : ∀ p ∈ X.pn ++ pins, p.1 ≠ b
  nf : b ∉ X.fs
  ns : b ∉ frs X.stack
section
variable {X : Cx} {pins : List (Addr × Obj)} {σ : L2.St} {H : Hp} {s : Shared}
theorem Loose.of (I : Inv X pins σ H s) {b : Addr} (h : s.heap.objs.size ≤ b) : Loose X pins b where
  hi := Nat.le_trans I.sz h
  nl := Nat.ne_of_gt (Nat.lt_of_lt_of_le I.lt h)
  nc := fun x c e z => by
    obtain ⟨v, o, ho, _⟩ := I.cell x c e
    have h1 := Heap.lt_size ho
    rw [z] at h1
    exact Nat.lt_irrefl _ (Nat.lt_of_lt_of_le h1 h)
  np := fun p hp z => by
    have h1 := Heap.lt_size (I.pin p hp).1
    rw [z] at h1
    exact Nat.lt_irrefl _ (Nat.lt_of_lt_of_le h1 h)
  nf := I.nofs h
  ns := fun z => by
    rcases List.mem_cons.mp (I.stkSub _ z) with e | e
    · have h1 := I.lt
      rw [← e] at h1
      exact Nat.lt_irrefl _ (Nat.lt_of_lt_of_le h1 h)
    · exact I.nofs h e
theorem Inv.moved {wr : List Addr} {s' : Shared} (I : Inv X pins σ H s) (hw : ∀ b ∈ wr, Loose X pins b ∧ H b = none) (m : Moved wr (fun a b => b = a) s s') : Inv X pins σ H s' := by
  have nw : ∀ b, (∃ u, H b = some u) → b ∉ wr := fun b ⟨u, e⟩ z => by
    rw [(hw b z).2] at e
    cases e
  have J : Inv X pins σ H { s with heap := s'.heap, gens := s'.gens, drawn := s'.drawn, toks := s'.toks } := by
    refine I.step (ch := wr) (fun b hb => ⟨.inr (hw b hb).1.hi, (hw b hb).1.nl, (hw b hb).1.nc, (hw b hb).1.np⟩) (fun b o _ _ nb e _ => m.heap b o nb e) (fun b o _ _ nb e _ => ⟨o.slots, m.heap b o nb e⟩) (fun b o _ _ e => e)
      (fun b o nb e => ⟨o, m.heap b o nb e⟩) (fun _ _ e => e) (fun _ _ _ e => e) (fun b ps e => ⟨#[], by rw [Array.append_empty]; exact e⟩) (fun mm hn => ?_) (fun b u e => ?_) (by rw [m.gens]; exact I.bare)
    · obtain ⟨ob, es, ep, ho, r⟩ := hn
      exact ⟨ob, es, ep, m.heap _ ob (fun z => (hw _ z).1.nl rfl) ho, r⟩
    · refine (I.hok b u e).stay (fun d v hd q => m.heap d v ?_ q) (fun d q => q) fun d xs q => q
      rcases hd with z | z
      · rw [z]
        exact nw b ⟨u, e⟩
      · exact nw d ⟨_, z⟩
  have e : s' = { s with heap := s'.heap, gens := s'.gens, drawn := s'.drawn, toks := s'.toks } := by
    have := m.os
    cases s'
    cases s
    cases this
    rfl
  rw [e]
  exact J
/-- behind a call, the state itself -/
theorem Inv.behind {s' : Shared} {Q : VK} {u : Value} (I : Inv X pins σ H s) (h : CE X.stack X.prog X.w H s Q u s') : ∃ v H', Inv X pins σ H' s' ∧ Un (frs X.stack) [] H H' s.heap s'.heap ∧ RelV v u ∧ Q v H' := by
  obtain ⟨v, H', os, bare, un, hok, r, q⟩ := h
  obtain ⟨hh, g, d, t, os'⟩ := s'
  obtain rfl : os' = s.os := os
  exact ⟨v, H', I.call (h' := hh) (g' := g) (d' := d) (t' := t) (ch := []) un hok bare (fun b z => absurd z (by simp)), un, r, q⟩
/-- a lambda of one parameter is called -/
theorem lam1_run {P : Program} {w : World} {K : PySem.W.Frag} {mg : Str → Option Value} {base : Heap} {A : Around} {outer : List Env} {H : Hp} {s : Shared} {q a : Str} {f c' : Addr} {pm ctv : Value} {params : Arguments} {body : Expr} {scope : Scope} {k : Nat} {tb : TE} {v : V} {u : Value} {Q : VK}
    (e0 : Env0 P w K mg base A outer s H) (hr : Room (k + 1) A) (S : FnScope [a] [a] scope) (hf : s.heap.get? f = some (PySem.W.kla_obj "<lambda>" q params body scope [] pm c' ctv)) (hc : H c' = some (CodeO c' q))
    (hbind : ∀ u, bindArgs (PySem.W.kla_fn "<lambda>" q params body scope [] pm (.ref c') ctv) ⟨[u], []⟩ = pure [(a, u)])
    (hbody : PE (cxOf L2.CX0 P w K mg base [a] q scope f (.ref c') A outer s H L2.E0) body tb)
    (r : RelV v u) (h : tb [some v] H Q) :
    codeAny (model P w) A (.call (.ref f) ⟨[u], []⟩) (CR L2.CX0 outer P w H s Q L2.E0) s := by
  have lim : s.heap.NoLimit := e0.mod.nolimit.keeps fun b o e => (e0.bs b o e).1
  obtain ⟨⟨oc, vs, t, hoc, hdc, hvc⟩, _, _⟩ := e0.hok c' _ hc
  refine PySem.W.kla_callFunE hr.depth hf rfl S.co S.gen rfl ⟨c', oc, vs, t, rfl, hoc, hdc, hvc⟩ ?_
  rw [hbind]
  refine wpAny_pure ?_
  have hkind : ∀ y ∈ [(a, u)], scope.names.lookup y.1 = some .local ∨ (scope.names.lookup y.1 = some .cell ∧ ((cellsFrom (s.heap.objs.size + 1) scope.names []).lookup y.1).isSome = true) := fun y hy => by
    rw [List.mem_singleton.mp hy]
    rcases S.par a (List.mem_singleton.mpr rfl) with z | z
    · exact .inl z
    · exact .inr ⟨z, PySem.W.cellsFrom_some _ _ _ (.inl z)⟩
  refine wpAny_newFunctionEnv_cells S.kind hkind fun env he s1 x => ?_
  subst he
  refine ⟨lim.keeps x.toInCall.keep, ?_⟩
  have I : Inv (cxOf L2.CX0 P w K mg base [a] q scope f (.ref c') A outer s H L2.E0) [] (L2.start [a] [v]) H s1 := inv_start (us := [u]) S hr.hd e0 rfl (.cons r .nil) x
  refine PySem.W.kla_codeExpr (wpAny_mono (hbody.run [] _ _ H Q I h) (fun v s' hq => ?_) fun e s' hq => hq)
  obtain ⟨w', H', J', rv, q⟩ := hq
  exact ⟨w', H', J'.os, J'.bare, J'.base, J'.hok, rv, q⟩
/-- a list of ints is walked; the list's object may be another at each step -/
theorem walkI {prog : Program} {w : World} {A : Around} (hh : A.handled = none) (I ax : Addr) (hne : ax ≠ I) (ns : List Int) :
    WalksS prog w A I [I, ax] [I] (fun a b => b = a) ns.length (fun i v => ∃ t, v = .int (ns.getD i 0) t) (fun i s => s.heap.IsListIter I ax i ∧ ∃ its : List Value, IntsAre its ns ∧ s.heap.IsList ax its.toArray) where
  sub := fun b hb => by simp at hb; simp [hb]
  grefl := fun _ => rfl
  gtrans := fun _ _ _ h1 h2 => h2.trans h1
  frame := fun i s h' tk st _ hk => ⟨st.1.at fun o e => hk I (by simp) o e, let ⟨its, r, e⟩ := st.2; ⟨its, r, e.at fun o e => hk ax (by simp) o e⟩⟩
  item := fun i s Q E hi st hQ => by
    obtain ⟨its, r, e⟩ := st.2
    have W := (Walks.list (prog := prog) (w := w) hh I ax hne its.toArray).toS
    have hl : its.toArray.size = ns.length := by rw [List.size_toArray]; exact r.length
    refine W.item i s Q E (by omega) ⟨st.1, e⟩ fun v s' hP hst m => ?_
    obtain ⟨t, ht⟩ := r.get i (ns.getD i 0) (by rw [List.getD_eq_getElem?_getD, List.getElem?_eq_getElem hi] <;> rfl)
    refine hQ v s' ⟨t, ?_⟩ ⟨hst.1, its, r, hst.2⟩ m
    have hP' : its[i]? = some v := by simpa using hP
    rw [ht] at hP'
    exact (Option.some.inj hP').symm
  done := fun s Q E st hQ => by
    obtain ⟨its, r, e⟩ := st.2
    have W := (Walks.list (prog := prog) (w := w) hh I ax hne its.toArray).toS
    have hl : its.toArray.size = ns.length := by rw [List.size_toArray]; exact r.length
    refine W.done s Q E ⟨?_, e⟩ hQ
    rw [hl]
    exact st.1
  self := fun i s Q E st hQ => wpAny_pyIter_listiter st.1 hQ
/-- the object of the key of n -/
def KeyOb (o : Obj) (n : Int) : Prop := ∃ t1 t2 c, o.cls = .type "tuple" ∧ o.data = .seq #[.int n.natAbs t1, .int (0 - n) t2] c
theorem keys_lt {A : Around} {s : Shared} {t u : Addr} {ot ou : Obj} {n m : Int} (hu : A.units < cLine) (h1 : s.heap.get? t = some ot) (k1 : KeyOb ot n) (h2 : s.heap.get? u = some ou) (k2 : KeyOb ou m) :
    Ob.RcOp .Lt A s (.ref t) (.ref u) (decide (cod n < cod m)) := by
  obtain ⟨t1, t2, c, hc, hd⟩ := k1
  obtain ⟨u1, u2, c', hc', hd'⟩ := k2
  have beq : ∀ a b : Int, (a == b) = decide (a = b) := fun a b => by
    by_cases q : a = b
    · rw [decide_eq_true q]; exact beq_iff_eq.mpr q
    · rw [decide_eq_false q]; exact beq_eq_false_iff_ne.mpr q
  have R := Ob.RcOp.tuples_lt (A := A) (s := s) (l := t) (b := u) (items := #[.int n.natAbs t1, .int (0 - n) t2]) (items2 := #[.int m.natAbs u1, .int (0 - m) u2])
    (e := fun j => if j = 0 then decide ((n.natAbs : Int) = m.natAbs) else decide (0 - n = 0 - m)) (r := fun j => if j = 0 then decide ((n.natAbs : Int) < m.natAbs) else decide (0 - n < 0 - m)) ⟨ot, h1, hc, c, hd⟩ ⟨ou, h2, hc', c', hd'⟩ hu
    (fun j a b => by
      have hj : j < 2 := a
      match j, hj with
      | 0, _ => rw [if_pos rfl, ← beq]; exact SeqAt.EqAt.int_int _ _ _ _
      | 1, _ => rw [if_neg (by decide), ← beq]; exact SeqAt.EqAt.int_int _ _ _ _)
    (fun j a b _ => by
      have hj : j < 2 := a
      match j, hj with
      | 0, _ => rw [if_pos rfl]; exact Ob.RcOp.lt_int _ _ _ _
      | 1, _ => rw [if_neg (by decide)]; exact Ob.RcOp.lt_int _ _ _ _)
  have e : Ob.lexAt (fun j => if j = 0 then decide ((n.natAbs : Int) = m.natAbs) else decide (0 - n = 0 - m)) (fun j => if j = 0 then decide ((n.natAbs : Int) < m.natAbs) else decide (0 - n < 0 - m)) (decide (2 < 2)) 0 2 = decide (cod n < cod m) := by
    have i := cod_lt n m
    rw [Ob.lexAt_succ, Ob.lexAt_succ, Ob.lexAt_zero]
    simp only [if_true, Nat.zero_add, Nat.succ_ne_zero, if_false, decide_eq_true_eq, Nat.one_ne_zero]
    by_cases a : (n.natAbs : Int) = m.natAbs
    · rw [if_pos a]
      by_cases b : 0 - n = 0 - m
      · rw [if_pos b]
        refine (decide_eq_decide.mpr ?_)
        rw [i]
        omega
      · rw [if_neg b]
        refine (decide_eq_decide.mpr ?_)
        rw [i]
        omega
    · rw [if_neg a]
      refine (decide_eq_decide.mpr ?_)
      rw [i]
      omega
  rw [← e]
  exact R
/-- what the loop of min keeps: the tracked heap has only grown -/
def MkJ (X : Cx) (pins : List (Addr × Obj)) (σ : L2.St) (H : Hp) (l f c' I S : Addr) (q : Str) (fo : Obj) (s : Shared) : Prop := ∃ H', Inv X pins σ H' s ∧ Same H H' ∧ H' I = none ∧ H' S = none ∧ H' f = none ∧ s.heap.get? f = some fo ∧ ∀ b o, H b = none → H' b = some o → ∃ xs, o = .tup xs
/-- f tells the key of the i-th -/
def MkV (X : Cx) (H : Hp) (ns : List Int) (I S : Addr) (i : Nat) (k : Value) (s : Shared) : Prop := ∃ t o, k = .ref t ∧ (H t = none ∧ t ∉ frs X.stack) ∧ t ≠ I ∧ t ≠ S ∧ s.heap.get? t = some o ∧ KeyOb o (ns.getD i 0)
theorem min_key {K : PySem.W.Frag} {k : Nat} {q a : Str} {l f c' : Addr} {pm ctv : Value} {params : Arguments} {body : Expr} {scope : Scope} {ns : List Int} {tb : TE} {Q : VK} (hK : X.K = K) (hcalm : X.calm = true)
    (I : Inv X pins σ H s) (hr : Room (k + 2) X.A) (hl : SqL K H l (ns.map V.int)) (hne : 0 < ns.length) (S : FnScope [a] [a] scope) (hf : s.heap.get? f = some (PySem.W.kla_obj "<lambda>" q params body scope [] pm c' ctv)) (hfn : H f = none) (hfr : f ∉ frs X.stack) (hc : H c' = some (CodeO c' q))
    (hbind : ∀ u, bindArgs (PySem.W.kla_fn "<lambda>" q params body scope [] pm (.ref c') ctv) ⟨[u], []⟩ = pure [(a, u)])
    (hbody : ∀ (A : Around) (outer : List Env) (s : Shared) (H : Hp), PE (cxOf L2.CX0 X.prog X.w X.K X.mg X.base [a] q scope f (.ref c') A outer s H L2.E0) body tb)
    (htb : ∀ (n : Int) (H : Hp) (Q : VK), (∀ t, H t = none → Q (.ref t) (upd H t (.tup [.int n.natAbs, .int (0 - n)]))) → tb [some (.int n)] H Q)
    (h : ∀ m H', m ∈ ns → (∀ y ∈ ns, cod m ≤ cod y) → Same H H' → Q (.int m) H') :
    wpAny (model X.prog X.w) X.A (call (.builtin "min") [.ref l] [(Str.ofString "key", .ref f)]) (EP X pins σ Q) X.xe s := by
  subst hK
  obtain ⟨its, r0, pl, _⟩ := I.list hl
  have hlL : l < s.heap.objs.size := by
    obtain ⟨o, e, _⟩ := pl.isList
    exact Heap.lt_size e
  have hlt : f < s.heap.objs.size := Heap.lt_size hf
  refine call_min_walkK (wpAny_pyIter_list pl.isList ?_)
  have I2 : Inv X pins σ H { s with heap := s.heap.push { cls := .type "list_iterator", data := .fields #[.ref l, .int 0 0] } } := I.kept (t' := s.toks) fun b o e => Heap.get?_push_of_some _ e
  have hsz : (s.heap.push { cls := .type "list_iterator", data := .fields #[.ref l, .int 0 0] }).objs.size = s.heap.objs.size + 1 := Heap.size_push _ _
  have lI : Loose X pins s.heap.objs.size := Loose.of I (Nat.le_refl _)
  have lS : Loose X pins (s.heap.push { cls := .type "list_iterator", data := .fields #[.ref l, .int 0 0] }).objs.size := Loose.of I2 (Nat.le_refl _)
  have nI : H s.heap.objs.size = none := I.hok.fresh (Nat.le_refl _)
  have nS : H (s.heap.push { cls := .type "list_iterator", data := .fields #[.ref l, .int 0 0] }).objs.size = none := I2.hok.fresh (Nat.le_refl _)
  have hIt : (s.heap.push { cls := .type "list_iterator", data := .fields #[.ref l, .int 0 0] }).get? s.heap.objs.size = some { cls := .type "list_iterator", data := .fields #[.ref l, .int 0 0] } := Heap.get?_push_size _ rfl
  have hf2 : (s.heap.push { cls := .type "list_iterator", data := .fields #[.ref l, .int 0 0] }).get? f = some (PySem.W.kla_obj "<lambda>" q params body scope [] pm c' ctv) := Heap.get?_push_of_some _ hf
  have hpl2 : (s.heap.push { cls := .type "list_iterator", data := .fields #[.ref l, .int 0 0] }).IsList l its.toArray := pl.isList.at fun o e => Heap.get?_push_of_some _ e
  generalize hSe : (s.heap.push { cls := .type "list_iterator", data := .fields #[.ref l, .int 0 0] }).objs.size = Sa at lS nS hsz
  have fI : f ≠ s.heap.objs.size := Nat.ne_of_lt hlt
  have fS : f ≠ Sa := by rw [hsz]; exact Nat.ne_of_lt (Nat.lt_succ_of_lt hlt)
  have SI : Sa ≠ s.heap.objs.size := by rw [hsz]; exact Nat.succ_ne_self _
  have lIne : l ≠ s.heap.objs.size := Nat.ne_of_lt hlL
  refine ⟨s.heap.objs.size, [s.heap.objs.size, l], [s.heap.objs.size], fun a b => b = a, ns.length, _, _, MkJ X pins σ H l f c' s.heap.objs.size Sa q (PySem.W.kla_obj "<lambda>" q params body scope [] pm c' ctv), MkV X H ns s.heap.objs.size Sa, fun i j => decide (cod (ns.getD i 0) < cod (ns.getD j 0)), rfl,
    walkI (A := X.A.in1) (I.ok.hd hcalm) s.heap.objs.size l lIne ns, ⟨⟨_, hIt, rfl, rfl⟩, its, Vals.ints r0, hpl2⟩, fun b hb => ?_, hne, ?_, ⟨H, I2, Same.refl _, nI, nS, hfn, hf2, fun b o e1 e2 => by rw [e1] at e2; cases e2⟩, fun v s' hP hJ => ?_⟩
  · show b < Sa
    rw [hsz]
    rcases List.mem_cons.mp hb with e | hb
    · rw [e]
      exact Nat.lt_succ_self _
    · rw [List.mem_singleton.mp hb]
      exact Nat.lt_succ_of_lt hlL
  · refine ⟨fun s1 s2 hJ m => ?_, fun i kx s1 s2 hV m => ?_, fun i v s1 o Q1 E1 hi hP hJ hst hS hQ => ?_, fun i j ki kj s1 Q1 E1 hJ hi hj hQ => ?_⟩
    · obtain ⟨H', I', sm, n1, n2, n3, e, tp⟩ := hJ
      refine ⟨H', Inv.moved I' (fun b hb => ?_) m, sm, n1, n2, n3, m.heap f _ (fun z => ?_) e, tp⟩
      · rcases List.mem_cons.mp hb with e | hb
        · rw [e]
          exact ⟨lS, n2⟩
        · rw [List.mem_singleton.mp hb]
          exact ⟨lI, n1⟩
      · rcases List.mem_cons.mp z with z | z
        · exact fS z
        · exact fI (List.mem_singleton.mp z)
    · obtain ⟨t, o, e, n0, n1, n2, ht, ko⟩ := hV
      refine ⟨t, o, e, n0, n1, n2, m.heap t o (fun z => ?_) ht, ko⟩
      rcases List.mem_cons.mp z with z | z
      · exact n2 z
      · exact n1 (List.mem_singleton.mp z)
    · obtain ⟨H', I', sm, n1, n2, n3, e, tp⟩ := hJ
      obtain ⟨tt, ev⟩ := hP
      have ev : v = .int (ns.getD i 0) tt := ev
      subst ev
      have hx := lam1_run (tb := tb) (v := .int (ns.getD i 0)) (u := .int (ns.getD i 0) tt) (Q := fun v H'' => ∃ t, v = .ref t ∧ H' t = none ∧ H'' t = some (.tup [.int (ns.getD i 0).natAbs, .int (0 - ns.getD i 0)]) ∧ Same H' H'' ∧ ∀ b o, H' b = none → H'' b = some o → ∃ xs, o = .tup xs)
        I'.env0.in1 (show Room (k + 1) X.A.in1 from hr.in1) S e (sm _ _ hc) hbind (hbody _ _ _ _) ⟨tt, rfl⟩ (htb _ _ _ fun t nt => ⟨t, rfl, nt, upd_same, same_new nt, fun b o e1 e2 => by
          by_cases z : b = t
          · rw [z, upd_same] at e2
            exact ⟨_, (Option.some.inj e2).symm⟩
          · rw [upd_ne z, e1] at e2
            cases e2⟩)
      refine wpAny_call (codeAny_mono hx fun r s2 hq => ?_)
      cases r with
      | error e => exact (show False from hq).elim
      | ok fl =>
        cases fl with
        | next => exact False.elim hq
        | brk => exact False.elim hq
        | cont => exact False.elim hq
        | ret u =>
          obtain ⟨v2, H2, I2', un, rv, t, rfl, nt, ht, sm2, tp2⟩ := Inv.behind I' hq
          obtain rfl : u = Value.ref t := rv
          obtain ⟨ob, hot, hct, ⟨c2, hdt⟩⟩ : ∃ ob, s2.heap.get? t = some ob ∧ ob.cls = .type "tuple" ∧ ∃ c, ∃ t1 t2, ob.data = .seq #[.int (ns.getD i 0).natAbs t1, .int (0 - ns.getD i 0) t2] c := by
            obtain ⟨its2, rv2, ⟨ob, h1, h2, c, h3⟩, _⟩ := I2'.tuple (xs := [.int (ns.getD i 0).natAbs, .int (0 - ns.getD i 0)]) (SqT.of ht)
            cases rv2 with
            | cons ra rr =>
              cases rr with
              | cons rb rr =>
                cases rr
                obtain ⟨t1, rfl⟩ := ra
                obtain ⟨t2, rfl⟩ := rb
                exact ⟨ob, h1, h2, c, t1, t2, h3⟩
          obtain ⟨t1, t2, hdt⟩ := hdt
          have keepI : ∀ {b ob}, s1.heap.get? b = some ob → H' b = none → b ∉ frs X.stack → s2.heap.get? b = some ob := fun e1 e2 e3 => un.keep _ _ e1 e2 e3 (by simp)
          obtain ⟨⟨oI, eI, cI, dI⟩, _⟩ := hst
          obtain ⟨its2, rv2, pl2, _⟩ := I2'.list ((sm.trans sm2).seq hl)
          have nI2 : H2 s.heap.objs.size = none := un.free _ _ eI n1 (by simp)
          have nS2 : H2 Sa = none := un.free _ _ hS n2 (by simp)
          refine hQ _ _ ⟨H2, I2', sm.trans sm2, nI2, nS2, un.free _ _ e n3 (by simp), keepI e n3 hfr, fun b o e1 e2 => ?_⟩ ⟨⟨oI, keepI eI n1 lI.ns, cI, dI⟩, its2, Vals.ints rv2, pl2.isList⟩ (keepI hS n2 lS.ns) ⟨t, ob, rfl, ⟨Same.free sm nt, fun z => ?_⟩, fun z => ?_, fun z => ?_, hot, t1, t2, c2, hct, hdt⟩ fun j kj hV => ?_
          · cases q : H' b with
            | none => exact tp2 b o q e2
            | some o' =>
              have e3 := sm2 _ _ q
              rw [e2] at e3
              cases e3
              exact tp b o e1 q
          · have e3 := I2'.stkFree t z
            rw [e3] at ht
            cases ht
          · rw [z, nI2] at ht
            cases ht
          · rw [z, nS2] at ht
            cases ht
          · obtain ⟨tj, oj, ej, ⟨m0, m00⟩, m1, m2, htj, kj⟩ := hV
            cases q : H' tj with
            | none => exact ⟨tj, oj, ej, ⟨m0, m00⟩, m1, m2, keepI htj q m00, kj⟩
            | some o' =>
              obtain ⟨xs, rfl⟩ := tp tj o' m0 q
              obtain ⟨its1, ra1, ⟨ob1, g1, g2, g3, g4⟩, _⟩ := I'.tuple (SqT.of q)
              rw [htj] at g1
              cases g1
              obtain ⟨u1, u2, c3, k1, k2⟩ := kj
              rw [k2] at g4
              obtain ⟨its3, ra3, ⟨ob3, f1, f2, f3, f4⟩, _⟩ := I2'.tuple (SqT.of (un.tups _ _ q))
              have ei : its1 = [.int (ns.getD j 0).natAbs u1, .int (0 - ns.getD j 0) u2] := by
                have z := congrArg (fun d => match d with | Data.seq a _ => a.toList | _ => []) g4
                simpa using z.symm
              subst ei
              cases ra1 with
              | cons ra rr =>
                cases rr with
                | cons rb rr =>
                  cases rr
                  obtain rfl := ra.inj (y := .int (ns.getD j 0).natAbs) ⟨u1, rfl⟩
                  obtain rfl := rb.inj (y := .int (0 - ns.getD j 0)) ⟨u2, rfl⟩
                  cases ra3 with
                  | cons rc rr =>
                    cases rr with
                    | cons rd rr =>
                      cases rr
                      obtain ⟨w1, rfl⟩ := rc
                      obtain ⟨w2, rfl⟩ := rd
                      exact ⟨tj, ob3, ej, ⟨m0, m00⟩, m1, m2, f1, w1, w2, f3, f2, f4⟩
    · obtain ⟨t, o, rfl, _, _, _, ht, ko⟩ := hi
      obtain ⟨u, o2, rfl, _, _, _, hu, ko2⟩ := hj
      exact keys_lt (A := X.A.in1) (hr.in1.units0) ht ko hu ko2 _ _ _ _ hQ
  · obtain ⟨H', I', sm, _⟩ := hJ
    obtain ⟨b1, b2⟩ := argBest_lt (fun i => cod (ns.getD i 0)) (ns.length - 1)
    obtain ⟨t, ht⟩ := hP
    have ht : v = .int (ns.getD (argBest (fun i j => decide (cod (ns.getD i 0) < cod (ns.getD j 0))) (ns.length - 1)) 0) t := ht
    rw [ht]
    refine ⟨.int _, H', I', ⟨t, rfl⟩, h _ _ ?_ (fun y hy => ?_) sm⟩
    · have hb : argBest (fun i j => decide (cod (ns.getD i 0) < cod (ns.getD j 0))) (ns.length - 1) < ns.length := by omega
      rw [List.getD_eq_getElem?_getD, List.getElem?_eq_getElem hb]
      exact List.getElem_mem hb
    · obtain ⟨i, hi, e⟩ := List.mem_iff_getElem.mp hy
      have e2 : ns.getD i 0 = y := by rw [List.getD_eq_getElem?_getD, List.getElem?_eq_getElem hi, ← e] <;> rfl
      rw [← e2]
      exact b2 i (by omega)
end
theorem ExtN.sq {K : PySem.W.Frag} {H H' : Hp} {a : Addr} {xs : List V} (e : ExtN H H') (h : SqL K H a xs) : SqL K H' a xs := by
  rcases h with (h | ⟨o, h⟩) | h
  · exact .inl (.inl (e _ _ h fun ps z => nomatch z))
  · exact .inl (.inr ⟨o, e _ _ h fun ps z => nomatch z⟩)
  · exact .inr h
def rMinKey (K : PySem.W.Frag) (T : List (Addr × Str)) (vs : List V) (H1 : Hp) (Q : VK) : Prop := ∃ (l : Addr) (ns : List Int), vs = [.ref l] ∧ SqL K H1 l (ns.map V.int) ∧ 0 < ns.length ∧ Tabs T H1 ∧
  ∀ m H', m ∈ ns → (∀ y ∈ ns, cod m ≤ cod y) → ExtN H1 H' → Tabs T H' → Q (.int m) H'
def tMinKey (K : PySem.W.Frag) (T : List (Addr × Str)) (te : TE) : TE := fun σ H Q => tCons te tNil σ H fun vs H1 => rMinKey K T vs H1 Q
theorem r_minKey {K : PySem.W.Frag} {T : List (Addr × Str)} {te : TE} {σ : L2.St} {H : Hp} {Q : VK} (k : te σ H fun x H1 => rMinKey K T [x] H1 Q) : tMinKey K T te σ H Q := k
theorem pe_minKey {X : Cx} {K : PySem.W.Frag} {T : List (Addr × Str)} {te tb : TE} {e body : Expr} {params : Arguments} {scope : Scope} {a : Str} {k : Nat} {c P : Addr} {p pos lpos kpos : Pos} (hK : X.K = K) (hg : Gl X "min") (hm : X.mg "min" = none) (he : PE X e te)
    (TB : TabB X.base X.mg c P) (hcode : X.env.code = .ref c) (hmT : (P, X.env.qual ++ "<lambda>") ∈ T) (hu : ∀ p ∈ T, p.1 = P → p.2 = X.env.qual ++ "<lambda>") (hr : Room (k + 2) X.A) (S : FnScope [a] [a] scope) (hclo : cloFrom X.env.cells scope.names [] = [])
    (hdef : defaultsOf params X.env = ([], [])) (hbind : ∀ (q : Str) (pm cv ctv u : Value), bindArgs (PySem.W.kla_fn "<lambda>" q params body scope [] pm cv ctv) ⟨[u], []⟩ = pure [(a, u)])
    (hbody : ∀ (f : Addr) (cd : Value) (A : Around) (outer : List Env) (s : Shared) (H : Hp), PE (cxOf L2.CX0 X.prog X.w X.K X.mg X.base [a] (X.env.qual ++ "<lambda>") scope f cd A outer s H L2.E0) body tb)
    (htb : ∀ (n : Int) (H : Hp) (Q : VK), (∀ t, H t = none → Q (.ref t) (upd H t (.tup [.int n.natAbs, .int (0 - n)]))) → tb [some (.int n)] H Q)
    (hcalm : X.calm = true := by rfl) (na : starEach [e] X.env = (false, eval e X.env) :: starEach [] X.env := by rfl)
    (hs : backTo pos (starEach [e] X.env) = (false, eval e X.env) :: backTo pos (starEach [] X.env) := by rfl) (hpl : (backTo pos (starEach [e] X.env)).any (·.1) = false := by rfl) :
    PE X (.Call (.Name "min" p) [e] [⟨some "key", .Lambda params body scope lpos, kpos⟩] pos) (tMinKey K T te) := by
  subst hK
  refine ⟨fun pins s σ H Q I h => ?_⟩
  have hfree : ∀ y ∈ scope.names, y.2 = .free → ∃ c, X.env.cells.lookup y.1 = some c := fun y hy z => absurd z (S.nofree y hy)
  refine wpAny_Call_Name_kw (ld_blt (u := .builtin "min") I hg hm (by decide +kernel) ?_)
  refine PyProof.Rows.callWith_kw (thn ((pa_cons he pa_nil na).run pos pins s σ H _ I h) fun us s1 ⟨vs, H1, I1, r1, q1⟩ => ?_) hs hpl (by rfl) (by rfl)
  obtain ⟨l, ns, rfl, hl, hne, hT, q1⟩ := q1
  rw [Vals.ref1 r1]
  show wpAny _ _ (evalAll [(do let v ← eval (.Lambda params body scope lpos) X.env; standAt pos; pure v)]) _ _ s1
  refine wpAny_evalAll_cons (wpAny_bind (lam_make2 I1 TB hcode hmT hu hT hdef hfree fun f c' pm ctv H2 s2 I2 eN T2 hf hfn hfr hco => wpAny_bind (wpAny_standAt (wpAny_pure (wpAny_evalAll_nil ?_)))))
  rw [hclo] at hf
  show wpAny _ _ (call (.builtin "min") [.ref l] [(Str.ofString "key", .ref f)]) _ _ s2
  exact min_key rfl hcalm I2 hr (ExtN.sq eN hl) hne S hf hfn hfr hco (fun u => hbind _ _ _ _ u) (fun A outer s H => hbody f (.ref c') A outer s H) htb fun m H' m1 m2 sm => q1 m H' m1 m2 (eN.trans (ExtN.of sm)) (T2.ext sm)
end Rd

/-! ## defs with a table of code objects, and the end of a law with such tables -/
namespace Rd
open PySem PySem.Spec L2 PyProof.Rows LamX
/-- the def st stands at the name x; c is its code object, P that one's table -/
structure FunTab (K : PySem.W.Frag) (mg : Str → Option Value) (x : Str) (st : Stmt) (c P : Addr) : Prop where
  ex : ∃ (f : Addr) (oc : Value) (od an : Option Addr) (kV doc pm ct : Value) (osl : Array (Option Value)),
    K.lookup f = some ⟨oc, od, .func (PySem.W.fnOf x x (defArgs st) (defBody st) (defScope st) .none kV doc pm an (.ref c) ct), osl⟩ ∧ PySem.W.codeIn K (.ref c) x = true ∧ PySem.W.keepIn K (.ref f) = true ∧ mg x = some (.ref f)
section
variable {P : Program} {w : World} {K : PySem.W.Frag} {mg : Str → Option Value} {base : Heap}
theorem FunTab.ok {x : Str} {st : Stmt} {N ps : List Str} {k : Nat} {sp : Sp} {c Pt : Addr} (F : FunTab K mg x st c Pt) (S : FnScope N ps (defScope st)) (bo : BindOk x st ps) (len : ∀ vs H Q E, sp vs H Q E → vs.length = ps.length)
    (hbody : ∀ (f : Addr) (A : Around) (outer : List Env) (s : Shared) (H : Hp) (vs : List V) (Q : VK) (E : XK), Room k (A.deeper (envOfC x (defScope st) s.heap.objs.size f (.ref c))) → sp vs H Q E →
      ∃ t, PSs (cxOf L2.CX0 P w K mg base N x (defScope st) f (.ref c) A outer s H E).nox (defBody st) t ∧ t { nx := fun _ H' => Q .non H', rt := Q } (L2.start N vs) H) : Has P w K mg base L2.CX0 (k + 1) x sp := by
  obtain ⟨f, oc, od, an, kV, doc, pm, ct, osl, lk, hcd, kp, hm⟩ := F.ex
  refine ⟨f, _, ps, fn_of lk hcd S len fun A outer s H vs Q E hr hsp => ?_, hm, kp, Binds.all (bo kV doc pm an (.ref c) ct)⟩
  obtain ⟨t, h, q⟩ := hbody f A outer s H vs Q E hr hsp
  exact ⟨t, h.nox, q⟩
theorem tab_code {K : PySem.W.Frag} {x : Str} {f c Pt : Addr} {oc : Value} {od : Option Addr} {fd : FuncData} {osl : Array (Option Value)} (a : PySem.W.nsIn K mainGlobals x = some (some (.ref f))) (l : K.lookup f = some ⟨oc, od, .func fd, osl⟩) (t : PySem.W.tabIn K x = some (c, Pt)) : fd.code = .ref c := by
  unfold PySem.W.tabIn at t
  rw [a] at t
  dsimp only at t
  rw [l] at t
  dsimp only at t
  split at t
  · rename_i c' hc
    split at t
    · split at t
      · have z := Option.some.inj t
        have z1 : c' = c := congrArg Prod.fst z
        rw [hc, z1]
      · cases t
    · cases t
  · cases t
theorem FunTab.mk' {x : Str} {st : Stmt} {h : Heap} {c Pt : Addr} (X : K.In h) (G : h.Ns mainGlobals mg) {f : Addr} {oc : Value} {od an : Option Addr} {osl : Array (Option Value)} {kV doc pm cdv ct : Value}
    (a : PySem.W.nsIn K mainGlobals x = some (some (.ref f)))
    (l : K.lookup f = some ⟨oc, od, .func (PySem.W.fnOf x x (defArgs st) (defBody st) (defScope st) .none kV doc pm an cdv ct), osl⟩)
    (cc : PySem.W.codeIn K cdv x = true) (k : PySem.W.keepIn K (.ref f) = true) (t : PySem.W.tabIn K x = some (c, Pt)) : FunTab K mg x st c Pt := by
  have e : cdv = .ref c := tab_code a l t
  subst e
  exact ⟨f, oc, od, an, kV, doc, pm, ct, osl, l, cc, k, PySem.W.mg_of X G a⟩
end
/-- what the end knows of the tables of the defs named xs -/
def TabsAt (q : Program) (K : PySem.W.Frag) (h : Heap) : Prop := ∀ (x : Str) (c P : Addr), ((recsOf q).any fun e => e.name == x) = true → PySem.W.tabIn K x = some (c, P) → PySem.W.CodeHd h c P ∧ h.get? P = some { cls := .none, data := .fields #[] }
theorem walk_tabs {l : PySem.W.OpenLaw} {n k : Nat} {q : Program} {loose : List Str} {XP : (Str → Option Value) → Heap → Prop} {YP : World → Heap → Prop} {d : DefRec} {K : Params → PySem.W.Frag} {CX : World → CXT} {x : Str}
    (hn : l.most = some n) (hn2 : n ≤ sizeLine) (hdf : d.params.defaults = []) (hr : Room k callerA) (hY : ∀ (w : World) (h : Heap), YP w h → (K w.params).In h)
    (F : ∀ (w : World) (mg : Str → Option Value) (fa : Addr) (h : Heap), YP w h → (K w.params).In h → h.Ns mainGlobals mg → mg d.name = some (.ref fa) → TabsAt q (K w.params) h → LawAtS l w (K w.params) (CX w) k n x mg fa h)
    (hCX : ∀ (w : World) (H : Hp) (s : Shared) (e : Value) (s' : Shared), CX w [] H s (fun _ _ _ => False) e s' → False) :
    PySem.W.WalkO q loose XP YP l.row.toRowW d [] (fun f vs => PySem.call f vs) := by
  refine Att.attach_callB hn hdf fun w s₀ s₁ mg mb fa o pm cd doc a vs ns G Y ho hd hcd hmg hobj hints hlen hbits hg => ?_
  have KX := hY w _ Y
  have tabs : TabsAt q (K w.params) s₁.heap := fun x c P hrec ht => by
    have hs : ((recsOf q).find? fun e => e.name == x).isSome = true := by rw [List.find?_isSome]; simpa using hrec
    obtain ⟨d', hd'⟩ := Option.isSome_iff_exists.mp hs
    exact PySem.W.tab_of G.T KX hd' ht
  obtain ⟨fd, cs, sp, hT, nT, C, hb, hsp, hF⟩ := F w mg fa _ Y KX G.T.g hmg tabs
  exact law_callTs KX G.T.g G.T.b G.T.builtins G.T.nolimit hg hT nT C G.T.bmain hobj hints (Nat.le_trans hlen hn2) hr hF hb (fun H hH hS => hsp H a ns hlen hbits hH hS) fun H e s' => hCX w H s₁ e s'
/-- the script's list and the tables at the law's start -/
def spLawT (K : PySem.W.Frag) (T : List (Addr × Str)) : Sp := fun vs H Q _ => ∃ (a : Addr) (ns : List Int), vs = [.ref a] ∧ SqL K H a (ns.map V.int) ∧ ns.length ≤ 63 ∧ Tabs T H ∧ ∀ H', Q (.bl true) H'
theorem Tabs.fr {T : List (Addr × Str)} {H H' : Hp} (t : Tabs T H) (R : Fr H H') : Tabs T H' := fun p hp => by
  obtain ⟨ps, h1, h2, h3⟩ := t p hp
  refine ⟨ps, R _ _ h1 (fun _ _ _ _ h => nomatch h), h2, fun pos cv hc => ?_⟩
  obtain ⟨c, e1, e2⟩ := h3 pos cv hc
  exact ⟨c, e1, R _ _ e2 (fun _ _ _ _ h => nomatch h)⟩
theorem ExtN.at_tup {H H' : Hp} {g : Addr} {xs : List V} (e : ExtN H H') (h : H g = some (.tup xs)) : H' g = some (.tup xs) := e _ _ h fun ps z => nomatch z
theorem ExtN.at_lst {H H' : Hp} {g : Addr} {xs : List V} (e : ExtN H H') (h : H g = some (.lst xs)) : H' g = some (.lst xs) := e _ _ h fun ps z => nomatch z
theorem ExtN.st {H H' : Hp} {st a : Addr} (e : ExtN H H') (s : St H st a) : St H' st a := by
  obtain ⟨i, m, r, h, q⟩ := s
  exact ⟨i, m, r, ExtN.at_lst e h, q⟩
/-- all stays but the place of the draws and the tables -/
def FrN (H H' : Hp) : Prop := ∀ b o, H b = some o → NotSt o → (∀ ps, o ≠ .tbl ps) → H' b = some o
theorem FrN.refl (H : Hp) : FrN H H := fun _ _ e _ _ => e
theorem FrN.trans {H H1 H2 : Hp} (a : FrN H H1) (b : FrN H1 H2) : FrN H H2 := fun c o e n t => b c o (a c o e n t) n t
theorem FrN.of {H H' : Hp} (a : Fr H H') : FrN H H' := fun c o e n _ => a c o e n
theorem FrN.ext {H H' : Hp} (a : ExtN H H') : FrN H H' := fun c o e _ t => a c o e t
theorem FrN.sm {H H' : Hp} (a : Same H H') : FrN H H' := fun c o e _ _ => a c o e
theorem FrN.tup {H H' : Hp} (a : FrN H H') {b : Addr} {xs : List V} (e : H b = some (.tup xs)) : H' b = some (.tup xs) := a _ _ e nst_tup fun _ z => nomatch z
theorem FrN.ints {H H' : Hp} (a : FrN H H') {b : Addr} {ns : List Int} (e : H b = some (.lst (ns.map V.int))) : H' b = some (.lst (ns.map V.int)) := a _ _ e nst_ints fun _ z => nomatch z
theorem FrN.sq {K : PySem.W.Frag} {H H' : Hp} (R : FrN H H') {a : Addr} {ns : List Int} (h : SqL K H a (ns.map V.int)) : SqL K H' a (ns.map V.int) := by
  rcases h with (h | ⟨o, h⟩) | h
  · exact .inl (.inl (R.ints h))
  · exact .inl (.inr ⟨o, R _ _ h nst_frz fun _ z => nomatch z⟩)
  · exact .inr h
end Rd

/-! ## an own class: its methods by name, its making -/
namespace Rd
open PySem PySem.Spec PyProof.Rows L2
/-- the method m of the class at C keeps the promise sp -/
structure HasM (P : Program) (w : World) (K : PySem.W.Frag) (mg : Str → Option Value) (base : Heap) (CX : CXT) (C : Addr) (k : Nat) (m : Str) (sp : Sp) : Prop where
  ex : ∃ (f : Addr) (fd : FuncData) (ps : List Str), FnOk P w K mg base CX k f fd ps sp ∧ Meth K C m f ∧ Binds K fd ps []
/-- the class at C is made by an __init__ that keeps the promise sp -/
structure HasMk (P : Program) (w : World) (K : PySem.W.Frag) (mg : Str → Option Value) (base : Heap) (CX : CXT) (C : Addr) (k : Nat) (x : Str) (sp : Sp) : Prop where
  ex : ∃ (f : Addr) (fd : FuncData) (ps : List Str), FnOk P w K mg base CX k f fd ps sp ∧ Mk K C f ∧ Binds K fd ps [] ∧ mg x = some (.ref C)
/-- the def st of the class's text stands at its name m -/
structure MethAt (K : PySem.W.Frag) (C : Addr) (m q : Str) (st : Stmt) : Prop where
  ex : ∃ (f : Addr) (fd : FuncData), Fun K m q st f fd ∧ PySem.W.findIn K (.ref C) m = some (some (.ref f)) ∧ PySem.W.isFn K (.ref f) = true
/-- c is the code object of the method, Pt that one's table -/
structure MethTab (K : PySem.W.Frag) (C : Addr) (m q : Str) (st : Stmt) (c Pt : Addr) : Prop where
  ex : ∃ (f : Addr) (oc : Value) (od an : Option Addr) (kV doc pm ct : Value) (osl : Array (Option Value)),
    K.lookup f = some ⟨oc, od, .func (PySem.W.fnOf m q (defArgs st) (defBody st) (defScope st) .none kV doc pm an (.ref c) ct), osl⟩ ∧ PySem.W.codeIn K (.ref c) q = true ∧ Meth K C m f
section
variable {P : Program} {w : World} {K : PySem.W.Frag} {mg : Str → Option Value} {base : Heap}
theorem HasM.mono {CX : CXT} {C : Addr} {m : Str} {sp : Sp} {j k : Nat} (h : HasM P w K mg base CX C j m sp) (i : j ≤ k) : HasM P w K mg base CX C k m sp := by
  obtain ⟨f, fd, ps, F, r⟩ := h.ex
  exact ⟨f, fd, ps, F.mono i, r⟩
theorem MethAt.ok {C : Addr} {m q : Str} {st : Stmt} {N ps : List Str} {k : Nat} {sp : Sp} (F : MethAt K C m q st) (S : FnScope N ps (defScope st)) (bo : BindOkQ m q st ps) (len : ∀ vs H Q E, sp vs H Q E → vs.length = ps.length)
    (hbody : ∀ (f : Addr) (cdv : Value) (A : Around) (outer : List Env) (s : Shared) (H : Hp) (vs : List V) (Q : VK) (E : XK), Room k (A.deeper (envOfC q (defScope st) s.heap.objs.size f cdv)) → sp vs H Q E →
      ∃ t, PSs (cxOf CX0 P w K mg base N q (defScope st) f cdv A outer s H E).nox (defBody st) t ∧ t { nx := fun _ H' => Q .non H', rt := Q } (start N vs) H) : HasM P w K mg base CX0 C (k + 1) m sp := by
  obtain ⟨f, fd, F, at_, fn⟩ := F.ex
  exact ⟨f, fd, ps, F.ok S len fun cdv A outer s H vs Q E hr h => hbody f cdv A outer s H vs Q E hr h, ⟨at_, fn, F.kp⟩, F.binds bo⟩
theorem MethAt.make {C : Addr} {q : Str} {x : Str} {st : Stmt} {N ps : List Str} {k : Nat} {sp : Sp} (F : MethAt K C "__init__" q st) (hm : mg x = some (.ref C)) (mk : PySem.W.makesIn K C = true) (kC : PySem.W.keepIn K (.ref C) = true) (S : FnScope N ps (defScope st)) (bo : BindOkQ "__init__" q st ps) (len : ∀ vs H Q E, sp vs H Q E → vs.length = ps.length)
    (hbody : ∀ (f : Addr) (cdv : Value) (A : Around) (outer : List Env) (s : Shared) (H : Hp) (vs : List V) (Q : VK) (E : XK), Room k (A.deeper (envOfC q (defScope st) s.heap.objs.size f cdv)) → sp vs H Q E →
      ∃ t, PSs (cxOf CX0 P w K mg base N q (defScope st) f cdv A outer s H E).nox (defBody st) t ∧ t { nx := fun _ H' => Q .non H', rt := Q } (start N vs) H) : HasMk P w K mg base CX0 C (k + 1) x sp := by
  obtain ⟨f, fd, F, at_, fn⟩ := F.ex
  exact ⟨f, fd, ps, F.ok S len fun cdv A outer s H vs Q E hr h => hbody f cdv A outer s H vs Q E hr h, ⟨mk, at_, fn, kC⟩, F.binds bo, hm⟩
theorem MethTab.ok {C : Addr} {m q : Str} {st : Stmt} {N ps : List Str} {k : Nat} {sp : Sp} {c Pt : Addr} (F : MethTab K C m q st c Pt) (S : FnScope N ps (defScope st)) (bo : BindOkQ m q st ps) (len : ∀ vs H Q E, sp vs H Q E → vs.length = ps.length)
    (hbody : ∀ (f : Addr) (A : Around) (outer : List Env) (s : Shared) (H : Hp) (vs : List V) (Q : VK) (E : XK), Room k (A.deeper (envOfC q (defScope st) s.heap.objs.size f (.ref c))) → sp vs H Q E →
      ∃ t, PSs (cxOf L2.CX0 P w K mg base N q (defScope st) f (.ref c) A outer s H E).nox (defBody st) t ∧ t { nx := fun _ H' => Q .non H', rt := Q } (L2.start N vs) H) : HasM P w K mg base L2.CX0 C (k + 1) m sp := by
  obtain ⟨f, oc, od, an, kV, doc, pm, ct, osl, lk, hcd, hm⟩ := F.ex
  refine ⟨f, _, ps, fn_of lk hcd S len fun A outer s H vs Q E hr hsp => ?_, hm, Binds.all (bo kV doc pm an (.ref c) ct)⟩
  obtain ⟨t, h, q⟩ := hbody f A outer s H vs Q E hr hsp
  exact ⟨t, h.nox, q⟩
theorem MethAt.mk' {C f : Addr} {m q : Str} {st : Stmt} {oc : Value} {od an : Option Addr} {osl : Array (Option Value)} {kV doc pm cdv ct : Value} (a : PySem.W.findIn K (.ref C) m = some (some (.ref f))) (i : PySem.W.isFn K (.ref f) = true)
    (l : K.lookup f = some ⟨oc, od, .func (PySem.W.fnOf m q (defArgs st) (defBody st) (defScope st) .none kV doc pm an cdv ct), osl⟩) (c : PySem.W.codeIn K cdv q = true) (k : PySem.W.keepIn K (.ref f) = true) : MethAt K C m q st := ⟨f, _, fun_mk l c k, a, i⟩
/-- an address; a function's data; a record's row -/
def asRef : Value → Option Addr
  | .ref a => some a
  | _ => none
def asFn (o : Obj) : Option FuncData := match o.data with
  | .func d => some d
  | _ => none
def asRow (o : Obj) : Array Value := match o.data with
  | .fields r => r
  | _ => #[]
theorem asRef_some {v : Value} {a : Addr} (h : asRef v = some a) : v = .ref a := by
  cases v <;> simp [asRef] at h
  rw [h]
/-- the code object of the def at f, and its table -/
def tabFn (K : PySem.W.Frag) (f : Addr) : Option (Addr × Addr) :=
  ((K.lookup f).bind asFn).bind fun d => (asRef d.code).bind fun c => ((K.lookup c).bind fun o => (asRow o)[11]?.bind asRef).map fun t => (c, t)
theorem tabFn_code {K : PySem.W.Frag} {f c Pt : Addr} {oc : Value} {od : Option Addr} {fd : FuncData} {osl : Array (Option Value)} (l : K.lookup f = some ⟨oc, od, .func fd, osl⟩) (t : tabFn K f = some (c, Pt)) : fd.code = .ref c := by
  obtain ⟨d, hd, h1⟩ := Option.bind_eq_some_iff.mp t
  rw [l] at hd
  obtain ⟨k, hk, h2⟩ := Option.bind_eq_some_iff.mp h1
  obtain ⟨_, _, e⟩ := Option.map_eq_some_iff.mp h2
  have ek : k = c := congrArg Prod.fst e
  cases (show some fd = some d from hd)
  rw [asRef_some hk, ek]
theorem MethTab.mk' {C f c Pt : Addr} {m q : Str} {st : Stmt} {oc : Value} {od an : Option Addr} {osl : Array (Option Value)} {kV doc pm cdv ct : Value} (a : PySem.W.findIn K (.ref C) m = some (some (.ref f))) (i : PySem.W.isFn K (.ref f) = true)
    (l : K.lookup f = some ⟨oc, od, .func (PySem.W.fnOf m q (defArgs st) (defBody st) (defScope st) .none kV doc pm an cdv ct), osl⟩) (cc : PySem.W.codeIn K cdv q = true) (k : PySem.W.keepIn K (.ref f) = true) (t : tabFn K f = some (c, Pt)) : MethTab K C m q st c Pt := by
  have e : cdv = .ref c := tabFn_code l t
  subst e
  exact ⟨f, oc, od, an, kV, doc, pm, ct, osl, l, cc, a, i, k⟩
end
section
variable {X : Cx} {CX : CXT} {k j : Nat} {C : Addr} {sp : Sp} {E : XK} {m x : Str} {p pos apos : Pos} {o e : Expr} {es : List Expr} {to : TE} {t : TA} {pl : Sem Bool}
theorem pe_hasM (h : HasM X.prog X.w X.K X.mg X.base CX C k m sp) (cl : Cls X.K C) (hr : Room j X.A) (hk : k ≤ j) (ho : PE X o to) (hx : Passes CX X E) (ha : PA X (e :: es) t)
    (hst : starEach (e :: es) X.env = (false, eval e X.env) :: starEach es X.env := by rfl) (hpl : (backTo pos (starEach es X.env)).any (·.1) = false := by rfl)
    (ht : eval (.Call (.Attribute o m apos) (e :: es) [] pos) X.env = (do
      let ov ← eval o X.env
      standAt apos.atName
      let (f, first) ← holding [ov] (getMethod ov m pl)
      callWith pos f first (backTo pos (starEach (e :: es) X.env)) (backToKw pos (keywordEach [] X.env))) := by rfl) :
    PE X (.Call (.Attribute o m apos) (e :: es) [] pos) (tMeth C m sp [] E to t) := by
  obtain ⟨f, fd, ps, F, hm, b⟩ := h.ex
  exact pe_meth ho cl hm F (hr.mono hk) b .nil hx ha hst hpl ht
theorem pe_hasM0 (h : HasM X.prog X.w X.K X.mg X.base CX C k m sp) (cl : Cls X.K C) (hr : Room j X.A) (hk : k ≤ j) (ho : PE X o to) (hx : Passes CX X E)
    (ht : eval (.Call (.Attribute o m apos) [] [] pos) X.env = (do
      let ov ← eval o X.env
      standAt apos.atName
      let (f, first) ← holding [ov] (getMethod ov m pl)
      callWith pos f first (backTo pos (starEach [] X.env)) (backToKw pos (keywordEach [] X.env))) := by rfl) :
    PE X (.Call (.Attribute o m apos) [] [] pos) (tMeth C m sp [] E to tNil) := by
  obtain ⟨f, fd, ps, F, hm, b⟩ := h.ex
  exact pe_meth0 ho cl hm F (hr.mono hk) b .nil hx ht
theorem pe_hasMk (h : HasMk X.prog X.w X.K X.mg X.base CX C k x sp) (hr : Room j X.A) (hk : k + 1 ≤ j) (hg : Gl X x) (hx : Passes CX X E) (ha : PA X (e :: es) t)
    (hdb : (x == ("__debug__" : Str)) = false := by decide) (he : starEach (e :: es) X.env = (false, eval e X.env) :: starEach es X.env := by rfl) (hpl : (backTo pos (starEach es X.env)).any (·.1) = false := by rfl) :
    PE X (.Call (.Name x p) (e :: es) [] pos) (tMake C sp [] E t) := by
  obtain ⟨f, fd, ps, F, M, b, hm⟩ := h.ex
  exact pe_make M F (hr.mono hk) hg hm b .nil hx ha hdb he hpl
theorem kpe_fld {K : PySem.W.Frag} {f : Str} (hK : X.K = K) (he : PE X e to) (hb : attributeBase e f X.env (eval e X.env) = eval e X.env := by rfl) : PE X (.Attribute e f pos) (tFld K to f) := by subst hK; exact pe_fld he hb
theorem kps_fld {K : PySem.W.Frag} {f : Str} {value : Expr} {tv : TE} {pos' : Pos} (hK : X.K = K) (ha : PE X o to) (hv : PE X value tv) (hs : swapsWith value (some (.Attribute o f pos')) pos.line X.env = pure false := by rfl) : PS X (.Assign [.Attribute o f pos'] value pos) (sFld K to tv f) := by subst hK; exact ps_fld ha hv hs
end
section
variable {K : PySem.W.Frag} {σ : L2.St} {H : Hp} {Q : VK} {nn bb cc : L2.St → Hp → Prop} {rr : VK} {C : Addr} {sp : Sp} {E : XK} {m f : Str} {to tv : TE} {t : TA}
theorem r_meth (k : to σ H fun x H1 => ∃ a dx fs, x = .ref a ∧ H1 a = some (.ins C dx fs) ∧ fs.lookup m = none ∧ t σ H1 fun vs H2 => sp (x :: vs) H2 Q E) : tMeth C m sp [] E to t σ H Q := by
  have e : (fun x (H1 : Hp) => ∃ a dx fs, x = V.ref a ∧ H1 a = some (.ins C dx fs) ∧ fs.lookup m = none ∧ t σ H1 fun vs H2 => sp (x :: (vs ++ [])) H2 Q E) = fun x H1 => ∃ a dx fs, x = V.ref a ∧ H1 a = some (.ins C dx fs) ∧ fs.lookup m = none ∧ t σ H1 fun vs H2 => sp (x :: vs) H2 Q E := by
    funext x H1
    simp only [List.append_nil]
  show to σ H fun x H1 => ∃ a dx fs, x = V.ref a ∧ H1 a = some (.ins C dx fs) ∧ fs.lookup m = none ∧ t σ H1 fun vs H2 => sp (x :: (vs ++ [])) H2 Q E
  rw [e]
  exact k
theorem r_make (k : t σ H fun vs H1 => ∀ x dx, H1 x = none → H1 dx = none → dx ≠ x → sp (.ref x :: vs) (upd (upd H1 dx (.own x)) x (.ins C dx [])) (fun v H2 => v = .non ∧ Q (.ref x) H2) E) : tMake C sp [] E t σ H Q := by
  have e : (fun vs (H1 : Hp) => ∀ x dx, H1 x = none → H1 dx = none → dx ≠ x → sp (.ref x :: (vs ++ [])) (upd (upd H1 dx (.own x)) x (.ins C dx [])) (fun v H2 => v = .non ∧ Q (.ref x) H2) E) = fun vs H1 => ∀ x dx, H1 x = none → H1 dx = none → dx ≠ x → sp (.ref x :: vs) (upd (upd H1 dx (.own x)) x (.ins C dx [])) (fun v H2 => v = .non ∧ Q (.ref x) H2) E := by
    funext vs H1
    simp only [List.append_nil]
  show t σ H fun vs H1 => ∀ x dx, H1 x = none → H1 dx = none → dx ≠ x → sp (.ref x :: (vs ++ [])) (upd (upd H1 dx (.own x)) x (.ins C dx [])) (fun v H2 => v = .non ∧ Q (.ref x) H2) E
  rw [e]
  exact k
theorem r_fld (k : to σ H fun x H1 => ∃ a C dx fs v, x = .ref a ∧ H1 a = some (.ins C dx fs) ∧ Cls K C ∧ NoAttr K C f ∧ fs.lookup f = some v ∧ Q v H1) : tFld K to f σ H Q := k
theorem r_setFld (k : tv σ H fun y H1 => to σ H1 fun x H2 => ∃ a C dx fs, x = .ref a ∧ H2 a = some (.ins C dx fs) ∧ Cls K C ∧ NoAttr K C f ∧ fs.length < 1000 ∧ nn σ (upd H2 a (.ins C dx (putF f y fs)))) : sFld K to tv f ⟨nn, rr, bb, cc⟩ σ H := k
theorem inV_bls (n : Bool) : ∀ ns : List Bool, inV (.bl n) (ns.map V.bl) = decide (n ∈ ns)
  | [] => by simp [inV]
  | a :: r => by
    have ih := inV_bls n r
    unfold inV at ih ⊢
    rw [List.map_cons, List.any_cons, ih]
    have e : eqV (.bl a) (.bl n) = decide (n = a) := by cases a <;> cases n <;> rfl
    simp [e, List.mem_cons]
theorem flat_bls (ns : List Bool) : (ns.map V.bl).all flatV = true := by
  rw [List.all_map]
  exact List.all_eq_true.mpr fun _ _ => rfl
theorem r_notInB {a : Addr} {n : Bool} {ns : List Bool} (h : SqL K H a (ns.map V.bl)) (k : Q (.bl (!decide (n ∈ ns))) H) : rIn K true (.bl n) (.ref a) H Q := ⟨a, _, rfl, .inl h, rfl, flat_bls ns, by rw [inV_bls]; exact k⟩
end
section
variable {g : TG} {tt : TT} {te : TE} {vs : List Nat} {σ σw : L2.St} {Q : VK} {D : Addr} {H1 : Hp}
theorem lcw_tup {K : PySem.W.Frag} {a : Addr} {xs : List V} (Pv : Nat → Hp → Prop) (hw : wipe σ vs = σw) (h0 : Pv 0 (upd H1 D (.lst []))) (hl : ∀ i H, i ≤ xs.length → Pv i H → SqT K H a xs)
    (hs : ∀ i x H, xs[i]? = some x → Pv i H → g x σw H fun σ2 H2 => wipe σ2 vs = σw ∧ tt σ2 H2 fun b H3 =>
      if b = true then te σ2 H3 fun y H4 => ∃ acc, H4 D = some (.lst acc) ∧ acc.length < sizeLine ∧ Pv (i + 1) (upd H4 D (.lst (acc ++ [y]))) else Pv (i + 1) H3) (hd : ∀ H, Pv xs.length H → Q (.ref D) H) : LcW (Itt K a) g tt te vs σ Q D H1 := by
  subst hw
  exact lc_tup Pv h0 hl hs hd
end
end Rd

/-! ## own errors: raised, caught, asked for their kind -/
namespace Rd
open PySem PySem.Spec PyProof.Rows L2 LamX
/-! ### list.count of bools -/
theorem vals_bls : ∀ {bs : List Bool} {us : List Value}, Vals (bs.map V.bl) us → us = bs.map Value.bool
  | [], _, .nil => rfl
  | b :: bs, _, .cons r k => by
    have e := vals_bls k
    have e2 : _ = Value.bool b := r
    rw [e2, e]
    rfl
theorem count_bls (k : Bool) : ∀ bs : List Bool, (bs.map Value.bool).countP (isBoolOf k) = bs.count k
  | [] => rfl
  | b :: bs => by
    rw [List.map_cons, List.countP_cons, List.count_cons, count_bls k bs]
    rfl
def rCountB (K : PySem.W.Frag) : V → List V → Hp → VK → Prop := fun x xs H Q => ∃ (a : Addr) (bs : List Bool) (k : Bool), x = V.ref a ∧ xs = [.bl k] ∧ SqL K H a (bs.map V.bl) ∧ Q (.int (bs.count k : Nat)) H
theorem mt_countB {X : Cx} : MtR X "list.count" (rCountB X.K) := by
  intro pins s σ H x xs v us Q I rx rxs h
  obtain ⟨a, bs, k, rfl, rfl, hs, q⟩ := h
  cases rx
  cases rxs with
  | cons ry rt =>
    cases rt
    cases ry
    obtain ⟨its, rv, ⟨⟨cls, dd, data, sl⟩, n, ho, hc, hdn, hd⟩, hlen⟩ := I.list hs
    simp only at hc hd
    subst hc hd
    have e := vals_bls rv
    subst e
    refine call_meets PySem.F.slot_list_count ⟨_, ho, rfl⟩ PySem.F.entry_list_count (PySem.F.args_list_count_2 _ _) (SeqAt.list_countAt a (bs.map Value.bool).toArray n dd sl (.bool k) (isBoolOf k)) ⟨ho, fun y hy => ?_, ?_⟩
    · have hy' : y ∈ bs.map Value.bool := by simpa using hy
      obtain ⟨b, _, rfl⟩ := List.mem_map.mp hy'
      exact SeqAt.EqAt.bool_bool b k
    · have e2 : (bs.map Value.bool).toArray.toList = bs.map Value.bool := rfl
      rw [e2, count_bls]
      exact ⟨.int (bs.count k : Nat), H, I.tok _, ⟨_, rfl⟩, q⟩
theorem kmt_countB {X : Cx} {K : PySem.W.Frag} (h : X.K = K) : MtR X "list.count" (rCountB K) := by subst h; exact mt_countB
theorem kmt_index {X : Cx} {K : PySem.W.Frag} (h : X.K = K) : MtR X "list.index" (rIndex K) := by subst h; exact mt_index
section
variable {K : PySem.W.Frag} {σ : L2.St} {H : Hp} {Q : VK}
theorem r_countB {a : Addr} {bs : List Bool} {k : Bool} (h : SqL K H a (bs.map V.bl)) (q : Q (.int (bs.count k : Nat)) H) : rCountB K (.ref a) [.bl k] H Q := ⟨a, bs, k, rfl, rfl, h, q⟩
theorem r_indexB {a : Addr} {bs : List Bool} {j : Nat} (h : SqL K H a (bs.map V.bl)) (hj : bs[j]? = some true) (hn : ∀ m, m < j → bs[m]? = some false) (q : Q (.int (j : Nat)) H) : rIndex K (.ref a) [.bl true] H Q :=
  ⟨a, _, .bl true, j, .bl true, rfl, rfl, h, rfl, flat_bls bs, by rw [List.getElem?_map, hj]; rfl, rfl, fun m z hm hz => by
    rw [List.getElem?_map, hn m hm] at hz
    cases hz
    rfl, q⟩
end
/-! ### classes of errors -/
/-- the name x stands for the class at c -/
structure ClsG (mg : Str → Option Value) (x : Str) (c : Addr) : Prop where
  g : mg x = some (.ref c)
theorem pe_clsG {X : Cx} {x : Str} {c : Addr} {pos : Pos} (h : ClsG X.mg x c) (hg : Gl X x) (hd : (x == ("__debug__" : Str)) = false := by decide) : PE X (.Name x pos) (tC (.ref c)) := pe_glob hg h.g rfl hd
/-- the class at c may be raised: its maker is ValueError's -/
structure ErrR (K : PySem.W.Frag) (c : Addr) : Prop where
  ex : PySem.W.excIn K c [.type "ValueError", .type "Exception", .type "BaseException", .type "object"] "ValueError.__new__" = true
  k : PySem.W.keepIn K (.ref c) = true
  sub : PySem.W.subIn K (.ref c) (.type "BaseException") = some true
  ty : PySem.W.typeIn K (.ref c) = some (.type "type")
def tRaiseC (c : Addr) (W : WX) : TS := fun _ σ H => W (.ref c) none σ H
theorem ps_raiseC {X : Cx} {W : WX} {x m : Str} {c : Addr} {j : Nat} {p p2 pos pos2 : Pos} (hc : X.calm = true) (tk : Takes X W) (G : ClsG X.mg x c) (R : ErrR X.K c) (hg : Gl X x := by rfl) (hdb : (x == ("__debug__" : Str)) = false := by decide) :
    PS X (.Raise (some (.Call (.Name x p) [.Constant (.str m) j p2] [] pos)) none pos2) (tRaiseC c W) := ps_raise hc tk (pmk_own PySem.F.excBase_ValueError R.ex G.g R.k (raises_own R.sub R.ty) hg hdb)
theorem r_raiseC {c : Addr} {W : WX} {σ : L2.St} {H : Hp} {D : Ends} (k : W (.ref c) none σ H) : tRaiseC c W D σ H := k
/-- never read -/
theorem pe_no {X : Cx} {e : Expr} : PE X e (fun _ _ _ => False) := ⟨fun _ _ _ _ _ _ h => h.elim⟩
/-- isinstance(e, c), e the error that the suite holds -/
def rIsX (K : PySem.W.Frag) (a : Addr) (cls : Value) (d : Option Addr) : List V → Hp → VK → Prop := fun xs H Q => ∃ (D : Addr) (c : V) (cv : Value) (b : Bool), cls = .ref D ∧ d = none ∧ ExcC K D ∧ xs = [.ref a, c] ∧ (∀ u, RelV c u → u = cv) ∧ PySem.W.kitOne K (.ref D) cv = some b ∧ Q (.bl b) H
theorem kc_isX {X : Cx} {K : PySem.W.Frag} {a : Addr} {oe : Obj} {cls : Value} {d : Option Addr} {pn : List (Addr × Obj)} (hK : X.K = K) (hz : Zc cls d oe) (hf : ∃ vs, oe.data = .fields vs) : CallR (X.suite a ((a, oe) :: pn)) (.builtin "isinstance") (rIsX K a cls d) := by
  subst hK
  intro pins s σ H xs us Q I r h
  obtain ⟨D, c, cv, b, rfl, rfl, C, rfl, hcv, e, q⟩ := h
  exact call_isE C hz hf pins s σ H _ us Q I r ⟨c, cv, b, rfl, hcv, e, q⟩
section
variable {K : PySem.W.Frag} {H : Hp} {Q : VK}
theorem r_isXc {a D c : Addr} {b : Bool} (C : ExcC K D) (e : PySem.W.kitOne K (.ref D) (.ref c) = some b) (q : Q (.bl b) H) : rIsX K a (.ref D) none [.ref a, .ref c] H Q := ⟨D, .ref c, .ref c, b, rfl, rfl, C, rfl, fun _ r => r, e, q⟩
theorem r_isXt {a D : Addr} {n : String} {b : Bool} (C : ExcC K D) (e : PySem.W.kitOne K (.ref D) (.type n) = some b) (q : Q (.bl b) H) : rIsX K a (.ref D) none [.ref a, .ty n] H Q := ⟨D, .ty n, .type n, b, rfl, rfl, C, rfl, fun _ r => r, e, q⟩
end
/-- the error class at D: the i-th of the kinds at cs, over the class at G, a ValueError -/
structure KindOf (K : PySem.W.Frag) (G : Addr) (cs : Nat → Addr) (D : Addr) (i : Nat) : Prop where
  c : ExcC K D
  g : PySem.W.exmOne K (.ref D) (.ref G) = some true
  v : PySem.W.kitOne K (.ref D) (.type "ValueError") = some true
  is : ∀ j, j < 7 → PySem.W.kitOne K (.ref D) (.ref (cs j)) = some (decide (j = i))
/-- the words of the kinds -/
def kindW (i : Nat) : Str := (["BadGear", "BadStanding", "BadMoves", "BadGoal", "BadMarks", "BadMark", "BadText"] : List Str).getD i ""
/-- _law_kind(work): the work's end; of an error its word -/
def TTKind (K : PySem.W.Frag) (G : Addr) (cs : Nat → Addr) : (XK → Hp → VK → Prop) → Hp → VK → Prop := fun tl H Q =>
  tl (fun cls d H' => ∃ D i, cls = .ref D ∧ d = none ∧ KindOf K G cs D i ∧ i < 6 ∧ ∀ H'', Same H' H'' → Q (.str (kindW i)) H'') H Q
/-! ### defs and methods that raise; a lambda handed to a def -/
section
variable {P : Program} {w : World} {K : PySem.W.Frag} {mg : Str → Option Value} {base : Heap}
theorem MethAt.okX {C : Addr} {m q : Str} {st : Stmt} {N ps : List Str} {k : Nat} {sp : Sp} (F : MethAt K C m q st) (S : FnScope N ps (defScope st)) (bo : BindOkQ m q st ps) (len : ∀ vs H Q E, sp vs H Q E → vs.length = ps.length)
    (hbody : ∀ (f : Addr) (cdv : Value) (A : Around) (outer : List Env) (s : Shared) (H : Hp) (vs : List V) (Q : VK) (E : XK), Room k (A.deeper (envOfC q (defScope st) s.heap.objs.size f cdv)) → sp vs H Q E →
      ∃ t, PSs (cxOf (L2.CX P w) P w K mg base N q (defScope st) f cdv A outer s H E) (defBody st) t ∧ t { nx := fun _ H' => Q .non H', rt := Q } (start N vs) H) : HasM P w K mg base (L2.CX P w) C (k + 1) m sp := by
  obtain ⟨f, fd, F, at_, fn⟩ := F.ex
  exact ⟨f, fd, ps, F.okX S len fun cdv A outer s H vs Q E hr h => hbody f cdv A outer s H vs Q E hr h, ⟨at_, fn, F.kp⟩, F.binds bo⟩
theorem FunAt.okX {x : Str} {st : Stmt} {N ps : List Str} {k : Nat} {sp : Sp} (F : FunAt K mg x st) (S : FnScope N ps (defScope st)) (bo : BindOk x st ps) (len : ∀ vs H Q E, sp vs H Q E → vs.length = ps.length)
    (hbody : ∀ (f : Addr) (cdv : Value) (A : Around) (outer : List Env) (s : Shared) (H : Hp) (vs : List V) (Q : VK) (E : XK), Room k (A.deeper (envOfC x (defScope st) s.heap.objs.size f cdv)) → sp vs H Q E →
      ∃ t, PSs (cxOf (L2.CX P w) P w K mg base N x (defScope st) f cdv A outer s H E) (defBody st) t ∧ t { nx := fun _ H' => Q .non H', rt := Q } (start N vs) H) : Has P w K mg base (L2.CX P w) (k + 1) x sp := by
  obtain ⟨f, fd, F, hm⟩ := F.ex
  exact ⟨f, fd, ps, F.okX S len fun cdv A outer s H vs Q E hr h => hbody f cdv A outer s H vs Q E hr h, hm, F.kp, F.binds bo⟩
end
/-- x(lambda: body), x a def that calls what it is handed -/
theorem pe_kindL {X : Cx} {T : List (Addr × Str)} {TT : (XK → Hp → VK → Prop) → Hp → VK → Prop} {x a : Str} {st : Stmt} {c P : Addr} {k : Nat} {Ng : List Str}
    {params : Arguments} {body : Expr} {scope : Scope} {t : XK → TE} {p lpos pos : Pos} (F : FunAt X.K X.mg x st) (Sg : FnScope Ng [a] (defScope st)) (bo : BindOk x st [a]) (hg : Gl X x) (hNg : Ng[0]? = some a) (hva : Vis (defScope st) a)
    (hG : ∀ (g : Addr) (cdg : Value), GivesTo X Ng x (defScope st) g cdg (defBody st) a (X.env.qual ++ "<lambda>") TT)
    (TB : TabB X.base X.mg c P) (hcode : X.env.code = .ref c) (hmT : (P, X.env.qual ++ "<lambda>") ∈ T) (hu : ∀ p ∈ T, p.1 = P → p.2 = X.env.qual ++ "<lambda>") (hr : Room (k + 2) X.A) (L : LamS X.env.scope scope) (hdef : defaultsOf params X.env = ([], []))
    (hbind : ∀ (q : Str) (cl : List (Str × Addr)) (pm cv ctv : Value), bindArgs (PySem.W.kla_fn "<lambda>" q params body scope cl pm cv ctv) ⟨[], []⟩ = pure [])
    (hbody : ∀ (A : Around) (outer : List Env) (s : Shared) (H : Hp) (E : XK) (f c' : Addr), Room k (A.deeper (lamEnv X scope s.heap.objs.size f c')) → PE (lamCx X A outer s H E scope f c') body (t E))
    (hdb : (x == ("__debug__" : Str)) = false := by decide) (hd : (a == ("__debug__" : Str)) = false := by decide) (hcd : (a == ("__classdict__" : Str)) = false := by decide) :
    PE X (.Call (.Name x p) [.Lambda params body scope lpos] [] pos) (tLam T TT t) := by
  obtain ⟨f, fd, F, hm⟩ := F.ex
  obtain ⟨oc, od, kV, doc, pm, an, cdv, ct, osl, rfl, lk, hcd'⟩ := F.ex
  exact pe_lamcall hg hm F.kp lk hcd' (Binds.all (bo kV doc pm an cdv ct)) Sg hNg hva (hG f cdv) TB hcode hmT hu hr L hdef hbind hbody hdb hd hcd
theorem r_lam {T : List (Addr × Str)} {TT : (XK → Hp → VK → Prop) → Hp → VK → Prop} {t : XK → TE} {σ : L2.St} {H : Hp} {Q : VK} (hT : Tabs T H) (k : ∀ H1, ExtN H H1 → Tabs T H1 → TT (fun E H' Q' => t E σ H' Q') H1 Q) : tLam T TT t σ H Q := ⟨hT, k⟩
/-- what a lambda's callee lets out is let out by the lambda -/
theorem passLam {X : Cx} {A : Around} {outer : List Env} {s : Shared} {H : Hp} {E : XK} {scope : Scope} {f c' : Addr} : Passes (L2.CX (lamCx X A outer s H E scope f c').prog (lamCx X A outer s H E scope f c').w) (lamCx X A outer s H E scope f c') E :=
  passes_call (W := fun cls d _ H => E cls d H) (takes_of rfl rfl rfl rfl) fun _ _ _ _ h => h
theorem kp_gives {K : PySem.W.Frag} {G : Addr} {cs : Nat → Addr} {Ng : List Str} {x a e q : Str} {X : Cx} {sg : Scope} {g : Addr} {cdg : Value} {b₀ : Stmt} {suite : List Stmt} {nE : Str} {p1 p2 p3 np pos pos' : Pos} {ts : Addr → Value → Option Addr → TS}
    (hK : X.K = K) (hge : sg.names.lookup nE = some .globalImplicit) (hme : ClsG X.mg nE G) (hde : (nE == ("__debug__" : Str)) = false) (h0 : ∀ f : Addr, (L2.start Ng [V.ref f])[0]? = some (some (V.ref f))) (hN : Ng.Nodup) (h1 : Ng[1]? = some e) (hl : sg.names.lookup e = some .local)
    (hsu : ∀ (s : Shared) (H : Hp) (a : Addr) (oe : Obj) (cls : Value) (d : Option Addr) (pn : List (Addr × Obj)), Zc cls d oe → (∃ vs, oe.data = .fields vs) → PSs ((cxOf C8.CX0 X.prog X.w X.K X.mg X.base Ng x sg g cdg X.A X.stack s H C8.E0).nox.suite a ((a, oe) :: pn)) (b₀ :: suite) (ts a cls d))
    (hts : ∀ (D : Addr) (i : Nat) (ea : Addr) (σ : L2.St) (H' : Hp) (En : Ends), KindOf K G cs D i → i < 6 → H' ea = none → σ.length = Ng.length → (∀ H'', Same H' H'' → En.rt (.str (kindW i)) H'') → ts ea (.ref D) none En (σ.set 1 (some (.ref ea))) H') :
    GivesTo X Ng x sg g cdg [.Try [.Return (some (.Call (.Name a p1) [] [] p2)) p3] [.ExceptHandler (some (.Name nE np)) (some e) (b₀ :: suite) pos'] [] [] pos] a q (TTKind K G cs) := by
  intro f c' s H Q tl act hc h
  have hgl : Gl (cxOf C8.CX0 X.prog X.w X.K X.mg X.base Ng x sg g cdg X.A X.stack s H C8.E0).nox nE := hge
  refine ⟨_, pss_one (ps_try_as (X := (cxOf C8.CX0 X.prog X.w X.K X.mg X.base Ng x sg g cdg X.A X.stack s H C8.E0).nox) (i := 1) (c := .ref G) (Wout := fun _ _ _ _ => False) (ts := ts)
      (tb := fun W D σ H => ∃ Ech : XK, (∀ cls d σ' H', σ'.length = Ng.length → Ech cls d H' → W cls d σ' H') ∧ σ[0]? = some (some (.ref f)) ∧ H c' = some (CodeO c' q) ∧ tl Ech H D.rt)
      rfl rfl hN h1 hl ⟨hgl, hde, .inl hme.g⟩ L2.takes0 (fun W pn xe tk _ => ?_) (fun ea oe cls d pn hz hf => hsu s H ea oe cls d pn hz hf)), ?_⟩
  · refine ⟨fun pins s' σ H' D I h' => ?_⟩
    obtain ⟨Ech, hW, h1, h2, h3⟩ := h'
    have tk' : Takes ((cxOf C8.CX0 X.prog X.w X.K X.mg X.base Ng x sg g cdg X.A X.stack s H C8.E0).tr pn xe) (fun cls d σ' H' => σ'.length = Ng.length → W cls d σ' H') := fun u s' ⟨a, B, sI, pins, σ', H', cls, d, e1, I', nb, up, sky, na, os, ag, w⟩ => tk u s' ⟨a, B, sI, pins, σ', H', cls, d, e1, I', nb, up, sky, na, os, ag, w I'.len⟩
    have hp := act _ pn xe Ech p1 p2 tk' fun cls d σ' H' e hl => hW cls d σ' H' hl e
    have hq := pss_one (ps_ret (pos := p3) hp)
    exact hq.run pins s' σ H' D I ⟨h1, h2, h3⟩
  · subst hK
    exact ⟨fun cls d H' => ∃ D i, cls = .ref D ∧ d = none ∧ KindOf X.K G cs D i ∧ i < 6 ∧ ∀ H'', Same H' H'' → Q (.str (kindW i)) H'', fun cls d σ' H' hl ⟨D, i, e1, e2, hk, hi, e3⟩ => ⟨true, by rw [e1]; exact hk.g, fun _ ea na => by rw [e1, e2]; exact hts D i ea σ' H' _ hk hi na hl e3, fun z => nomatch z⟩, h0 f, hc, h⟩
end Rd
namespace Rd
open PySem PySem.Spec PyProof.Rows L2 LamX
theorem r_kind {K : PySem.W.Frag} {G : Addr} {cs : Nat → Addr} {tl : XK → Hp → VK → Prop} {H : Hp} {Q : VK} (k : tl (fun cls d H' => ∃ D i, cls = .ref D ∧ d = none ∧ KindOf K G cs D i ∧ i < 6 ∧ ∀ H'', Same H' H'' → Q (.str (kindW i)) H'') H Q) : TTKind K G cs tl H Q := k
theorem kpg_lst {X : Cx} {K : PySem.W.Frag} {es : List Expr} {k : Nat} {t : TGs} {n : Nat} {pos : Pos} (hK : X.K = K) (hc : X.calm = true) (h : PGs X es t)
    (hn : (assignEach es X.env).length = n := by rfl) (hst : (assignEach es X.env).findIdx? (·.1) = none := by rfl) : PG X (.Tuple es k pos) (gLst K n t) := by subst hK; exact pg_lst hc h hn hst
theorem r_gLst {K : PySem.W.Frag} {n : Nat} {t : TGs} {a : Addr} {xs : List V} {σ : L2.St} {H : Hp} {Q : L2.St → Hp → Prop} (h : SqL K H a xs) (hl : xs.length = n) (k : t xs σ H Q) : gLst K n t (.ref a) σ H Q := ⟨a, xs, rfl, h, hl, k⟩
theorem kc_sortedPO {X : Cx} {K : PySem.W.Frag} (h : X.K = K) : CallR X (.builtin "sorted") (rSortedPO K) := by subst h; exact cr_sortedPO
def csL (a b c d e f g : Addr) : Nat → Addr := fun i => [a, b, c, d, e, f, g].getD i 0
theorem count_kind : ∀ i < 7, ([decide (0 = i), decide (1 = i), decide (2 = i), decide (3 = i), decide (4 = i), decide (5 = i), decide (6 = i)] : List Bool).count true = 1 := by decide
theorem index_kind : ∀ i < 7, ([decide (0 = i), decide (1 = i), decide (2 = i), decide (3 = i), decide (4 = i), decide (5 = i), decide (6 = i)] : List Bool)[i]? = some true := by decide
theorem index_kind2 : ∀ i < 7, ∀ m, m < i → ([decide (0 = i), decide (1 = i), decide (2 = i), decide (3 = i), decide (4 = i), decide (5 = i), decide (6 = i)] : List Bool)[m]? = some false := by decide
theorem kindW_ne : ∀ i < 6, ¬ kindW i = "BadText" := by decide +kernel
theorem kindW_at {i : Nat} (h : i < 7) : (((["BadGear", "BadStanding", "BadMoves", "BadGoal", "BadMarks", "BadMark", "BadText"] : List Str)).map V.str)[i]? = some (.str (kindW i)) := by
  rw [List.getElem?_map]
  unfold kindW
  rw [List.getD_eq_getElem?_getD, List.getElem?_eq_getElem (by exact h)]
  rfl
end Rd
namespace Rd
open PySem PySem.W
theorem kit_self {K : Frag} {t : Value} : kitOne K t t = some true := by
  have h : (t == t) = true := beq_self_eq_true t
  unfold kitOne
  rw [if_pos h]
theorem kit_ref {K : Frag} {D C : Addr} {b : Bool} (hd : hasDictIn K C = true) (ht : typeIn K (.ref C) = some (.type "type")) (hs : subIn K (.ref D) (.ref C) = some b) (ne : D ≠ C) : kitOne K (.ref D) (.ref C) = some b := by
  obtain ⟨cd, hc, _⟩ := any_some hd
  have h : ¬ (Value.ref D == Value.ref C) = true := fun z => ne (Value.ref.inj (eq_of_beq z))
  unfold kitOne
  rw [if_neg h]
  show (if ((clsIn K C).isSome && typeIn K (.ref C) == some (.type "type")) = true then subIn K (.ref D) (.ref C) else none) = some b
  rw [hc, ht]
  exact hs
theorem kit_type {K : Frag} {D : Addr} {T : String} {b : Bool} (hm : kitMeta T = true) (hs : subIn K (.ref D) (.type T) = some b) : kitOne K (.ref D) (.type T) = some b := by
  have h : ¬ (Value.ref D == Value.type T) = true := fun z => by cases eq_of_beq z
  unfold kitOne
  rw [if_neg h]
  show (if kitMeta T = true then subIn K (.ref D) (.type T) else none) = some b
  rw [if_pos hm]
  exact hs
end Rd

namespace Rd
open PySem L2
section
variable {P : Program} {w : World} {K : PySem.W.Frag} {mg : Str → Option Value} {base : Heap}
def spStart (K : PySem.W.Frag) : Sp := fun vs H Q _ => ∃ (a : Addr) (ns : List Int), vs = [.ref a] ∧ SqL K H a (ns.map V.int) ∧ ∀ st H', H st = none → Same H H' → St H' st a → Q (.ref st) H'
theorem spStart_i {a : Addr} {ns : List Int} {H : Hp} {Q : VK} {E : XK} (hS : SqL K H a (ns.map V.int)) (k : ∀ st H', H st = none → Same H H' → St H' st a → Q (.ref st) H') : spStart K [.ref a] H Q E := ⟨a, ns, rfl, hS, k⟩
def spLaw (K : PySem.W.Frag) : Sp := fun vs H Q _ => ∃ (a : Addr) (ns : List Int), vs = [.ref a] ∧ SqL K H a (ns.map V.int) ∧ ns.length ≤ 63 ∧ ∀ H', Q (.bl true) H'
theorem ok_law_start (F : FunAt K mg "_law_start" s_law_start) : Has P w K mg base CX0 1 "_law_start" (spStart K) := by
  refine F.ok sc_law_start bo_law_start (fun vs H Q E h => ?_) (fun f cdv A outer s H vs Q E hr h => ?_)
  · obtain ⟨a, ns, rfl, _⟩ := h
    rfl
  · obtain ⟨a, ns, rfl, hS, k⟩ := h
    refine ⟨_, (pss_cons (ps_set (i := 1) sc_law_start.nd rfl (by first | exact Or.inl rfl | exact Or.inr rfl) pe_int)
 (pss_cons (ps_for PassesOwn.never rfl (kpi_list (K := K) rfl (pv 0)) (pg_name (i := 2) sc_law_start.nd rfl (by first | exact Or.inl rfl | exact Or.inr rfl)) (pss_one (ps_set (i := 1) sc_law_start.nd rfl (by first | exact Or.inl rfl | exact Or.inr rfl) (pe_op op_mod (pe_op (kop_add (K := K) rfl) (pe_op (kop_add (K := K) rfl) (pe_op op_mul (pv 1) pe_int) (pv 2)) pe_int) pe_int))))
 (pss_one (ps_ret (pe_lst (pa_cons (pv 0) (pa_cons pe_int (pa_cons (pv 1) (pa_cons pe_int pa_nil))))))))), ?_⟩
    refine r_start (σ' := [some (.ref a), none, none]) rfl ?_
    walk_at "go"
    refine ⟨_, rfl, ⟨_, hS⟩, fw_list (K := K) (a := a) (xs := ns.map V.int) (fun i σ H2 => H2 = H ∧ ∃ m v, σ = [some (.ref a), some (.int m), v] ∧ 0 ≤ m ∧ m < 2147483647) ⟨rfl, 1, none, rfl, by decide, by decide⟩ (fun i σ H2 _ h => h.1 ▸ hS) ?_ ?_⟩
    · rintro i y σ H2 hi ⟨rfl, m, v, rfl, h0, h1⟩
      obtain ⟨z, hz, rfl⟩ := map_at hi
      walk_at "go"
      refine r_I (.inl ⟨by omega, by omega⟩) ?_
      walk_at "go"
      refine r_I (by decide) ?_
      walk_at "go"
      exact ⟨rfl, _, _, rfl, Int.emod_nonneg _ (by decide), Int.emod_lt_of_pos _ (by decide)⟩
    · rintro σ H2 ⟨rfl, m, v, rfl, h0, h1⟩
      walk_at "go"
      intro p np
      walk_at "go"
      exact k p _ np (same_new np) ⟨_, _, _, upd_same, by omega, h0, h1, by omega⟩
def spDrawn (K : PySem.W.Frag) : Sp := fun vs H Q _ => ∃ (st a : Addr) (ns : List Int) (many : Int), vs = [.ref st, .int many] ∧ St H st a ∧ SqL K H a (ns.map V.int) ∧ 0 < many ∧ many.natAbs < 2 ^ 200 ∧
  ∀ (v : Int) (H' : Hp), 0 ≤ v → v < many → St H' st a → Fr H H' → Q (.int v) H'
theorem spDrawn_i {st a : Addr} {ns : List Int} {many : Int} {H : Hp} {Q : VK} {E : XK} (s : St H st a) (hS : SqL K H a (ns.map V.int)) (h0 : 0 < many) (h1 : many.natAbs < 2 ^ 200)
    (k : ∀ (v : Int) (H' : Hp), 0 ≤ v → v < many → St H' st a → Fr H H' → Q (.int v) H') : spDrawn K [.ref st, .int many] H Q E := ⟨st, a, ns, many, rfl, s, hS, h0, h1, k⟩
theorem ok_law_drawn (B : Bl mg) (F : FunAt K mg "_law_drawn" s_law_drawn) : Has P w K mg base CX0 1 "_law_drawn" (spDrawn K) := by
  refine F.ok sc_law_drawn bo_law_drawn (fun vs H Q E h => ?_) (fun f cdv A outer s H vs Q E hr h => ?_)
  · obtain ⟨st, a, ns, many, rfl, _⟩ := h
    rfl
  · obtain ⟨st, a, ns, many, rfl, hs, hS, h0, h1, k⟩ := h
    obtain ⟨i, m, r, hst, hi, hm0, hm1, hr0⟩ := hs.ex
    have wd : CDivW 0 many := wide_div h0 h1 (by decide) (by decide)
    refine ⟨_, (pss_cons (ps_if (pt_cmpR op_gt (pe_ix (kix (K := K) rfl) (pv 0) pe_int (fun _ _ => rfl)) pe_int (nomark _)) (pss_cons (ps_set (i := 2) sc_law_drawn.nd rfl (by first | exact Or.inl rfl | exact Or.inr rfl) (pe_op op_mod (pe_ix (kix (K := K) rfl) (pv 0) pe_int (fun _ _ => rfl)) (pv 1)))
 (pss_cons (ps_asg (pe_op op_fdivW (pe_ix (kix (K := K) rfl) (pv 0) pe_int (fun _ _ => rfl)) (pv 1)) (pg_sub (pv 0) pe_int set_list))
 (pss_one (ps_ret (pv 2))))) pss_nil)
 (pss_cons (ps_asg (pe_op (kop_add (K := K) rfl) (pe_ix (kix (K := K) rfl) (pv 0) pe_int (fun _ _ => rfl)) pe_int) (pg_sub (pv 0) pe_int set_list))
 (pss_cons (ps_if (pt_cmpR op_le (pe_ix (kix (K := K) rfl) (pv 0) pe_int (fun _ _ => rfl)) (pe_callB (kc_len (K := K) rfl) rfl B.len (by decide +kernel) (pa_cons (pe_ix (kix (K := K) rfl) (pv 0) pe_int (fun _ _ => rfl)) pa_nil)) (nomark _)) (pss_cons (ps_set (i := 3) sc_law_drawn.nd rfl (by first | exact Or.inl rfl | exact Or.inr rfl) (pe_ix (kix (K := K) rfl) (pe_ix (kix (K := K) rfl) (pv 0) pe_int (fun _ _ => rfl)) (pe_op op_sub (pe_ix (kix (K := K) rfl) (pv 0) pe_int (fun _ _ => rfl)) pe_int) (fun _ _ => rfl)))
 (pss_cons (ps_asg (pe_ifExp (pt_cmpR op_ge (pv 3) (pe_op op_pow pe_int pe_int) (nomark _)) (pe_op op_fdivW (pv 3) (pv 1)) pe_int) (pg_sub (pv 0) pe_int set_list))
 (pss_one (ps_ret (pe_op op_mod (pv 3) (pv 1)))))) pss_nil)
 (pss_cons (ps_asg (pe_op op_mod (pe_op (kop_add (K := K) rfl) (pe_op op_mul (pe_ix (kix (K := K) rfl) (pv 0) pe_int (fun _ _ => rfl)) pe_int) pe_int) pe_int) (pg_sub (pv 0) pe_int set_list))
 (pss_one (ps_ret (pe_op op_mod (pe_op op_fdivW (pe_ix (kix (K := K) rfl) (pv 0) pe_int (fun _ _ => rfl)) pe_int) (pv 1)))))))), ?_⟩
    refine r_start (σ' := [some (.ref st), some (.int many), none, none]) rfl ?_
    have wr : ∀ {H1 H2 : Hp} {i m r : Int}, H1 st = some (.lst [.ref a, .int i, .int m, .int r]) → (∀ b o, b ≠ st → H1 b = some o → H2 b = some o) → Fr H1 H2 := fun e w b o q n => w b o (fun z => by subst z; rw [e] at q; cases q; exact n _ _ _ _ rfl) q
    walk_at "go"
    refine iteD (fun hp => ?_) (fun hp => ?_)
    · walk_at "go"
      refine r_I h0 ?_
      walk_at "go"
      refine r_I (show CDivW r many from wd) ?_
      walk_at "go"
      refine r_setA (j := 3) hst rfl rfl fun H1 e1 w1 => ?_
      walk_at "go"
      exact k _ _ (Int.emod_nonneg _ (by omega)) (Int.emod_lt_of_pos _ h0) ⟨_, _, _, e1, hi, hm0, hm1, Int.ediv_nonneg hr0 (by omega)⟩ (wr hst w1)
    · walk_at "go"
      refine r_setA (j := 1) hst rfl rfl fun H1 hst1 w1 => ?_
      have R1 := wr hst w1
      have hS1 := fr_sq R1 hS
      walk_at "go"
      rw [List.length_map]
      refine iteD (fun hl => ?_) (fun hl => ?_)
      · walk_at "go"
        have hlt : i.toNat < ns.length := by omega
        refine r_ix (.inl hS1) (at_of (j := i.toNat) (by omega) (by rw [List.getElem?_map, List.getElem?_eq_getElem hlt]; rfl)) ?_
        walk_at "go"
        have fin : ∀ (r' : Int) (H2 : Hp), 0 ≤ r' → H2 st = some (.lst [.ref a, .int (i + 1), .int m, .int r']) → (∀ b o, b ≠ st → H1 b = some o → H2 b = some o) → Q (.int (ns[i.toNat] % many)) H2 := fun r' H2 hr' e2 w2 =>
          k _ _ (Int.emod_nonneg _ (by omega)) (Int.emod_lt_of_pos _ h0) ⟨_, _, _, e2, by omega, hm0, hm1, hr'⟩ (R1.trans (wr hst1 w2))
        refine iteD (fun hc => ?_) (fun hc => ?_)
        · walk_at "go"
          refine r_I (show CDivW _ many from wd) ?_
          walk_at "go"
          refine r_setA (j := 3) hst1 rfl rfl fun H2 e2 w2 => ?_
          walk_at "go"
          refine r_I h0 ?_
          walk_at "go"
          refine fin _ H2 (Int.ediv_nonneg ?_ (by omega)) e2 w2
          have : (0 : Int) ≤ 10 ^ (18 : Int).toNat := by decide
          omega
        · walk_at "go"
          refine r_setA (j := 3) hst1 rfl rfl fun H2 e2 w2 => ?_
          walk_at "go"
          refine r_I h0 ?_
          walk_at "go"
          exact fin 0 H2 (by omega) e2 w2
      · walk_at "go"
        refine r_I (.inl ⟨by omega, by omega⟩) ?_
        walk_at "go"
        refine r_I (by decide) ?_
        walk_at "go"
        refine r_setA (j := 2) hst1 rfl rfl fun H2 e2 w2 => ?_
        walk_at "go"
        refine r_I ⟨by decide, by decide +kernel⟩ ?_
        walk_at "go"
        refine r_I h0 ?_
        walk_at "go"
        exact k _ _ (Int.emod_nonneg _ (by omega)) (Int.emod_lt_of_pos _ h0) ⟨_, _, _, e2, by omega, Int.emod_nonneg _ (by decide), Int.emod_lt_of_pos _ (by decide), hr0⟩ (R1.trans (wr hst1 w2))
end
end Rd

namespace Rd
open PySem L2
section
variable {P : Program} {w : World} {K : PySem.W.Frag} {mg : Str → Option Value} {base : Heap}
theorem e6 : (10 : Int) ^ (6 : Int).toNat = 1000000 := by decide
theorem e29 : (10 : Int) ^ (29 : Int).toNat = 100000000000000000000000000000 := by decide
theorem small200 {m : Int} (h0 : 0 ≤ m) (h1 : m ≤ 1000000000000000000000000000000) : m.natAbs < 2 ^ 200 := by omega
def spGear (K : PySem.W.Frag) : Sp := fun vs H Q _ => ∃ (st a : Addr) (ns : List Int) (b : Bool), vs = [.ref st, .bl b] ∧ St H st a ∧ SqL K H a (ns.map V.int) ∧
  ∀ (g : Addr) (r p : Int) (H' : Hp), 2 ≤ r → r ≤ 1000000 → 0 ≤ p → p ≤ 1000000 → (b = true → r ≤ 8 ∧ p ≤ 4) → St H' st a → Fr H H' → H' g = some (.tup [.int r, .int p]) → Q (.ref g) H'
theorem spGear_i {st a : Addr} {ns : List Int} {b : Bool} {H : Hp} {Q : VK} {E : XK} (s : St H st a) (hS : SqL K H a (ns.map V.int))
    (k : ∀ (g : Addr) (r p : Int) (H' : Hp), 2 ≤ r → r ≤ 1000000 → 0 ≤ p → p ≤ 1000000 → (b = true → r ≤ 8 ∧ p ≤ 4) → St H' st a → Fr H H' → H' g = some (.tup [.int r, .int p]) → Q (.ref g) H') : spGear K [.ref st, .bl b] H Q E := ⟨st, a, ns, b, rfl, s, hS, k⟩
theorem ok_law_gear (B : Bl mg) (F : FunAt K mg "_law_gear" s_law_gear) (H_law_drawn : Has P w K mg base CX0 1 "_law_drawn" (spDrawn K)) : Has P w K mg base CX0 2 "_law_gear" (spGear K) := by
  refine F.ok sc_law_gear bo_law_gear (fun vs H Q E h => ?_) (fun f cdv A outer s H vs Q E hr h => ?_)
  · obtain ⟨st, a, ns, b, rfl, _⟩ := h
    rfl
  · obtain ⟨st, a, ns, b, rfl, hs, hS, k⟩ := h
    refine ⟨_, (pss_cons (ps_set (i := 2) sc_law_gear.nd rfl (by first | exact Or.inl rfl | exact Or.inr rfl) (pe_ix (kix (K := K) rfl) (pe_lst (pa_cons pe_int (pa_cons pe_int pa_nil))) (pe_callTy call_intA rfl B.int (by decide +kernel) (pa_cons (pv 1) pa_nil)) (fun _ _ => rfl)))
 (pss_cons (ps_set (i := 3) sc_law_gear.nd rfl (by first | exact Or.inl rfl | exact Or.inr rfl) (pe_op (kop_add (K := K) rfl) pe_int (pe_has H_law_drawn hr (by omega) rfl pass0 (pa_cons (pv 0) (pa_cons (pe_ix (kix (K := K) rfl) (pe_lst (pa_cons pe_int (pa_cons pe_int (pa_cons pe_int (pa_cons (pe_op op_sub (pe_op op_pow pe_int pe_int) pe_int) pa_nil))))) (pe_has H_law_drawn hr (by omega) rfl pass0 (pa_cons (pv 0) (pa_cons (pv 2) pa_nil))) (fun _ _ => rfl)) pa_nil)))))
 (pss_cons (ps_set (i := 4) sc_law_gear.nd rfl (by first | exact Or.inl rfl | exact Or.inr rfl) (pe_lst (pa_cons pe_int (pa_cons (pe_has H_law_drawn hr (by omega) rfl pass0 (pa_cons (pv 0) (pa_cons pe_int pa_nil))) (pa_cons (pe_has H_law_drawn hr (by omega) rfl pass0 (pa_cons (pv 0) (pa_cons (pe_ix (kix (K := K) rfl) (pe_lst (pa_cons pe_int (pa_cons pe_int (pa_cons pe_int (pa_cons (pe_op (kop_add (K := K) rfl) (pe_op op_pow pe_int pe_int) pe_int) pa_nil))))) (pe_has H_law_drawn hr (by omega) rfl pass0 (pa_cons (pv 0) (pa_cons (pv 2) pa_nil))) (fun _ _ => rfl)) pa_nil))) pa_nil)))))
 (pss_one (ps_ret (pe_tup (pa_cons (pv 3) (pa_cons (pe_ix (kix (K := K) rfl) (pv 4) (pe_has H_law_drawn hr (by omega) rfl pass0 (pa_cons (pv 0) (pa_cons pe_int pa_nil))) (fun _ _ => rfl)) pa_nil)))))))), ?_⟩
    refine r_start (σ' := [some (.ref st), some (.bl b), none, none, none]) rfl ?_
    walk_at "go"
    intro p1 n1
    walk_at "go"
    -- sorts
    obtain ⟨so, eso, hso⟩ : ∃ so : Int, atI [V.int 4, V.int 2] (if b = true then 1 else 0) = some (.int so) ∧ (so = 4 ∧ b = false ∨ so = 2 ∧ b = true) := by
      cases b
      · exact ⟨4, rfl, .inl ⟨rfl, rfl⟩⟩
      · exact ⟨2, rfl, .inr ⟨rfl, rfl⟩⟩
    refine r_ix (by walk_at "sq") eso ?_
    walk_at "go"
    -- around
    intro p2 n2
    walk_at "go"
    refine spDrawn_i (by walk_at "ss") (by walk_at "sq") (by omega) (small200 (by omega) (by omega)) fun v1 H1 a1 b1 s1 R1 => ?_
    walk_at "go"
    obtain ⟨w1, ew1, hw1⟩ := pick4 7 7 60 (10 ^ (6 : Int).toNat - 1) a1 (by omega)
    rw [e6] at hw1
    refine r_ix (by walk_at "sq") ew1 ?_
    walk_at "go"
    refine spDrawn_i s1 (by walk_at "sq") (by omega) (small200 (by omega) (by omega)) fun v2 H2 a2 b2 s2 R2 => ?_
    walk_at "go"
    refine spDrawn_i s2 (by walk_at "sq") (by omega) (by decide) fun v3 H3 a3 b3 s3 R3 => ?_
    walk_at "go"
    intro p4 n4
    walk_at "go"
    refine spDrawn_i (by walk_at "ss") (by walk_at "sq") (by omega) (small200 (by omega) (by omega)) fun v4 H4 a4 b4 s4 R4 => ?_
    walk_at "go"
    obtain ⟨w2, ew2, hw2⟩ := pick4 5 5 60 (10 ^ (6 : Int).toNat + 1) a4 (by omega)
    rw [e6] at hw2
    refine r_ix (by walk_at "sq") ew2 ?_
    walk_at "go"
    refine spDrawn_i s4 (by walk_at "sq") (by omega) (small200 (by omega) (by omega)) fun v5 H5 a5 b5 s5 R5 => ?_
    walk_at "go"
    intro p6 n6
    walk_at "go"
    refine spDrawn_i (by walk_at "ss") (by walk_at "sq") (by omega) (by decide) fun v6 H6 a6 b6 s6 R6 => ?_
    obtain ⟨pl, epl, mpl⟩ := pick3 0 v3 v5 a6 (by omega)
    refine r_ix (by walk_at "sq") epl ?_
    walk_at "go"
    intro g ng
    walk_at "go"
    refine k g _ _ _ (by omega) (by omega) (by omega) (by omega) (fun hb => ?_) (by walk_at "ss") (by walk_at "fr") upd_same
    rcases hso with ⟨_, q⟩ | ⟨q, _⟩
    · rw [q] at hb
      cases hb
    · omega
def spStanding (K : PySem.W.Frag) : Sp := fun vs H Q _ => ∃ (st a : Addr) (ns : List Int) (g : Addr) (r p : Int), vs = [.ref st, .ref g] ∧ St H st a ∧ SqL K H a (ns.map V.int) ∧ H g = some (.tup [.int r, .int p]) ∧ 0 ≤ p ∧ p ≤ 1000000 ∧
  ∀ (z : Addr) (m s : Int) (H' : Hp), m - p ≤ s → s ≤ m → -100000000000000000000000000000 ≤ m → m ≤ 100000000000000000000000000000 → St H' st a → Fr H H' → H' z = some (.tup [.int m, .int s]) → Q (.ref z) H'
theorem spStanding_i {st a g : Addr} {ns : List Int} {r p : Int} {H : Hp} {Q : VK} {E : XK} (s : St H st a) (hS : SqL K H a (ns.map V.int)) (hg : H g = some (.tup [.int r, .int p])) (h0 : 0 ≤ p) (h1 : p ≤ 1000000)
    (k : ∀ (z : Addr) (m s : Int) (H' : Hp), m - p ≤ s → s ≤ m → -100000000000000000000000000000 ≤ m → m ≤ 100000000000000000000000000000 → St H' st a → Fr H H' → H' z = some (.tup [.int m, .int s]) → Q (.ref z) H') : spStanding K [.ref st, .ref g] H Q E := ⟨st, a, ns, g, r, p, rfl, s, hS, hg, h0, h1, k⟩
theorem ok_law_standing (B : Bl mg) (F : FunAt K mg "_law_standing" s_law_standing) (H_law_drawn : Has P w K mg base CX0 1 "_law_drawn" (spDrawn K)) : Has P w K mg base CX0 2 "_law_standing" (spStanding K) := by
  refine F.ok sc_law_standing bo_law_standing (fun vs H Q E h => ?_) (fun f cdv A outer s H vs Q E hr h => ?_)
  · obtain ⟨st, a, ns, g, r, p, rfl, _⟩ := h
    rfl
  · obtain ⟨st, a, ns, g, r, p, rfl, hs, hS, hg, hp0, hp1, k⟩ := h
    refine ⟨_, (pss_cons (ps_set (i := 2) sc_law_standing.nd rfl (by first | exact Or.inl rfl | exact Or.inr rfl) (pe_ix (kix (K := K) rfl) (pe_lst (pa_cons pe_int (pa_cons pe_int (pa_cons (pe_op op_pow pe_int pe_int) pa_nil)))) (pe_has H_law_drawn hr (by omega) rfl pass0 (pa_cons (pv 0) (pa_cons pe_int pa_nil))) (fun _ _ => rfl)))
 (pss_cons (ps_set (i := 3) sc_law_standing.nd rfl (by first | exact Or.inl rfl | exact Or.inr rfl) (pe_op op_sub (pe_has H_law_drawn hr (by omega) rfl pass0 (pa_cons (pv 0) (pa_cons (pv 2) pa_nil))) (pe_op op_mul (pe_has H_law_drawn hr (by omega) rfl pass0 (pa_cons (pv 0) (pa_cons pe_int pa_nil))) (pv 2))))
 (pss_one (ps_ret (pe_tup (pa_cons (pv 3) (pa_cons (pe_op op_sub (pv 3) (pe_ix (kix (K := K) rfl) (pe_lst (pa_cons pe_int (pa_cons (pe_ix (kix (K := K) rfl) (pv 1) pe_int (fun _ _ => rfl)) (pa_cons (pe_has H_law_drawn hr (by omega) rfl pass0 (pa_cons (pv 0) (pa_cons (pe_op (kop_add (K := K) rfl) (pe_ix (kix (K := K) rfl) (pv 1) pe_int (fun _ _ => rfl)) pe_int) pa_nil))) pa_nil)))) (pe_has H_law_drawn hr (by omega) rfl pass0 (pa_cons (pv 0) (pa_cons pe_int pa_nil))) (fun _ _ => rfl))) pa_nil))))))), ?_⟩
    refine r_start (σ' := [some (.ref st), some (.ref g), none, none]) rfl ?_
    walk_at "go"
    intro p1 n1
    walk_at "go"
    refine spDrawn_i (by walk_at "ss") (by walk_at "sq") (by omega) (by decide) fun v1 H1 a1 b1 s1 R1 => ?_
    obtain ⟨far, e1, m1⟩ := pick3 10 1000 (10 ^ (29 : Int).toNat) a1 (by omega)
    rw [e29] at m1
    refine r_ix (by walk_at "sq") e1 ?_
    walk_at "go"
    refine spDrawn_i s1 (by walk_at "sq") (by omega) (small200 (by omega) (by omega)) fun v2 H2 a2 b2 s2 R2 => ?_
    walk_at "go"
    refine spDrawn_i s2 (by walk_at "sq") (by omega) (by decide) fun v3 H3 a3 b3 s3 R3 => ?_
    walk_at "go"
    refine r_I (.inl ⟨by omega, by omega⟩) ?_
    walk_at "go"
    refine spDrawn_i s3 (by walk_at "sq") (by omega) (small200 (by omega) (by omega)) fun v4 H4 a4 b4 s4 R4 => ?_
    walk_at "go"
    intro p5 n5
    walk_at "go"
    refine spDrawn_i (by walk_at "ss") (by walk_at "sq") (by omega) (by decide) fun v5 H5 a5 b5 s5 R5 => ?_
    obtain ⟨o, e5, m5⟩ := pick3 0 p v4 a5 (by omega)
    refine r_ix (by walk_at "sq") e5 ?_
    walk_at "go"
    intro z nz
    walk_at "go"
    have hv : 0 ≤ v3 * far ∧ v3 * far ≤ far := by
      have : v3 = 0 ∨ v3 = 1 := by omega
      rcases this with rfl | rfl <;> omega
    exact k z _ _ _ (by omega) (by omega) (by omega) (by omega) (by walk_at "ss") (by walk_at "fr") upd_same
def spMoves (K : PySem.W.Frag) : Sp := fun vs H Q _ => ∃ (st a : Addr) (ns : List Int) (g : Addr) (r p most : Int), vs = [.ref st, .ref g, .int most] ∧ St H st a ∧ SqL K H a (ns.map V.int) ∧ H g = some (.tup [.int r, .int p]) ∧ 0 < r ∧ r ≤ 1000000 ∧ 0 ≤ p ∧ p ≤ 1000000 ∧ 0 ≤ most ∧ most ≤ 1000 ∧
  ∀ (l : Addr) (ms : List Int) (H' : Hp), ms.length ≤ most.toNat → (∀ m ∈ ms, -100000000000000000000000000000 ≤ m ∧ m ≤ 100000000000000000000000000000) → St H' st a → Fr H H' → H' l = some (.lst (ms.map V.int)) → H l = none → Q (.ref l) H'
theorem spMoves_i {st a g : Addr} {ns : List Int} {r p most : Int} {H : Hp} {Q : VK} {E : XK} (s : St H st a) (hS : SqL K H a (ns.map V.int)) (hg : H g = some (.tup [.int r, .int p])) (r0 : 0 < r) (r1 : r ≤ 1000000) (h0 : 0 ≤ p) (h1 : p ≤ 1000000) (m0 : 0 ≤ most) (m1 : most ≤ 1000)
    (k : ∀ (l : Addr) (ms : List Int) (H' : Hp), ms.length ≤ most.toNat → (∀ m ∈ ms, -100000000000000000000000000000 ≤ m ∧ m ≤ 100000000000000000000000000000) → St H' st a → Fr H H' → H' l = some (.lst (ms.map V.int)) → H l = none → Q (.ref l) H') : spMoves K [.ref st, .ref g, .int most] H Q E := ⟨st, a, ns, g, r, p, most, rfl, s, hS, hg, r0, r1, h0, h1, m0, m1, k⟩
theorem ok_law_moves (B : Bl mg) (F : FunAt K mg "_law_moves" s_law_moves) (H_law_drawn : Has P w K mg base CX0 1 "_law_drawn" (spDrawn K)) : Has P w K mg base CX0 2 "_law_moves" (spMoves K) := by
  refine F.ok sc_law_moves bo_law_moves (fun vs H Q E h => ?_) (fun f cdv A outer s H vs Q E hr h => ?_)
  · obtain ⟨st, a, ns, g, r, p, most, rfl, _⟩ := h
    rfl
  · obtain ⟨st, a, ns, g, r, p, most, rfl, hs, hS, hg, hr0, hr1, hp0, hp1, hm0, hm1, k⟩ := h
    refine ⟨_, (pss_cons (ps_set (i := 3) sc_law_moves.nd rfl (by first | exact Or.inl rfl | exact Or.inr rfl) (pe_lst pa_nil))
 (pss_cons (ps_for PassesOwn.never rfl (pi_range1 rfl B.range (pa_cons (pe_has H_law_drawn hr (by omega) rfl pass0 (pa_cons (pv 0) (pa_cons (pe_op (kop_add (K := K) rfl) (pv 2) pe_int) pa_nil))) pa_nil)) (pg_name (i := 4) sc_law_moves.nd rfl (by first | exact Or.inl rfl | exact Or.inr rfl)) (pss_cons (ps_set (i := 5) sc_law_moves.nd rfl (by first | exact Or.inl rfl | exact Or.inr rfl) (pe_lst (pa_cons (pe_has H_law_drawn hr (by omega) rfl pass0 (pa_cons (pv 0) (pa_cons pe_int pa_nil))) (pa_cons (pe_has H_law_drawn hr (by omega) rfl pass0 (pa_cons (pv 0) (pa_cons (pe_op (kop_add (K := K) rfl) (pe_ix (kix (K := K) rfl) (pv 1) pe_int (fun _ _ => rfl)) pe_int) pa_nil))) (pa_cons (pe_has H_law_drawn hr (by omega) rfl pass0 (pa_cons (pv 0) (pa_cons (pe_op op_mul pe_int (pe_ix (kix (K := K) rfl) (pv 1) pe_int (fun _ _ => rfl))) pa_nil))) pa_nil)))))
 (pss_cons (ps_set (i := 5) sc_law_moves.nd rfl (by first | exact Or.inl rfl | exact Or.inr rfl) (pe_ix (kix (K := K) rfl) (pv 5) (pe_has H_law_drawn hr (by omega) rfl pass0 (pa_cons (pv 0) (pa_cons pe_int pa_nil))) (fun _ _ => rfl)))
 (pss_cut (ps_if (pt_cmpR (kop_eq (K := K) rfl hr.units) (pe_has H_law_drawn hr (by omega) rfl pass0 (pa_cons (pv 0) (pa_cons pe_int pa_nil))) pe_int (nomark _)) (pss_one (ps_set (i := 5) sc_law_moves.nd rfl (by first | exact Or.inl rfl | exact Or.inr rfl) (pe_has H_law_drawn hr (by omega) rfl pass0 (pa_cons (pv 0) (pa_cons (pe_op op_pow pe_int pe_int) pa_nil))))) pss_nil)
 (pss_one (ps_expr (kpe_bm (K := K) rfl PySem.F.plainAttrs_list PySem.F.slot_list_append PySem.F.type_list_append mt_append (pv 3) (pa_cons (pe_ix (kix (K := K) rfl) (pe_lst (pa_cons (pv 5) (pa_cons (pe_op op_sub pe_int (pv 5)) pa_nil))) (pe_has H_law_drawn hr (by omega) rfl pass0 (pa_cons (pv 0) (pa_cons pe_int pa_nil))) (fun _ _ => rfl)) pa_nil))))))))
 (pss_one (ps_ret (pv 3))))), ?_⟩
    refine r_start (σ' := [some (.ref st), some (.ref g), some (.int most), none, none, none]) rfl ?_
    walk_at "go"
    intro l nl
    walk_at "go"
    refine spDrawn_i (by walk_at "ss") (by walk_at "sq") (by omega) (small200 (by omega) (by omega)) fun n H0 a0 b0 s0 R0 => ?_
    have f0 : Fr H H0 := by walk_at "fr"
    refine ⟨_, rfl, by omega, by omega, fw_range (fun i σ H2 => ∃ (ms : List Int) (u v : Option V), σ = [some (.ref st), some (.ref g), some (.int most), some (.ref l), u, v] ∧ ms.length = i ∧ (∀ m ∈ ms, -100000000000000000000000000000 ≤ m ∧ m ≤ 100000000000000000000000000000) ∧ St H2 st a ∧ Fr H H2 ∧ H2 l = some (.lst (ms.map V.int)))
      ⟨[], none, none, rfl, rfl, by simp, s0, f0, R0 _ _ upd_same nst_nil⟩ ?_ ?_⟩
    · rintro i σ H2 hi ⟨ms, u, v, rfl, hlen, hms, s2, f2, hl⟩
      walk_at "go"
      refine spDrawn_i s2 (by walk_at "sq") (by omega) (by decide) fun v1 H3 a1 b1 s3 R3 => ?_
      walk_at "go"
      refine spDrawn_i s3 (by walk_at "sq") (by omega) (small200 (by omega) (by omega)) fun v2 H4 a2 b2 s4 R4 => ?_
      walk_at "go"
      refine r_I (.inl ⟨by omega, by omega⟩) ?_
      walk_at "go"
      refine spDrawn_i s4 (by walk_at "sq") (by omega) (small200 (by omega) (by omega)) fun v3 H5 a3 b3 s5 R5 => ?_
      walk_at "go"
      intro p6 n6
      walk_at "go"
      refine spDrawn_i (by walk_at "ss") (by walk_at "sq") (by omega) (by decide) fun v6 H6 a6 b6 s6 R6 => ?_
      obtain ⟨sz, e6, m6⟩ := pick3 v1 v2 v3 a6 (by omega)
      refine r_ix (by walk_at "sq") e6 ?_
      walk_at "go"
      refine r_cut (fun σ' H' => ∃ sz' : Int, σ' = [some (.ref st), some (.ref g), some (.int most), some (.ref l), some (.int (0 + i)), some (.int sz')] ∧ 0 ≤ sz' ∧ sz' ≤ 100000000000000000000000000000 ∧ St H' st a ∧ Fr H H' ∧ H' l = some (.lst (ms.map V.int))) ?_ ?_
      · walk_at "go"
        refine spDrawn_i s6 (by walk_at "sq") (by omega) (by decide) fun v7 H7 a7 b7 s7 R7 => ?_
        walk_at "go"
        refine iteD (fun _ => ?_) (fun _ => ?_)
        · walk_at "go"
          refine spDrawn_i s7 (by walk_at "sq") (by rw [e29]; omega) (by rw [e29]; decide) fun v8 H8 a8 b8 s8 R8 => ?_
          rw [e29] at b8
          walk_at "go"
          exact ⟨v8, rfl, by omega, by omega, s8, by walk_at "fr", by walk_at "hp"⟩
        · walk_at "go"
          exact ⟨sz, rfl, by omega, by omega, s7, by walk_at "fr", by walk_at "hp"⟩
      · rintro σ' H9 ⟨sz', rfl, hz0, hz1, s9, f9, hl9⟩
        walk_at "go"
        refine ⟨r_tyL hl9, ?_⟩
        walk_at "go"
        intro p10 n10
        walk_at "go"
        refine spDrawn_i (by walk_at "ss") (by walk_at "sq") (by omega) (by decide) fun v11 H11 a11 b11 s11 R11 => ?_
        obtain ⟨z, e11, m11⟩ := pick2 sz' (0 - sz') a11 (by omega)
        refine r_ix (by walk_at "sq") e11 ?_
        walk_at "go"
        have hl11 : H11 l = some (.lst (ms.map V.int)) := by walk_at "hp"
        refine r_appA hl11 (by rw [List.length_map]; exact small1000 (by omega)) fun H12 e12 w12 => ?_
        walk_at "go"
        have ne : st ≠ l := s11.ne hl11 nst_ints
        obtain ⟨i', m', r', hst, q⟩ := s11.ex
        refine ⟨ms ++ [z], _, _, rfl, by simp [hlen], fun x hx => ?_, ⟨i', m', r', w12 _ _ ne hst, q⟩, fun b o e n => ?_, by rw [e12]; simp⟩
        · simp at hx
          rcases hx with hx | rfl
          · exact hms x hx
          · omega
        · have nb : b ≠ l := ne_of_none e nl
          have : Fr H H11 := by walk_at "fr"
          exact w12 _ _ nb (this _ _ e n)
    · rintro σ H2 ⟨ms, u, v, rfl, hlen, hms, s2, f2, hl⟩
      walk_at "go"
      exact k l ms H2 (by omega) hms s2 f2 hl nl
end
end Rd

namespace Rd
/-! ## the shaft: plain -/
/-- where the shaft stands behind k steps, as the program reckons it -/
def pb (p m s k : Int) : Int := min (m + k) (max (m + k - p) s)
/-- .. as the law does -/
def lb (p m s k : Int) : Int := if 0 < k then s + max 0 (k - (p - (m - s))) else s + min 0 (k + (m - s))
theorem lb_pb {p m s k : Int} (h0 : m - p ≤ s) (h1 : s ≤ m) : lb p m s k = pb p m s k := by
  unfold lb pb
  split <;> omega
def nx (p : Int) (z : Int × Int) (k : Int) : Int × Int := (z.1 + k, pb p z.1 z.2 k)
def pos (p : Int) (z : Int × Int) (ks : List Int) : Int × Int := ks.foldl (nx p) z
def traj (p : Int) : Int × Int → List Int → List (Int × Int)
  | _, [] => []
  | z, k :: r => nx p z k :: traj p (nx p z k) r
theorem pos_snoc (p : Int) (z : Int × Int) (ks : List Int) (k : Int) : pos p z (ks ++ [k]) = nx p (pos p z ks) k := by
  unfold pos
  rw [List.foldl_append]
  rfl
theorem pos_app (p : Int) (z : Int × Int) (ks ls : List Int) : pos p z (ks ++ ls) = pos p (pos p z ks) ls := by
  unfold pos
  rw [List.foldl_append]
theorem traj_snoc (p : Int) : ∀ (ks : List Int) (z : Int × Int) (k : Int), traj p z (ks ++ [k]) = traj p z ks ++ [nx p (pos p z ks) k]
  | [], _, _ => rfl
  | _ :: r, z, k => by
    show _ :: traj p _ (r ++ [k]) = _ :: (traj p _ r ++ _)
    rw [traj_snoc p r]
    rfl
theorem traj_len (p : Int) : ∀ (ks : List Int) (z : Int × Int), (traj p z ks).length = ks.length
  | [], _ => rfl
  | _ :: r, z => by
    show _ + 1 = _ + 1
    rw [traj_len p r]
theorem traj_last (p : Int) : ∀ (ks : List Int) (z : Int × Int), (z :: traj p z ks)[ks.length]? = some (pos p z ks)
  | [], _ => rfl
  | k :: r, z => traj_last p r (nx p z k)
/-- a standing of a gear of the play p -/
def Stg (p : Int) (z : Int × Int) : Prop := z.1 - p ≤ z.2 ∧ z.2 ≤ z.1
theorem Stg.nx {p : Int} {z : Int × Int} (h : Stg p z) (hp : 0 ≤ p) (k : Int) : Stg p (Rd.nx p z k) := by
  obtain ⟨a, b⟩ := h
  unfold Stg Rd.nx pb
  dsimp only
  omega
theorem Stg.pos {p : Int} (hp : 0 ≤ p) : ∀ {ks : List Int} {z : Int × Int}, Stg p z → Stg p (Rd.pos p z ks)
  | [], _, h => h
  | k :: r, z, h => Stg.pos hp (ks := r) (h.nx hp k)
theorem take_snoc {α : Type} {l : List α} {i : Nat} {x : α} (h : l[i]? = some x) : l.take (i + 1) = l.take i ++ [x] := by
  rw [List.take_add_one, h]
  rfl
end Rd

namespace Rd
open PySem L2
/-- tuples of two ints at the addresses as -/
def Tups (H : Hp) (as : List Addr) (xs : List (Int × Int)) : Prop := as.length = xs.length ∧ ∀ (i : Nat) (a : Addr) (x : Int × Int), as[i]? = some a → xs[i]? = some x → H a = some (.tup [.int x.1, .int x.2])
theorem Tups.nil {H : Hp} : Tups H [] [] := ⟨rfl, fun i a x h => by simp at h⟩
theorem Tups.mono {H H' : Hp} {as : List Addr} {xs : List (Int × Int)} (t : Tups H as xs) (R : ∀ b xs, H b = some (.tup xs) → H' b = some (.tup xs)) : Tups H' as xs := ⟨t.1, fun i a x h1 h2 => R _ _ (t.2 i a x h1 h2)⟩
theorem Tups.snoc {H : Hp} {as : List Addr} {xs : List (Int × Int)} {a : Addr} {x : Int × Int} (t : Tups H as xs) (h : H a = some (.tup [.int x.1, .int x.2])) : Tups H (as ++ [a]) (xs ++ [x]) := by
  refine ⟨by simp [t.1], fun i b y h1 h2 => ?_⟩
  by_cases hi : i < as.length
  · rw [List.getElem?_append_left hi] at h1
    rw [List.getElem?_append_left (by rw [← t.1]; exact hi)] at h2
    exact t.2 i b y h1 h2
  · rw [List.getElem?_append_right (by omega)] at h1
    rw [List.getElem?_append_right (by rw [← t.1]; omega)] at h2
    have e : i - as.length = 0 := by
      cases q : i - as.length with
      | zero => rfl
      | succ n => rw [q] at h1; simp at h1
    rw [e] at h1
    rw [← t.1, e] at h2
    cases h1
    cases h2
    exact h
theorem Tups.all {H : Hp} : ∀ {as : List Addr} {xs : List (Int × Int)}, Tups H as xs → IsAll H (as.map V.ref) (xs.map dPair)
  | [], [], _ => .nil
  | [], _ :: _, t => nomatch t.1
  | _ :: _, [], t => nomatch t.1
  | a :: as, x :: xs, t => .cons (Is.pair (t.2 0 a x rfl rfl)) (Tups.all ⟨Nat.succ.inj t.1, fun i b y h1 h2 => t.2 (i + 1) b y (by simpa using h1) (by simpa using h2)⟩)
section
variable {P : Program} {w : World} {K : PySem.W.Frag} {mg : Str → Option Value} {base : Heap}
/-- a gear stands at g -/
structure GearAt (H : Hp) (g : Addr) (r p : Int) : Prop where
  at_ : H g = some (.tup [.int r, .int p])
  r2 : 2 ≤ r
  r6 : r ≤ 1000000
  p0 : 0 ≤ p
  p6 : p ≤ 1000000
theorem GearAt.mono {H H' : Hp} {g : Addr} {r p : Int} (G : GearAt H g r p) (h : H' g = some (.tup [.int r, .int p])) : GearAt H' g r p := ⟨h, G.r2, G.r6, G.p0, G.p6⟩
def spNG : Sp := fun vs H Q _ => ∃ (g : Addr) (r p : Int), vs = [.ref g] ∧ GearAt H g r p ∧ Q .non H
theorem spNG_i {g : Addr} {r p : Int} {H : Hp} {Q : VK} {E : XK} (G : GearAt H g r p) (k : Q .non H) : spNG [.ref g] H Q E := ⟨g, r, p, rfl, G, k⟩
def spNS : Sp := fun vs H Q _ => ∃ (g : Addr) (r p : Int) (z : Addr) (x : Int × Int), vs = [.ref g, .ref z] ∧ GearAt H g r p ∧ H z = some (.tup [.int x.1, .int x.2]) ∧ Stg p x ∧ Q .non H
theorem spNS_i {g z : Addr} {r p : Int} {x : Int × Int} {H : Hp} {Q : VK} {E : XK} (G : GearAt H g r p) (hz : H z = some (.tup [.int x.1, .int x.2])) (hs : Stg p x) (k : Q .non H) : spNS [.ref g, .ref z] H Q E := ⟨g, r, p, z, x, rfl, G, hz, hs, k⟩
def spNM (K : PySem.W.Frag) : Sp := fun vs H Q _ => ∃ (l : Addr) (ms : List Int), vs = [.ref l] ∧ SqL K H l (ms.map V.int) ∧ ms.length ≤ 100 ∧ Q .non H
theorem spNM_i {l : Addr} {ms : List Int} {H : Hp} {Q : VK} {E : XK} (hl : SqL K H l (ms.map V.int)) (h : ms.length ≤ 100) (k : Q .non H) : spNM K [.ref l] H Q E := ⟨l, ms, rfl, hl, h, k⟩
theorem ok_need_moves (B : Bl mg) (F : FunAt K mg "need_moves" s_need_moves) (M_MOST_MOVES : Cn mg "MOST_MOVES" 100) : Has P w K mg base CX0 1 "need_moves" (spNM K) := by
  refine F.ok sc_need_moves bo_need_moves (fun vs H Q E h => ?_) (fun f cdv A outer s H vs Q E hr h => ?_)
  · obtain ⟨l, ms, rfl, _⟩ := h
    rfl
  · obtain ⟨l, ms, rfl, hl, hm, k⟩ := h
    refine ⟨_, (pss_one (ps_if (pt_cmpR op_gt (pe_callB (kc_len (K := K) rfl) rfl B.len (by decide +kernel) (pa_cons (pv 0) pa_nil)) (pe_cn M_MOST_MOVES rfl) (nomark _)) (pss_one ps_never) pss_nil)), ?_⟩
    refine r_start (σ' := [some (.ref l)]) rfl ?_
    walk_at "go"
    rw [List.length_map]
    refine iteDF (by omega) ?_
    walk_at "go"
    exact k
def spBehind : Sp := fun vs H Q _ => ∃ (g : Addr) (r p : Int) (z : Addr) (x : Int × Int) (k : Int), vs = [.ref g, .ref z, .int k] ∧ H g = some (.tup [.int r, .int p]) ∧ H z = some (.tup [.int x.1, .int x.2]) ∧
  ∀ (q : Addr) (H' : Hp), H q = none → Same H H' → H' q = some (.tup [.int (nx p x k).1, .int (nx p x k).2]) → Q (.ref q) H'
theorem spBehind_i {g z : Addr} {r p k : Int} {x : Int × Int} {H : Hp} {Q : VK} {E : XK} (hg : H g = some (.tup [.int r, .int p])) (hz : H z = some (.tup [.int x.1, .int x.2]))
    (h : ∀ (q : Addr) (H' : Hp), H q = none → Same H H' → H' q = some (.tup [.int (nx p x k).1, .int (nx p x k).2]) → Q (.ref q) H') : spBehind [.ref g, .ref z, .int k] H Q E := ⟨g, r, p, z, x, k, rfl, hg, hz, h⟩
def spAB (K : PySem.W.Frag) : Sp := fun vs H Q _ => ∃ (g : Addr) (r p : Int) (z : Addr) (x : Int × Int) (l : Addr) (ms : List Int), vs = [.ref g, .ref z, .ref l] ∧ H g = some (.tup [.int r, .int p]) ∧ H z = some (.tup [.int x.1, .int x.2]) ∧ SqL K H l (ms.map V.int) ∧ ms.length ≤ 1000 ∧
  ∀ (q : Addr) (as : List Addr) (H' : Hp), H q = none → Same H H' → H' q = some (.lst (as.map V.ref)) → Tups H' as (traj p x ms) → Q (.ref q) H'
theorem spAB_i {g z l : Addr} {r p : Int} {x : Int × Int} {ms : List Int} {H : Hp} {Q : VK} {E : XK} (hg : H g = some (.tup [.int r, .int p])) (hz : H z = some (.tup [.int x.1, .int x.2])) (hl : SqL K H l (ms.map V.int)) (hm : ms.length ≤ 1000)
    (h : ∀ (q : Addr) (as : List Addr) (H' : Hp), H q = none → Same H H' → H' q = some (.lst (as.map V.ref)) → Tups H' as (traj p x ms) → Q (.ref q) H') : spAB K [.ref g, .ref z, .ref l] H Q E := ⟨g, r, p, z, x, l, ms, rfl, hg, hz, hl, hm, h⟩
end
end Rd

namespace Rd
open PySem L2
section
variable {P : Program} {w : World} {K : PySem.W.Frag} {mg : Str → Option Value} {base : Heap}
theorem FunAt.void {x : Str} {st : Stmt} {ps : List Str} (F : FunAt K mg x st) (bo : BindOk x st ps) : Has P w K mg base CX0 0 x (fun _ _ _ _ => False) := by
  obtain ⟨f, fd, F, hm⟩ := F.ex
  exact ⟨f, fd, ps, ⟨fun _ _ _ _ h => h.elim, fun _ _ _ _ _ _ _ _ _ _ _ _ _ h => h.elim⟩, hm, F.kp, F.binds bo⟩
/-- asked of the same data twice: True -/
def spSame : Nat → Sp
  | 0 => fun _ _ _ _ => False
  | n + 1 => fun vs H Q _ => ∃ (x y : V) (d : PyData), vs = [x, y] ∧ Is H x d ∧ Is H y d ∧ Fl n d ∧ ∀ H', Same H H' → Q (.bl true) H'
theorem spSame_i {n : Nat} {x y : V} {d : PyData} {H : Hp} {Q : VK} {E : XK} (hx : Is H x d) (hy : Is H y d) (f : Fl n d) (k : ∀ H', Same H H' → Q (.bl true) H') : spSame (n + 1) [x, y] H Q E := ⟨x, y, d, rfl, hx, hy, f, k⟩
theorem Fl.get {n i : Nat} {ds : List PyData} {d : PyData} (h : PyData.canLayAll0 ds = true ∧ PyData.depthAll ds ≤ n) (e : ds[i]? = some d) : Fl n d := by
  induction ds generalizing i with
  | nil => simp at e
  | cons a r ih =>
    obtain ⟨h1, h2⟩ := h
    rw [PyData.canLayAll0, Bool.and_eq_true] at h1
    rw [PyData.depthAll] at h2
    cases i with
    | zero =>
      cases e
      exact ⟨h1.1, by omega⟩
    | succ i => exact ih (i := i) ⟨h1.2, by omega⟩ (by simpa using e)
set_option maxHeartbeats 8000000 in
theorem ok_law_same (B : Bl mg) (F : FunAt K mg "_law_same" s_law_same) : ∀ n, Has P w K mg base CX0 n "_law_same" (spSame n)
  | 0 => F.void bo_law_same
  | n + 1 => by
    have H_law_same : Has P w K mg base CX0 n "_law_same" (spSame n) := ok_law_same B F n
    refine F.ok sc_law_same bo_law_same (fun vs H Q E h => ?_) (fun f cdv A outer s H vs Q E hr h => ?_)
    · obtain ⟨x, y, d, rfl, _⟩ := h
      rfl
    · obtain ⟨x, y, d, rfl, hx, hy, hf, k⟩ := h
      refine ⟨_, (pss_cons (ps_if (pt_val (pe_callB (kcc_isi (K := K) rfl) rfl B.isinstance (by decide +kernel) (pa_cons (pv 1) (pa_cons (pe_tup (pa_cons (pe_bltn rfl B.tuple (by decide +kernel) (v := .ty "tuple") rfl) (pa_cons (pe_bltn rfl B.list (by decide +kernel) (v := .ty "list") rfl) pa_nil))) pa_nil)))) (pss_cons (ps_if (PW.pt (pw_or (pt_not (pt_val (pe_callB (kcc_isi (K := K) rfl) rfl B.isinstance (by decide +kernel) (pa_cons (pv 0) (pa_cons (pe_tup (pa_cons (pe_bltn rfl B.tuple (by decide +kernel) (v := .ty "tuple") rfl) (pa_cons (pe_bltn rfl B.list (by decide +kernel) (v := .ty "list") rfl) pa_nil))) pa_nil))))) (pw_or1 (pt_cmpR (kop_ne (K := K) rfl hr.units) (pe_callB (kcc_isi (K := K) rfl) rfl B.isinstance (by decide +kernel) (pa_cons (pv 0) (pa_cons (pe_bltn rfl B.list (by decide +kernel) (v := .ty "list") rfl) pa_nil))) (pe_callB (kcc_isi (K := K) rfl) rfl B.isinstance (by decide +kernel) (pa_cons (pv 1) (pa_cons (pe_bltn rfl B.list (by decide +kernel) (v := .ty "list") rfl) pa_nil))) (nomark _))))) (pss_one (ps_ret pe_bl)) pss_nil)
 (pss_cons (ps_if (pt_cmpR (kop_ne (K := K) rfl hr.units) (pe_callB (kc_len (K := K) rfl) rfl B.len (by decide +kernel) (pa_cons (pv 0) pa_nil)) (pe_callB (kc_len (K := K) rfl) rfl B.len (by decide +kernel) (pa_cons (pv 1) pa_nil)) (nomark _)) (pss_one (ps_ret pe_bl)) pss_nil)
 (pss_one (ps_ret (pe_cmpR (kop_eq (K := K) rfl hr.units) (pe_lc (own := [("_law_k", 2)]) (g := (gName 2)) rfl sc_law_same.nd (pi_range1 rfl B.range (pa_cons (pe_callB (kc_len (K := K) rfl) rfl B.len (by decide +kernel) (pa_cons (pv 1) pa_nil)) pa_nil)) (blkOk_by (N := ["_law_found", "_law_due", "_law_k"]) (sc := defScope s_law_same) (own := [("_law_k", 2)]) (by decide +kernel)) (fun _ _ _ _ _ => (pg_name (i := 2) sc_law_same.nd rfl (by first | exact Or.inl rfl | exact Or.inr rfl))) (fun _ _ _ _ _ => (pts_one (pt_not (pt_val (pe_has H_law_same hr (by omega) rfl pass0 (pa_cons (pe_ix (kix (K := K) rfl) (pv 0) (pv 2) (fun _ _ => rfl)) (pa_cons (pe_ix (kix (K := K) rfl) (pv 1) (pv 2) (fun _ _ => rfl)) pa_nil))))))) (fun _ _ _ _ _ => (pv 2))) (pe_lst pa_nil) (nomark _)))))) pss_nil)
 (pss_cons (ps_if (pt_cmpR op_isN (pv 1) pe_non (nomark _)) (pss_one (ps_ret (pe_cmpR op_isN (pv 0) pe_non (nomark _)))) pss_nil)
 (pss_cons (ps_if (pt_val (pe_callB (kcc_isi (K := K) rfl) rfl B.isinstance (by decide +kernel) (pa_cons (pv 1) (pa_cons (pe_bltn rfl B.str (by decide +kernel) (v := .ty "str") rfl) pa_nil)))) (pss_one (ps_ret (pe_and (pe_callB (kcc_isi (K := K) rfl) rfl B.isinstance (by decide +kernel) (pa_cons (pv 0) (pa_cons (pe_bltn rfl B.str (by decide +kernel) (v := .ty "str") rfl) pa_nil))) (pe_one (pe_cmpR (kop_eq (K := K) rfl hr.units) (pv 0) (pv 1) (nomark _)))))) pss_nil)
 (pss_cons (ps_if (PW.pt (pw_or (pt_val (pe_callB (kcc_isi (K := K) rfl) rfl B.isinstance (by decide +kernel) (pa_cons (pv 1) (pa_cons (pe_bltn rfl B.bool (by decide +kernel) (v := .ty "bool") rfl) pa_nil)))) (pw_or1 (pt_val (pe_callB (kcc_isi (K := K) rfl) rfl B.isinstance (by decide +kernel) (pa_cons (pv 0) (pa_cons (pe_bltn rfl B.bool (by decide +kernel) (v := .ty "bool") rfl) pa_nil))))))) (pss_one (ps_ret (pe_and (pe_callB (kcc_isi (K := K) rfl) rfl B.isinstance (by decide +kernel) (pa_cons (pv 1) (pa_cons (pe_bltn rfl B.bool (by decide +kernel) (v := .ty "bool") rfl) pa_nil))) (pe_and (pe_callB (kcc_isi (K := K) rfl) rfl B.isinstance (by decide +kernel) (pa_cons (pv 0) (pa_cons (pe_bltn rfl B.bool (by decide +kernel) (v := .ty "bool") rfl) pa_nil))) (pe_one (pe_cmpR (kop_eq (K := K) rfl hr.units) (pv 0) (pv 1) (nomark _))))))) pss_nil)
 (pss_one (ps_ret (pe_and (pe_callB (kcc_isi (K := K) rfl) rfl B.isinstance (by decide +kernel) (pa_cons (pv 0) (pa_cons (pe_bltn rfl B.int (by decide +kernel) (v := .ty "int") rfl) pa_nil))) (pe_one (pe_cmpR (kop_eq (K := K) rfl hr.units) (pv 0) (pv 1) (nomark _)))))))))), ?_⟩
      refine r_start (σ' := [some x, some y, none]) rfl ?_
      cases d with
      | dict kvs => cases hx
      | none =>
        cases hx
        cases hy
        walk_at "go"
        intro t nt
        walk_at "go"
        refine r_isi2 upd_same (.base .non) (b1 := false) (b2 := false) (by decide +kernel) (by decide +kernel) ?_
        walk_at "go"
        refine iteF ?_
        walk_at "go"
        refine ⟨rfl, ?_⟩
        walk_at "go"
        refine iteDT rfl ?_
        walk_at "go"
        exact ⟨rfl, k _ (same_new nt)⟩
      | bool v =>
        cases hx
        cases hy
        walk_at "go"
        intro t nt
        walk_at "go"
        refine r_isi2 upd_same (.base (.bl v)) (b1 := false) (b2 := false) (by decide +kernel) (by decide +kernel) ?_
        walk_at "go"
        refine iteF ?_
        walk_at "go"
        refine ⟨rfl, ?_⟩
        walk_at "go"
        refine iteDF (by simp) ?_
        walk_at "go"
        refine r_isi (.base (.bl v)) (b := false) (by decide +kernel) ?_
        walk_at "go"
        refine iteF ?_
        walk_at "go"
        refine r_isi (.base (.bl v)) (b := true) (by decide +kernel) ?_
        walk_at "go"
        refine iteT ?_
        walk_at "go"
        refine iteT ?_
        walk_at "go"
        refine r_isi (.base (.bl v)) (b := true) (by decide +kernel) ?_
        walk_at "go"
        refine iteT ?_
        walk_at "go"
        refine r_isi (.base (.bl v)) (b := true) (by decide +kernel) ?_
        walk_at "go"
        refine iteT ?_
        walk_at "go"
        rw [decide_eq_true rfl]
        exact k _ (same_new nt)
      | int v =>
        cases hx
        cases hy
        walk_at "go"
        intro t nt
        walk_at "go"
        refine r_isi2 upd_same (.base (.int v)) (b1 := false) (b2 := false) (by decide +kernel) (by decide +kernel) ?_
        walk_at "go"
        refine iteF ?_
        walk_at "go"
        refine ⟨rfl, ?_⟩
        walk_at "go"
        refine iteDF (by simp) ?_
        walk_at "go"
        refine r_isi (.base (.int v)) (b := false) (by decide +kernel) ?_
        walk_at "go"
        refine iteF ?_
        walk_at "go"
        refine r_isi (.base (.int v)) (b := false) (by decide +kernel) ?_
        walk_at "go"
        refine iteF ?_
        walk_at "go"
        refine r_isi (.base (.int v)) (b := false) (by decide +kernel) ?_
        walk_at "go"
        refine iteF ?_
        walk_at "go"
        refine r_isi (.base (.int v)) (b := true) (by decide +kernel) ?_
        walk_at "go"
        refine iteT ?_
        walk_at "go"
        rw [decide_eq_true rfl]
        exact k _ (same_new nt)
      | str v =>
        cases hx
        cases hy
        walk_at "go"
        intro t nt
        walk_at "go"
        refine r_isi2 upd_same (.base (.str v)) (b1 := false) (b2 := false) (by decide +kernel) (by decide +kernel) ?_
        walk_at "go"
        refine iteF ?_
        walk_at "go"
        refine ⟨rfl, ?_⟩
        walk_at "go"
        refine iteDF (by simp) ?_
        walk_at "go"
        refine r_isi (.base (.str v)) (b := true) (by decide +kernel) ?_
        walk_at "go"
        refine iteT ?_
        walk_at "go"
        refine r_isi (.base (.str v)) (b := true) (by decide +kernel) ?_
        walk_at "go"
        refine iteT ?_
        walk_at "go"
        refine .inl ⟨rfl, ?_⟩
        rw [decide_eq_true rfl]
        exact k _ (same_new nt)
      | list ds =>
        cases hx with
        | lst ha hxs =>
        rename_i a xs
        cases hy with
        | lst hb hys =>
        rename_i b ys
        have hd : PyData.canLayAll0 ds = true ∧ PyData.depthAll ds + 1 ≤ n := by
          have h1 := hf.1
          have h2 := hf.2
          rw [PyData.canLay0] at h1
          rw [PyData.depth] at h2
          exact ⟨h1, h2⟩
        obtain ⟨n', rfl⟩ : ∃ n', n = n' + 1 := ⟨n - 1, by omega⟩
        walk_at "go"
        intro t nt
        walk_at "go"
        refine r_isi2 upd_same (.base (.lst (at_new nt hb))) (b1 := false) (b2 := true) (by decide +kernel) (by decide +kernel) ?_
        walk_at "go"
        refine iteT ?_
        walk_at "go"
        intro t2 nt2
        walk_at "go"
        refine r_isi2 upd_same (.base (.lst (at_new nt2 (at_new nt ha)))) (b1 := false) (b2 := true) (by decide +kernel) (by decide +kernel) ?_
        walk_at "go"
        refine iteF ?_
        walk_at "go"
        refine r_isi (.base (.lst (at_new nt2 (at_new nt ha)))) (b := true) (by decide +kernel) ?_
        walk_at "go"
        refine r_isi (.base (.lst (at_new nt2 (at_new nt hb)))) (b := true) (by decide +kernel) ?_
        walk_at "go"
        refine iteF ?_
        walk_at "go"
        have hlen : xs.length = ys.length := by rw [hxs.len, hys.len]
        refine iteNF (by rw [hlen]) ?_
        walk_at "go"
        have s2 : Same H (upd (upd H t (.tup [.ty "tuple", .ty "list"])) t2 (.tup [.ty "tuple", .ty "list"])) := (same_new nt).trans (same_new nt2)
        generalize upd (upd H t (.tup [.ty "tuple", .ty "list"])) t2 (.tup [.ty "tuple", .ty "list"]) = H2 at s2 ⊢
        refine ⟨_, rfl, by omega, by omega, fun D nD => lcw_range (σw := [some (.ref a), some (.ref b), none]) (fun i H3 => Same H H3 ∧ H3 D = some (.lst [])) rfl ⟨s2.trans (same_new nD), upd_same⟩ (fun i H3 hi h3 => ?_) fun H3 h3 => ?_⟩
        · obtain ⟨s3, hD⟩ := h3
          walk_at "go"
          refine ⟨rfl, ?_⟩
          have hi' : i < ds.length := by rw [← hys.len]; simpa using hi
          obtain ⟨u, d1, g1, g2, g3⟩ := hxs.get hi'
          obtain ⟨v, d2, g4, g5, g6⟩ := hys.get hi'
          have e12 : d2 = d1 := Option.some.inj (g5.symm.trans g2)
          subst e12
          walk_at "go"
          refine r_ix (.inl (SqL.of (s3 _ _ ha))) (at_of (j := i) (by omega) g1) ?_
          walk_at "go"
          refine r_ix (.inl (SqL.of (s3 _ _ hb))) (at_of (j := i) (by omega) g4) ?_
          walk_at "go"
          refine spSame_i (Is.mono s3 _ _ g3) (Is.mono s3 _ _ g6) (Fl.get ⟨hd.1, by omega⟩ g2) fun H4 s4 => ?_
          walk_at "go"
          refine iteF ?_
          exact ⟨s3.trans s4, s4 _ _ hD⟩
        · obtain ⟨s3, hD⟩ := h3
          walk_at "go"
          intro e ne
          walk_at "go"
          refine r_eqIs (d := .list []) (n := 1) (.lst (at_new ne hD) .nil) (.lst upd_same .nil) (Fl.list (by simp)) ?_
          walk_at "go"
          exact k _ (s3.trans (same_new ne))
      | tuple ds =>
        cases hx with
        | tup ha hxs =>
        rename_i a xs
        cases hy with
        | tup hb hys =>
        rename_i b ys
        have hd : PyData.canLayAll0 ds = true ∧ PyData.depthAll ds + 1 ≤ n := by
          have h1 := hf.1
          have h2 := hf.2
          rw [PyData.canLay0] at h1
          rw [PyData.depth] at h2
          exact ⟨h1, h2⟩
        obtain ⟨n', rfl⟩ : ∃ n', n = n' + 1 := ⟨n - 1, by omega⟩
        walk_at "go"
        intro t nt
        walk_at "go"
        refine r_isi2 upd_same (.base (.tup (at_new nt hb))) (b1 := true) (b2 := false) (by decide +kernel) (by decide +kernel) ?_
        walk_at "go"
        refine iteT ?_
        walk_at "go"
        intro t2 nt2
        walk_at "go"
        refine r_isi2 upd_same (.base (.tup (at_new nt2 (at_new nt ha)))) (b1 := true) (b2 := false) (by decide +kernel) (by decide +kernel) ?_
        walk_at "go"
        refine iteF ?_
        walk_at "go"
        refine r_isi (.base (.tup (at_new nt2 (at_new nt ha)))) (b := false) (by decide +kernel) ?_
        walk_at "go"
        refine r_isi (.base (.tup (at_new nt2 (at_new nt hb)))) (b := false) (by decide +kernel) ?_
        walk_at "go"
        refine iteF ?_
        walk_at "go"
        have hlen : xs.length = ys.length := by rw [hxs.len, hys.len]
        refine iteNF (by rw [hlen]) ?_
        walk_at "go"
        have s2 : Same H (upd (upd H t (.tup [.ty "tuple", .ty "list"])) t2 (.tup [.ty "tuple", .ty "list"])) := (same_new nt).trans (same_new nt2)
        generalize upd (upd H t (.tup [.ty "tuple", .ty "list"])) t2 (.tup [.ty "tuple", .ty "list"]) = H2 at s2 ⊢
        refine ⟨_, rfl, by omega, by omega, fun D nD => lcw_range (σw := [some (.ref a), some (.ref b), none]) (fun i H3 => Same H H3 ∧ H3 D = some (.lst [])) rfl ⟨s2.trans (same_new nD), upd_same⟩ (fun i H3 hi h3 => ?_) fun H3 h3 => ?_⟩
        · obtain ⟨s3, hD⟩ := h3
          walk_at "go"
          refine ⟨rfl, ?_⟩
          have hi' : i < ds.length := by rw [← hys.len]; simpa using hi
          obtain ⟨u, d1, g1, g2, g3⟩ := hxs.get hi'
          obtain ⟨v, d2, g4, g5, g6⟩ := hys.get hi'
          have e12 : d2 = d1 := Option.some.inj (g5.symm.trans g2)
          subst e12
          walk_at "go"
          refine r_ix (.inr (SqT.of (s3 _ _ ha))) (at_of (j := i) (by omega) g1) ?_
          walk_at "go"
          refine r_ix (.inr (SqT.of (s3 _ _ hb))) (at_of (j := i) (by omega) g4) ?_
          walk_at "go"
          refine spSame_i (Is.mono s3 _ _ g3) (Is.mono s3 _ _ g6) (Fl.get ⟨hd.1, by omega⟩ g2) fun H4 s4 => ?_
          walk_at "go"
          refine iteF ?_
          exact ⟨s3.trans s4, s4 _ _ hD⟩
        · obtain ⟨s3, hD⟩ := h3
          walk_at "go"
          intro e ne
          walk_at "go"
          refine r_eqIs (d := .list []) (n := 1) (.lst (at_new ne hD) .nil) (.lst upd_same .nil) (Fl.list (by simp)) ?_
          walk_at "go"
          exact k _ (s3.trans (same_new ne))
end
end Rd

namespace Rd
open PySem PySem.Spec PyProof.Rows L2 LamX
/-- G.__init__(self, ..), G an own class over ValueError without an __init__ of its own -/
theorem pe_ginit {X : Cx} {x : Str} {G : Addr} {mc : Value} {e : Expr} {es : List Expr} {ta : TA} {p1 p2 pos : Pos} {pl : Sem Bool} (r : ClX.CRead X.K G mc) (vV : PySem.W.findCls X.K (.ref G) mc "__init__" = some (.val (.builtin "ValueError.__init__"))) (hm : ClsG X.mg x G) (hg : Gl X x) (ha : PA X (e :: es) ta) (hd : (x == ("__debug__" : Str)) = false := by decide)
    (hc : eval (.Call (.Attribute (.Name x p1) "__init__" p2) (e :: es) [] pos) X.env = (eval (.Name x p1) X.env >>= fun ov => standAt p2.atName >>= fun _ => holding [ov] (getMethod ov "__init__" pl) >>= fun fx => callWith pos fx.1 fx.2 (backTo pos (starEach (e :: es) X.env)) (backToKw pos (keywordEach [] X.env))) := by rfl)
    (he : starEach (e :: es) X.env = (false, eval e X.env) :: starEach es X.env := by rfl) (hpl : (backTo pos (starEach es X.env)).any (·.1) = false := by rfl) : PE X (.Call (.Attribute (.Name x p1) "__init__" p2) (e :: es) [] pos) (tVeI X.K ta) := by
  constructor
  intro pins s σ H Q I h
  have fin : ∀ us s1, AP X pins σ (fun vs H1 => ∃ (a C : Addr) (ws : List V), vs = .ref a :: ws ∧ ws.length ≤ 1000 ∧ OexC X.K C ∧ H1 a = some (exo a C none) ∧ Q .non H1) us s1 → wpAny (model X.prog X.w) X.A (call (.builtin "ValueError.__init__") ([] ++ us)) (EP X pins σ Q) X.xe s1 := by
    rintro us s1 ⟨_, H1, J, rs, a, C, ws, rfl, few, T, here, q⟩
    rcases rs with _ | ⟨ra, rw'⟩
    cases ra
    refine oinit_ok T J here ?_ fun s' J' => ⟨.non, H1, J', rfl, q⟩
    have len := Paired.length rw'
    rw [sizeLine_eq]
    omega
  refine PySem.W.methodCall_KW (ld_glob I hg hm.g (PySem.W.method_cls I.kIn r.ga (PySem.W.cls_value I.kIn r.rd vV (by decide +kernel) ?_)) hd) hc
  exact PyProof.Rows.callWith_method1 (first := []) (thn (ha.run pos pins _ σ H _ (I.tok _) h) fin) he hpl
theorem r_veI {K : PySem.W.Frag} {ta : TA} {σ : L2.St} {H : Hp} {Q : VK} (k : ta σ H fun vs H1 => ∃ (a C : Addr) (ws : List V), vs = .ref a :: ws ∧ ws.length ≤ 1000 ∧ OexC K C ∧ H1 a = some (exo a C none) ∧ Q .non H1) : tVeI K ta σ H Q := k
theorem r_ost {K : PySem.W.Frag} {f : Str} {to te : TE} {σ : L2.St} {H : Hp} {nn bb cc : L2.St → Hp → Prop} {rr : VK} (k : te σ H fun y H1 => to σ H1 fun x H2 => ∃ a C : Addr, x = .ref a ∧ OexC K C ∧ PySem.W.findIn K (.ref C) f = some none ∧
  ((H2 a = some (exo a C none) ∧ ∀ dx, H2 dx = none → dx ≠ a → nn σ (upd (upd H2 dx (exd dx [(f, y)])) a (exo a C (some dx)))) ∨
    ∃ (dx : Addr) (fs : List (Str × V)), H2 a = some (exo a C (some dx)) ∧ H2 dx = some (exd dx fs) ∧ fs.length ≤ 900 ∧ nn σ (upd H2 dx (exd dx ((f, y) :: fs))))) : tOst K f to te ⟨nn, rr, bb, cc⟩ σ H := k
/-- what the text says of BadText -/
structure BtT (K : PySem.W.Frag) (G C : Addr) (mc : Value) : Prop where
  o : OexC K C
  no : PySem.W.findIn K (.ref C) "place" = some none
  r : ClX.CRead K G mc
  v : PySem.W.findCls K (.ref G) mc "__init__" = some (.val (.builtin "ValueError.__init__"))
section
variable {P : Program} {w : World} {K : PySem.W.Frag} {mg : Str → Option Value} {base : Heap}
def spBadInit (C : Addr) : Sp := fun vs H Q _ => ∃ (a : Addr) (n : Int), vs = [.ref a, .int n] ∧ H a = some (exo a C none) ∧ ∀ dx, H dx = none → dx ≠ a → Q .non (upd (upd H dx (exd dx [(("place" : Str), V.int n)])) a (exo a C (some dx)))
theorem ok_BadText_init {G C : Addr} {mc : Value} {f : Addr} {fd : FuncData} (T : BtT K G C mc) (G_GearError : ClsG mg "GearError" G) (F : Fun K "__init__" "BadText.__init__" s_BadText_init f fd) : FnOk P w K mg base CX0 1 f fd ["self", "place"] (spBadInit C) := by
  refine F.ok sc_BadText_init (fun vs H Q E h => ?_) (fun cdv A outer s H vs Q E hr h => ?_)
  · obtain ⟨a, n, rfl, _⟩ := h
    rfl
  · obtain ⟨a, n, rfl, ha, k⟩ := h
    refine ⟨_, pss_cons (ps_expr (pe_ginit T.r T.v G_GearError rfl (pa_cons (pv 0) (pa_cons pe_str pa_nil)))) (pss_one (ps_ost (pv 0) (pv 1))), ?_⟩
    refine r_start (σ' := [some (.ref a), some (.int n)]) rfl ?_
    walk_at "go"
    refine r_veI ?_
    walk_at "go"
    refine ⟨a, C, _, rfl, by show 1 ≤ 1000; decide, T.o, ha, ?_⟩
    walk_at "go"
    refine r_ost ?_
    walk_at "go"
    exact ⟨a, C, rfl, T.o, T.no, .inl ⟨ha, fun dx n1 n2 => k dx n1 n2⟩⟩
/-- BadText is raised with the place n: its dict is new -/
structure BtR (P : Program) (w : World) (K : PySem.W.Frag) (mg : Str → Option Value) (base : Heap) (C : Addr) : Prop where
  o : OexC K C
  g : ClsG mg "BadText" C
  i : ∃ (f : Addr) (fd : FuncData), PySem.W.findIn K (.ref C) "__init__" = some (some (.ref f)) ∧ PySem.W.typeIn K (.ref f) = some (.type "function") ∧ FnOk P w K mg base CX0 1 f fd ["self", "place"] (spBadInit C) ∧ Binds K fd ["self", "place"] []
end
def tRaiseT (C : Addr) (W : WX) (ta : TA) : TS := fun _ σ H => tMkO C (spBadInit C) [] ta σ H fun cls d H' => W cls d σ H'
theorem ps_raiseT {X : Cx} {W : WX} {C : Addr} {e : Expr} {ta : TA} {p pos pos2 : Pos} (hc : X.calm = true) (tk : Takes X W) (R : BtR X.prog X.w X.K X.mg X.base C) (hr : Room 2 X.A) (ha : PA X [e] ta) (hg : Gl X "BadText" := by rfl)
    (he : starEach (e :: []) X.env = (false, eval e X.env) :: starEach [] X.env := by rfl) (hpl : (backTo pos (starEach [] X.env)).any (·.1) = false := by rfl) :
    PS X (.Raise (some (.Call (.Name "BadText" p) [e] [] pos)) none pos2) (tRaiseT C W ta) := by
  obtain ⟨f, fd, iC, tI, F1, b⟩ := R.i
  exact ps_raise hc tk (pmk_oex R.o iC tI F1 hr b .nil pass0 hg R.g.g ha (by decide) he hpl)
theorem r_raiseT {C : Addr} {W : WX} {ta : TA} {σ : L2.St} {H : Hp} {D : Ends} (k : ta σ H fun vs H1 => vs.length ≤ 1000 ∧ ∀ a, H1 a = none → spBadInit C (.ref a :: (vs ++ [])) (upd H1 a (exo a C none))
  (fun v H2 => v = .non ∧ ∃ (d : Addr) (fs : List (Str × V)), H2 a = some (exo a C (some d)) ∧ H2 d = some (exd d fs) ∧ H1 d = none ∧ W (.ref C) (some d) σ (upd (del H2 a) d (.xd fs))) (fun _ _ _ => False)) : tRaiseT C W ta D σ H := k
theorem badMk {C : Addr} {n : Int} {H1 : Hp} {W : Addr → Hp → Prop} (k : ∀ d H', H1 d = none → Same H1 H' → H' d = some (.xd [(("place" : Str), V.int n)]) → W d H') : [V.int n].length ≤ 1000 ∧ ∀ a, H1 a = none → spBadInit C (.ref a :: ([V.int n] ++ [])) (upd H1 a (exo a C none))
  (fun v H2 => v = .non ∧ ∃ (d : Addr) (fs : List (Str × V)), H2 a = some (exo a C (some d)) ∧ H2 d = some (exd d fs) ∧ H1 d = none ∧ W d (upd (del H2 a) d (.xd fs))) (fun _ _ _ => False) := by
  refine ⟨by show 1 ≤ 1000; decide, fun a na => ⟨a, n, rfl, upd_same, fun dx n1 n2 => ?_⟩⟩
  rw [upd_ne n2] at n1
  refine ⟨rfl, dx, _, upd_same, by rw [upd_ne n2]; exact upd_same, n1, k dx _ n1 (fun b o e => ?_) upd_same⟩
  have e1 : b ≠ dx := fun q => by rw [q, n1] at e; cases e
  have e2 : b ≠ a := fun q => by rw [q, na] at e; cases e
  rw [upd_ne e1, del_ne e2, upd_ne e2, upd_ne e1, upd_ne e2]
  exact e
/-- what a callee lets out is let out -/
theorem passX {P : Program} {w : World} {K : PySem.W.Frag} {mg : Str → Option Value} {base : Heap} {N : List Str} {q : Str} {sc : Scope} {f : Addr} {cdv : Value} {A : Around} {outer : List Env} {s : Shared} {H : Hp} {E : XK} :
    Passes (L2.CX P w) (cxOf (L2.CX P w) P w K mg base N q sc f cdv A outer s H E) E := passes_call (X := cxOf (L2.CX P w) P w K mg base N q sc f cdv A outer s H E) (W := fun cls d _ H => E cls d H) (takes_of rfl rfl rfl rfl) fun _ _ _ _ h => h
end Rd

namespace Rd
open PySem L2 TL
theorem eqv_strs : ∀ ys : List Str, PyData.eqv (.list (ys.map PyData.str)) (.list []) = decide (ys = [])
  | [] => by simp [PyData.eqv, PyData.eqvAll]
  | y :: r => by simp [PyData.eqv, PyData.eqvAll]
theorem IsAll.strs {H : Hp} : ∀ ys : List Str, IsAll H (ys.map V.str) (ys.map PyData.str)
  | [] => .nil
  | y :: r => .cons (.str y) (IsAll.strs r)
theorem Fl.str (n : Nat) {z : Str} (h : PyData.strOk z = true) : Fl n (.str z) := ⟨by rw [PyData.canLay0]; exact h, by rw [PyData.depth]; omega⟩
theorem Fl.strs (n : Nat) {ys : List Str} (h : ∀ y ∈ ys, PyData.strOk y = true) : Fl (n + 1) (.list (ys.map PyData.str)) := Fl.list fun d hd => by
  obtain ⟨z, hz, rfl⟩ := List.mem_map.mp hd
  exact Fl.str _ (h z hz)
section
variable {P : Program} {w : World} {K : PySem.W.Frag} {mg : Str → Option Value} {base : Heap}
theorem r_neNilS {H : Hp} {Q : VK} {a b : Addr} {ys : List Str} (h : H a = some (.lst (ys.map V.str))) (h2 : H b = some (.lst [])) (ok : ∀ y ∈ ys, PyData.strOk y = true) (k : Q (.bl (!decide (ys = []))) H) : rNeA K (.ref a) (.ref b) H Q := by
  refine .inr ⟨.list (ys.map PyData.str), .list [], Is.dp _ _ (.lst h (IsAll.strs ys)), Is.dp _ _ (.lst h2 .nil), (Fl.strs 0 ok).shaped (by decide), (Fl.list (n := 0) (ds := []) (by simp)).shaped (by decide), ?_⟩
  rw [eqv_strs]
  exact k
def optV : Option Int → V
  | some k => .int k
  | none => .non
theorem str_iff {z : Str} {l : List Nat} : z = ⟨l.toArray⟩ ↔ tl z = l := ⟨fun e => by rw [e], fun e => ext_tl (by rw [e])⟩
def spStepsOf : Sp := fun vs H Q _ => ∃ z : Str, vs = [.str z] ∧ z.length ≤ sizeLine ∧ (∀ c ∈ tl z, c < 128) ∧ ∀ H', Same H H' → Q (optV (stepsL (tl z))) H'
theorem spStepsOf_i {z : Str} {H : Hp} {Q : VK} {E : XK} (hz : z.length ≤ sizeLine) (ha : ∀ c ∈ tl z, c < 128) (k : ∀ H', Same H H' → Q (optV (stepsL (tl z))) H') : spStepsOf [.str z] H Q E := ⟨z, rfl, hz, ha, k⟩
theorem ok_steps_of (B : Bl mg) (F : FunAt K mg "steps_of" s_steps_of) (M_MOST_FIGURES : Cn mg "MOST_FIGURES" 30) (M_FIGURES : CnS mg "FIGURES" "0123456789") : Has P w K mg base CX0 1 "steps_of" spStepsOf := by
  refine F.ok sc_steps_of bo_steps_of (fun vs H Q E h => ?_) (fun f cdv A outer s H vs Q E hr h => ?_)
  · obtain ⟨z, rfl, _⟩ := h
    rfl
  · obtain ⟨z, rfl, hz, ha, k⟩ := h
    refine ⟨_, (pss_cons (ps_if (pt_cmpR (kop_eq (K := K) rfl hr.units) (pv 0) pe_str (nomark _)) (pss_one (ps_ret pe_int)) pss_nil)
 (pss_cons (ps_set (i := 1) sc_steps_of.nd rfl (by first | exact Or.inl rfl | exact Or.inr rfl) (pe_slice (ksl (K := K) rfl) (pv 0) (po_some pe_int) po_none))
 (pss_cons (ps_if (PW.pt (pw_or (pt_cmpR (kop_notIn (K := K) rfl) (pe_slice (ksl (K := K) rfl) (pv 0) po_none (po_some pe_int)) (pe_tup (pa_cons pe_str (pa_cons pe_str pa_nil))) rfl) (pw_or (pt_not (pt_chain op_le op_le pe_int (pe_callB (kc_len (K := K) rfl) rfl B.len (by decide +kernel) (pa_cons (pv 1) pa_nil)) (pe_cn M_MOST_FIGURES rfl))) (pw_or1 (pt_cmpR (kop_eq (K := K) rfl hr.units) (pe_ix (kix (K := K) rfl) (pv 1) pe_int (fun _ _ => rfl)) pe_str (nomark _)))))) (pss_one (ps_ret pe_non)) pss_nil)
 (pss_cons (ps_if (pt_cmpR (kop_ne (K := K) rfl hr.units) (pe_lc (own := [("sign", 2)]) (g := (gName 2)) rfl sc_steps_of.nd (pi_str (pv 1)) (blkOk_by (N := ["word", "size", "sign"]) (sc := defScope s_steps_of) (own := [("sign", 2)]) (by decide +kernel)) (fun _ _ _ _ _ => (pg_name (i := 2) sc_steps_of.nd rfl (by first | exact Or.inl rfl | exact Or.inr rfl))) (fun _ _ _ _ _ => (pts_one (pt_cmpR op_nsign (pv 2) (pe_cnS M_FIGURES rfl) rfl))) (fun _ _ _ _ _ => (pv 2))) (pe_lst pa_nil) (nomark _)) (pss_one (ps_ret pe_non)) pss_nil)
 (pss_one (ps_ret (pe_ifExp (pt_cmpR (kop_eq (K := K) rfl hr.units) (pe_ix (kix (K := K) rfl) (pv 0) pe_int (fun _ _ => rfl)) pe_str (nomark _)) (pe_callTy kc_intS rfl B.int (by decide +kernel) (pa_cons (pv 1) pa_nil)) (pe_op op_sub pe_int (pe_callTy kc_intS rfl B.int (by decide +kernel) (pa_cons (pv 1) pa_nil)))))))))), ?_⟩
    refine r_start (σ' := [some (.str z), none, none]) rfl ?_
    walk_at "go"
    refine r_eqS ?_
    walk_at "go"
    refine iteD (fun c0 => ?_) (fun c0 => ?_)
    · walk_at "go"
      have e : tl z = [48] := by rw [c0]; decide +kernel
      have := k H (Same.refl H)
      rw [e] at this
      exact this
    have n0 : tl z ≠ [48] := fun e => c0 (ext_tl (by rw [e]; decide +kernel))
    walk_at "go"
    refine r_slS hz ?_
    have hs1 := tl_cut1 z
    have hsl : (cutS z (some 1) none).length ≤ sizeLine := Nat.le_trans (cutS_length _ _ _) hz
    generalize cutS z (some 1) none = sz at hs1 hsl ⊢
    walk_at "go"
    refine r_slS hz ?_
    have hs0 := tl_cut01 z
    generalize cutS z none (some 1) = s0 at hs0 ⊢
    have inS : s0 ∈ ([("+" : Str), "-"] : List Str) ↔ ((tl z).take 1 = [43] ∨ (tl z).take 1 = [45]) := by
      have e1 : ("+" : Str) = ⟨[43].toArray⟩ := by decide +kernel
      have e2 : ("-" : Str) = ⟨[45].toArray⟩ := by decide +kernel
      rw [List.mem_cons, List.mem_cons, e1, e2, str_iff, str_iff, hs0]
      simp
    walk_at "go"
    intro t1 n1
    refine r_notInT (ys := [("+" : Str), "-"]) upd_same ?_
    walk_at "go"
    have S1 : Same H (upd H t1 (.tup [V.str "+", V.str "-"])) := same_new n1
    generalize upd H t1 (.tup [V.str "+", V.str "-"]) = H1 at S1 ⊢
    have none_ : ∀ {H'}, Same H H' → stepsL (tl z) = none → Q .non H' := fun {H'} h e => by
      have := k H' h
      rw [e] at this
      exact this
    refine iteN (fun c1 => ?_) (fun c1 => ?_)
    · refine iteT ?_
      walk_at "go"
      refine none_ S1 ?_
      unfold stepsL
      rw [if_neg n0, if_neg fun h => c1 (inS.mpr h)]
    have c1' := inS.mp c1
    have fin_no : ¬ (1 ≤ ((tl z).drop 1).length ∧ ((tl z).drop 1).length ≤ 30 ∧ ((tl z).drop 1).head? ≠ some 48 ∧ ((tl z).drop 1).all digit = true) → stepsL (tl z) = none := fun h => by
      unfold stepsL
      rw [if_neg n0, if_pos c1', if_neg h]
    rw [← hs1] at fin_no
    have slen : (sz.length : Int) = ((tl sz).length : Int) := by rw [len_tl]
    walk_at "go"
    refine r_lenStr hsl ?_
    walk_at "go"
    refine iteD (fun c2 => ?_) (fun c2 => ?_)
    rotate_left
    · walk_at "go"
      refine iteT ?_
      walk_at "go"
      exact none_ S1 (fin_no fun h => by omega)
    walk_at "go"
    refine iteN (fun c3 => ?_) (fun c3 => ?_)
    · refine iteT ?_
      walk_at "go"
      exact none_ S1 (fin_no fun h => by omega)
    walk_at "go"
    obtain ⟨c, r, er⟩ : ∃ c r, tl sz = c :: r := by
      cases e : tl sz with
      | nil => rw [e] at slen; simp at slen; omega
      | cons c r => exact ⟨c, r, rfl⟩
    refine r_ixS (c := c) hsl (by rw [show sz.cps.toList = c :: r from er]; first | exact L2.atI_nat rfl | exact L2.atI_nat (i := 0) rfl | (unfold atI ixN; rfl) | simp [atI, ixN]) ?_
    walk_at "go"
    refine r_eqS ?_
    walk_at "go"
    have e0 : ("0" : Str) = ⟨[48].toArray⟩ := by decide +kernel
    refine iteD (fun c4 => ?_) (fun c4 => ?_)
    · walk_at "go"
      refine none_ S1 (fin_no fun h => h.2.2.1 ?_)
      rw [e0, str_iff] at c4
      have : ([c] : List Nat) = [48] := c4
      rw [er, (List.cons.inj this).1]
      rfl
    have hc48 : (tl sz).head? ≠ some 48 := fun e => c4 (by
      rw [er] at e
      rw [Option.some.inj (show some c = some 48 from e), e0])
    walk_at "go"
    refine r_iStr ?_
    walk_at "go"
    refine ⟨sz, rfl, fun D nD => lcw_str (z := sz) (σw := [some (.str z), some (.str sz), none])
      (fun i H8 => Same H1 H8 ∧ H8 D = some (.lst ((((tl sz).take i).filter fun c => !digit c).map fun c => V.str ⟨#[c]⟩))) rfl ⟨same_new nD, upd_same⟩ (fun i c H8 hi h => ?_) fun H8 h => ?_⟩
    · obtain ⟨h8, hD⟩ := h
      walk_at "go"
      refine ⟨rfl, ?_⟩
      walk_at "go"
      refine r_nsign ?_
      walk_at "go"
      have hfig : c ∈ tl ("0123456789" : Str) ↔ digit c = true := by
        have : tl ("0123456789" : Str) = [48, 49, 50, 51, 52, 53, 54, 55, 56, 57] := by decide +kernel
        rw [this]
        unfold digit
        rw [decide_eq_true_iff]
        simp only [List.mem_cons, List.not_mem_nil, or_false]
        omega
      have hil : i < (tl sz).length := (List.getElem?_eq_some_iff.mp hi).1
      refine iteN (fun c5 => ?_) (fun c5 => ?_)
      · walk_at "go"
        have hf : digit c = false := by
          cases e : digit c with
          | false => rfl
          | true => exact absurd (hfig.mpr e) c5
        refine ⟨_, hD, ?_, fun b o e => at_wr (ne_of_none e nD) (h8 _ _ e), ?_⟩
        · rw [List.length_map]
          refine Nat.lt_of_le_of_lt (List.length_filter_le _ _) ?_
          rw [List.length_take]
          have : 31 < sizeLine := small1000 (by decide)
          omega
        · rw [upd_same, take_snoc hi, List.filter_append]
          simp [hf]
      · refine ⟨h8, ?_⟩
        have hf : digit c = true := hfig.mp c5
        rw [hD, take_snoc hi, List.filter_append]
        simp [hf]
    obtain ⟨h8, hD⟩ := h
    rw [List.take_length] at hD
    have hD' : H8 D = some (.lst ((((tl sz).filter fun c => !digit c).map fun c => (⟨#[c]⟩ : Str)).map V.str)) := by
      rw [hD, List.map_map]
      rfl
    walk_at "go"
    intro t9 n9
    refine r_neNilS (at_new n9 hD') upd_same (fun y hy => ?_) ?_
    · obtain ⟨c', hc', rfl⟩ := List.mem_map.mp hy
      have hm : c' ∈ tl z := by
        have := (List.mem_filter.mp hc').1
        rw [hs1] at this
        exact List.mem_of_mem_drop this
      have := ha c' hm
      unfold PyData.strOk
      simp
      omega
    walk_at "go"
    have S9 : Same H (upd H8 t9 (.lst [])) := (S1.trans h8).trans (same_new n9)
    generalize upd H8 t9 (.lst []) = H9 at S9 ⊢
    refine iteN (fun c6 => ?_) (fun c6 => ?_)
    · walk_at "go"
      refine none_ S9 (fin_no fun h => c6 ?_)
      rw [List.map_eq_nil_iff, List.filter_eq_nil_iff]
      intro a ha' hb
      have := List.all_eq_true.mp h.2.2.2 a ha'
      rw [this] at hb
      cases hb
    rw [List.map_eq_nil_iff, List.filter_eq_nil_iff] at c6
    have hall : (tl sz).all digit = true := List.all_eq_true.mpr fun a ha' => by
      have := c6 a ha'
      cases e : digit a with
      | true => rfl
      | false => rw [e] at this; exact absurd rfl this
    have hval : PySem.intText? sz = some ((NumText.digitsVal (tl sz) : Nat) : Int) := PySem.intText_digits ((allDigits_iff _).mp hall) (by rw [show sz.cps.toList = tl sz from rfl, er]; exact List.cons_ne_nil _ _) (by omega)
    have hgood : stepsL (tl z) = some (if (tl z).take 1 = [43] then (NumText.digitsVal (tl sz) : Int) else 0 - (NumText.digitsVal (tl sz) : Int)) := by
      unfold stepsL
      rw [if_neg n0, if_pos c1', ← hs1, if_pos ⟨by omega, by omega, hc48, hall⟩]
    have kk := k H9 S9
    rw [hgood] at kk
    obtain ⟨c7, r7, er7⟩ : ∃ c r, tl z = c :: r := by
      cases e : tl z with
      | nil => rw [e] at c1'; simp at c1'
      | cons c r => exact ⟨c, r, rfl⟩
    walk_at "go"
    refine r_ixS (c := c7) hz (by rw [show z.cps.toList = c7 :: r7 from er7]; first | exact L2.atI_nat rfl | exact L2.atI_nat (i := 0) rfl | (unfold atI ixN; rfl) | simp [atI, ixN]) ?_
    walk_at "go"
    refine r_eqS ?_
    walk_at "go"
    have ep : ((⟨#[c7]⟩ : Str) = "+") ↔ (tl z).take 1 = [43] := by
      have e1 : ("+" : Str) = ⟨[43].toArray⟩ := by decide +kernel
      rw [e1, str_iff, er7]
      exact Iff.rfl
    refine iteD (fun c8 => ?_) (fun c8 => ?_)
    · rw [if_pos (ep.mp c8)] at kk
      walk_at "go"
      exact r_intS hval (by omega) kk
    · rw [if_neg fun h => c8 (ep.mpr h)] at kk
      walk_at "go"
      refine r_intS hval (by omega) ?_
      walk_at "go"
      exact kk
theorem log_ok {k : Int} (h : k.natAbs < 10 ^ 30) : ((k.natAbs : Nat) : Int).natAbs.log2 < 1920 := by
  rw [Int.natAbs_natCast]
  have h2 : k.natAbs < 2 ^ 100 := Nat.lt_of_lt_of_le h (by decide)
  have := PySem.Flt.log2_lt_of (show 0 < 100 by decide) h2
  omega
def spWord : Sp := fun vs H Q _ => ∃ k : Int, vs = [.int k] ∧ k.natAbs < 10 ^ 30 ∧ ∀ H', Same H H' → Q (.str (wordS k)) H'
theorem spWord_i {k : Int} {H : Hp} {Q : VK} {E : XK} (h : k.natAbs < 10 ^ 30) (q : ∀ H', Same H H' → Q (.str (wordS k)) H') : spWord [.int k] H Q E := ⟨k, rfl, h, q⟩
theorem ok_word_of (B : Bl mg) (F : FunAt K mg "word_of" s_word_of) : Has P w K mg base CX0 1 "word_of" spWord := by
  refine F.ok sc_word_of bo_word_of (fun vs H Q E h => ?_) (fun f cdv A outer s H vs Q E hr h => ?_)
  · obtain ⟨k, rfl, _⟩ := h
    rfl
  · obtain ⟨k, rfl, h30, q⟩ := h
    refine ⟨_, (pss_one (ps_ret (pe_ifExp (pt_cmpR (kop_eq (K := K) rfl hr.units) (pv 0) pe_int (nomark _)) pe_str (pe_op (kop_add (K := K) rfl) (pe_ix (kix (K := K) rfl) (pe_lst (pa_cons pe_str (pa_cons pe_str pa_nil))) (pe_callTy call_intA rfl B.int (by decide +kernel) (pa_cons (pe_cmpR op_gt (pv 0) pe_int (nomark _)) pa_nil)) (fun _ _ => rfl)) (pe_callTy kc_str rfl B.str (by decide +kernel) (pa_cons (pe_callB call_absA rfl B.abs (by decide +kernel) (pa_cons (pv 0) pa_nil)) pa_nil)))))), ?_⟩
    refine r_start (σ' := [some (.int k)]) rfl ?_
    walk_at "go"
    refine iteD (fun c => ?_) (fun c => ?_)
    · walk_at "go"
      have e : ("0" : Str) = wordS k := by
        refine ext_tl ?_
        rw [tl_word, wordL, if_pos c]
        decide +kernel
      rw [e]
      exact q H (Same.refl H)
    · walk_at "go"
      intro l nl
      walk_at "go"
      refine r_ix (v := .str (if 0 < k then "+" else "-")) (.inl (SqL.of upd_same)) ?_ ?_
      · by_cases p : 0 < k
        · rw [if_pos p, decide_eq_true p]
          rfl
        · rw [if_neg p, decide_eq_false p]
          rfl
      walk_at "go"
      refine r_strI (log_ok h30) ?_
      have e1 : tl (Str.ofString (toString ((k.natAbs : Nat) : Int))) = numL k.natAbs := tl_num _
      have l30 : (numL k.natAbs).length ≤ 30 := numL_len (by decide) h30
      have e2 : tl ((if 0 < k then "+" else "-" : Str)) = [if 0 < k then 43 else 45] := by
        by_cases p : 0 < k
        · rw [if_pos p, if_pos p]
          decide +kernel
        · rw [if_neg p, if_neg p]
          decide +kernel
      refine r_addS ?_ ?_
      · rw [len_tl, len_tl, e1, e2]
        have : 31 < sizeLine := small1000 (by decide)
        show 1 + _ ≤ _
        omega
      · have e : ((if 0 < k then "+" else "-" : Str)) ++ Str.ofString (toString ((k.natAbs : Nat) : Int)) = wordS k := by
          refine ext_tl ?_
          rw [tl_append, e1, e2, tl_word, wordL, if_neg c]
          rfl
        show Q (.str ((if 0 < k then "+" else "-" : Str) ++ Str.ofString (toString ((k.natAbs : Nat) : Int)))) _
        rw [e]
        exact q _ (same_new nl)
def spWritten (K : PySem.W.Frag) : Sp := fun vs H Q _ => ∃ (l : Addr) (ms : List Int), vs = [.ref l] ∧ SqL K H l (ms.map V.int) ∧ ms.length ≤ 100 ∧ (∀ m ∈ ms, m.natAbs < 10 ^ 30) ∧ ∀ H', Same H H' → Q (.str (textS ms)) H'
theorem spWritten_i {l : Addr} {ms : List Int} {H : Hp} {Q : VK} {E : XK} (hl : SqL K H l (ms.map V.int)) (h : ms.length ≤ 100) (hm : ∀ m ∈ ms, m.natAbs < 10 ^ 30) (k : ∀ H', Same H H' → Q (.str (textS ms)) H') : spWritten K [.ref l] H Q E := ⟨l, ms, rfl, hl, h, hm, k⟩
theorem ok_written (B : Bl mg) (F : FunAt K mg "written" s_written) (H_need_moves : Has P w K mg base CX0 1 "need_moves" (spNM K)) (H_word_of : Has P w K mg base CX0 1 "word_of" spWord) : Has P w K mg base CX0 2 "written" (spWritten K) := by
  refine F.ok sc_written bo_written (fun vs H Q E h => ?_) (fun f cdv A outer s H vs Q E hr h => ?_)
  · obtain ⟨l, ms, rfl, _⟩ := h
    rfl
  · obtain ⟨l, ms, rfl, hl, hm, hb, k⟩ := h
    refine ⟨_, (pss_cons (ps_expr (pe_has H_need_moves hr (by omega) rfl pass0 (pa_cons (pv 0) pa_nil)))
 (pss_one (ps_ret (kpe_join (K := K) rfl pe_str (pe_lc (own := [("steps", 1)]) (g := (gName 1)) rfl sc_written.nd (kpi_list (K := K) rfl (pv 0)) (blkOk_by (N := ["moves", "steps"]) (sc := defScope s_written) (own := [("steps", 1)]) (by decide +kernel)) (fun _ _ _ _ _ => (pg_name (i := 1) sc_written.nd rfl (by first | exact Or.inl rfl | exact Or.inr rfl))) (fun _ _ _ _ _ => pts_nil) (fun _ _ _ _ _ => (pe_has H_word_of hr (by omega) rfl pass0 (pa_cons (pv 1) pa_nil)))))))), ?_⟩
    refine r_start (σ' := [some (.ref l), none]) rfl ?_
    walk_at "go"
    refine spNM_i hl hm ?_
    walk_at "go"
    refine r_m1 ?_
    walk_at "go"
    refine ⟨⟨_, rfl⟩, ?_⟩
    walk_at "go"
    refine ⟨_, rfl, ⟨_, hl⟩, fun D nD => lcw_list (K := K) (a := l) (xs := ms.map V.int) (σw := [some (.ref l), none])
      (fun i H8 => Same H H8 ∧ H8 D = some (.lst (((ms.take i).map wordS).map V.str))) rfl ⟨same_new nD, upd_same⟩ (fun i H8 _ h => h.1.seq hl) (fun i y H8 hi h => ?_) fun H8 h => ?_⟩
    · obtain ⟨h8, hD⟩ := h
      obtain ⟨m, hmm, rfl⟩ := map_at hi
      walk_at "go"
      refine ⟨rfl, ?_⟩
      walk_at "go"
      refine iteT ?_
      walk_at "go"
      refine spWord_i (hb m (List.mem_of_getElem? hmm)) fun H9 h9 => ?_
      refine ⟨_, h9 _ _ hD, by rw [List.length_map, List.length_map, List.length_take]; exact small1000 (by omega), fun b o e => at_wr (ne_of_none e nD) (h9 _ _ (h8 _ _ e)), ?_⟩
      rw [upd_same, take_snoc hmm]
      simp
    · obtain ⟨h8, hD⟩ := h
      rw [List.length_map, List.take_length] at hD
      have sum_le : ∀ ls : List Int, (∀ m ∈ ls, m.natAbs < 10 ^ 30) → ((ls.map wordS).map (·.length)).sum ≤ ls.length * 31 := by
        intro ls
        induction ls with
        | nil => intro _; exact Nat.zero_le _
        | cons a r ih =>
          intro h
          have x := word_len (h a List.mem_cons_self)
          have y := ih fun m hm => h m (List.mem_cons_of_mem _ hm)
          rw [List.map_cons, List.map_cons, List.sum_cons, List.length_cons, Nat.succ_mul]
          omega
      have sl := sum_le ms hb
      refine r_join (SqL.of hD) ?_ ?_
      · rw [List.length_map]
        have : (" " : Str).length = 1 := by decide +kernel
        rw [this]
        omega
      · have e : (" " : Str) = ⟨#[32]⟩ := by decide +kernel
        rw [e]
        exact k H8 h8
def spRead (K : PySem.W.Frag) : Sp := fun vs H Q _ => ∃ (ms : List Int), vs = [.str (textS ms)] ∧ ms.length ≤ 100 ∧ (∀ m ∈ ms, m.natAbs < 10 ^ 30) ∧ ∀ (q : Addr) (H' : Hp), H q = none → Same H H' → H' q = some (.lst (ms.map V.int)) → Q (.ref q) H'
theorem spRead_i {ms : List Int} {H : Hp} {Q : VK} {E : XK} (h : ms.length ≤ 100) (hm : ∀ m ∈ ms, m.natAbs < 10 ^ 30) (k : ∀ (q : Addr) (H' : Hp), H q = none → Same H H' → H' q = some (.lst (ms.map V.int)) → Q (.ref q) H') : spRead K [.str (textS ms)] H Q E := ⟨ms, rfl, h, hm, k⟩
theorem word_ascii (k : Int) : ∀ c ∈ wordL k, c < 128 := by
  unfold wordL
  split
  · intro c h
    rw [List.mem_singleton.mp h]
    decide
  · intro c h
    rcases List.mem_cons.mp h with e | e
    · split at e <;> omega
    · have := numL_digits _ c e
      omega
theorem ok_read_moves (B : Bl mg) (F : FunAt K mg "read_moves" s_read_moves) (H_need_moves : Has P w K mg base CX0 1 "need_moves" (spNM K)) (H_steps_of : Has P w K mg base CX0 1 "steps_of" spStepsOf) : Has P w K mg base CX0 2 "read_moves" (spRead K) := by
  refine F.ok sc_read_moves bo_read_moves (fun vs H Q E h => ?_) (fun f cdv A outer s H vs Q E hr h => ?_)
  · obtain ⟨ms, rfl, _⟩ := h
    rfl
  · obtain ⟨ms, rfl, hm, hb, k⟩ := h
    have tlen := text_len hb
    have tsz : (textS ms).length + 2 ≤ sizeLine := by
      rw [PySem.sizeLine_eq]
      omega
    refine ⟨_, (pss_cons (ps_set (i := 1) sc_read_moves.nd rfl (by first | exact Or.inl rfl | exact Or.inr rfl) (pe_lst pa_nil))
 (pss_cons (ps_for PassesOwn.never rfl (kpi_enum (K := K) rfl rfl B.enumerate (pa_cons (pe_mid (pe_ifExp (pt_cmpR (kop_ne (K := K) rfl hr.units) (pv 0) pe_str (nomark _)) (kpe_split (pv 0) pe_str) (pe_lst pa_nil))) pa_nil)) (kpg_tup (K := K) rfl rfl (pgs_cons (pg_name (i := 2) sc_read_moves.nd rfl (by first | exact Or.inl rfl | exact Or.inr rfl)) (pgs_cons (pg_name (i := 3) sc_read_moves.nd rfl (by first | exact Or.inl rfl | exact Or.inr rfl)) pgs_nil))) (pss_cons (ps_set (i := 4) sc_read_moves.nd rfl (by first | exact Or.inl rfl | exact Or.inr rfl) (pe_has H_steps_of hr (by omega) rfl pass0 (pa_cons (pv 3) pa_nil)))
 (pss_cons (ps_if (pt_cmpR op_isN (pv 4) pe_non (nomark _)) (pss_one ps_never) pss_nil)
 (pss_one (ps_expr (kpe_bm (K := K) rfl PySem.F.plainAttrs_list PySem.F.slot_list_append PySem.F.type_list_append mt_append (pv 1) (pa_cons (pv 4) pa_nil)))))))
 (pss_cons (ps_expr (pe_has H_need_moves hr (by omega) rfl pass0 (pa_cons (pv 1) pa_nil)))
 (pss_one (ps_ret (pv 1)))))), ?_⟩
    refine r_start (σ' := [some (.str (textS ms)), none, none, none, none]) rfl ?_
    walk_at "go"
    intro fd nfd
    walk_at "go"
    have hfd : upd H fd (.lst []) fd = some (.lst []) := upd_same
    have s0 : Same H (upd H fd (.lst [])) := same_new nfd
    generalize upd H fd (.lst []) = H0 at s0 hfd ⊢
    refine r_mid (fun v H' => ∃ wl, v = .ref wl ∧ Same H0 H' ∧ H' wl = some (.lst ((ms.map wordS).map V.str)) ∧ wl ≠ fd) ?_ ?_
    · walk_at "go"
      refine r_neS ?_
      walk_at "go"
      have ee : ("" : Str) = ⟨#[]⟩ := by decide +kernel
      refine iteN (fun c => ?_) (fun c => ?_)
      · have hne : ms ≠ [] := fun e => c (by rw [e, textS_nil, ee])
        walk_at "go"
        refine r_m1 ?_
        walk_at "go"
        refine ⟨⟨_, rfl⟩, ?_⟩
        walk_at "go"
        refine r_split (by decide +kernel) tsz fun wl nwl => ?_
        have e : (" " : Str) = ⟨#[32]⟩ := by decide +kernel
        rw [e, split_text hne]
        exact ⟨wl, rfl, same_new nwl, upd_same, (ne_of_none hfd nwl).symm⟩
      · have hnil : ms = [] := by
          cases ms with
          | nil => rfl
          | cons a r => exact absurd (c.trans ee) (text_ne (List.cons_ne_nil a r))
        subst hnil
        walk_at "go"
        intro wl nwl
        exact ⟨wl, rfl, same_new nwl, upd_same, (ne_of_none hfd nwl).symm⟩
    · rintro _ H1 ⟨wl, rfl, h1, hwl, wfd⟩
      walk_at "go"
      refine ⟨wl, _, rfl, SqL.of hwl, fw_enum (K := K) (a := wl) (xs := (ms.map wordS).map V.str) (fun i σ H2 => ∃ v2 v3 v4, σ = [some (.str (textS ms)), some (.ref fd), v2, v3, v4] ∧ Same H H2 ∧ H2 wl = some (.lst ((ms.map wordS).map V.str)) ∧ H2 fd = some (.lst ((ms.take i).map V.int)))
        ⟨_, _, _, rfl, s0.trans h1, hwl, h1 _ _ hfd⟩ (fun i σ H2 _ h => ?_) ?_ ?_⟩
      · obtain ⟨_, _, _, _, _, h, _⟩ := h
        exact SqL.of h
      · rintro i y σ H2 T hi ⟨v2, v3, v4, rfl, s2, hwl2, hfd2⟩ nT
        obtain ⟨z, hz, rfl⟩ := map_at hi
        rw [List.getElem?_map] at hz
        obtain ⟨m, hmm, rfl⟩ : ∃ m, ms[i]? = some m ∧ z = wordS m := by
          cases e : ms[i]? with
          | none => rw [e] at hz; cases hz
          | some m => rw [e] at hz; exact ⟨m, rfl, (Option.some.inj hz).symm⟩
        have h30 := hb m (List.mem_of_getElem? hmm)
        have wl31 := word_len h30
        have s3 : Same H2 (upd H2 T (.tup [.int (i : Nat), .str (wordS m)])) := same_new nT
        have hT : upd H2 T (.tup [.int (i : Nat), .str (wordS m)]) T = some (.tup [.int (i : Nat), .str (wordS m)]) := upd_same
        generalize upd H2 T (.tup [.int (i : Nat), .str (wordS m)]) = H3 at s3 hT ⊢
        walk_at "go"
        refine spStepsOf_i (by have : 31 < sizeLine := small1000 (by decide); omega) (by rw [tl_word]; exact word_ascii m) fun H4 h4 => ?_
        rw [tl_word, stepsL_word h30]
        show gName _ (.int m) _ _ _
        walk_at "go"
        refine ⟨rfl, ?_⟩
        walk_at "go"
        refine iteDF (fun e => nomatch e) ?_
        walk_at "go"
        have s24 := s3.trans h4
        have hil : i < ms.length := (List.getElem?_eq_some_iff.mp hmm).1
        refine ⟨r_tyL (s24 _ _ hfd2), ?_⟩
        walk_at "go"
        refine r_appA (s24 _ _ hfd2) (by rw [List.length_map, List.length_take]; exact small1000 (by omega)) fun H5 e5 w5 => ?_
        walk_at "go"
        exact ⟨_, _, _, rfl, fun b o e => w5 _ _ (ne_of_none e nfd) (s24 _ _ (s2 _ _ e)), w5 _ _ wfd (s24 _ _ hwl2), by rw [e5, take_snoc hmm]; simp⟩
      · rintro σ H2 ⟨v2, v3, v4, rfl, s2, hwl2, hfd2⟩
        rw [List.length_map, List.length_map, List.take_length] at hfd2
        walk_at "go"
        refine spNM_i (SqL.of hfd2) hm ?_
        walk_at "go"
        exact k fd H2 nfd s2 hfd2
end
end Rd

namespace Rd
open PySem L2 TL
/-- the words of a text -/
def wordsOf (z : Str) : List Str := if z = ⟨#[]⟩ then [] else Txt.split z ⟨#[32]⟩
def FirstBad (ws : List Str) (n : Nat) : Prop := (∃ z, ws[n]? = some z ∧ stepsL (tl z) = none) ∧ ∀ m z, m < n → ws[m]? = some z → (stepsL (tl z)).isSome = true
def AllGood (ws : List Str) : Prop := ∀ z ∈ ws, (stepsL (tl z)).isSome = true
def valsOf (ws : List Str) : List Int := ws.map fun z => (stepsL (tl z)).getD 0
theorem spl_props : ∀ (l acc : List Nat), (∀ p ∈ TL.spl [32] 0 acc l, (∀ c ∈ p, c ∈ acc ∨ c ∈ l) ∧ p.length ≤ acc.length + l.length) ∧ (TL.spl [32] 0 acc l).length ≤ l.length + 1
  | [], acc => by
    rw [TL.spl_nil]
    refine ⟨fun p hp => ?_, by simp⟩
    rw [List.mem_singleton.mp hp]
    exact ⟨fun c h => .inl h, by simp⟩
  | c :: r, acc => by
    cases h : TL.pre [32] (c :: r) with
    | true =>
      rw [TL.spl_hit h]
      obtain ⟨i1, i2⟩ := spl_props r []
      refine ⟨fun p hp => ?_, by rw [List.length_cons, List.length_cons]; exact Nat.succ_le_succ i2⟩
      rcases List.mem_cons.mp hp with rfl | hp
      · exact ⟨fun c h => .inl h, by omega⟩
      · obtain ⟨a, b⟩ := i1 p hp
        refine ⟨fun d hd => ?_, by rw [List.length_cons]; simp at b; omega⟩
        rcases a d hd with q | q
        · simp at q
        · exact .inr (List.mem_cons_of_mem _ q)
    | false =>
      rw [TL.spl_miss h]
      obtain ⟨i1, i2⟩ := spl_props r (acc ++ [c])
      refine ⟨fun p hp => ?_, by rw [List.length_cons]; omega⟩
      obtain ⟨a, b⟩ := i1 p hp
      refine ⟨fun d hd => ?_, by rw [List.length_append] at b; rw [List.length_cons]; simp at b; omega⟩
      rcases a d hd with q | q
      · rcases List.mem_append.mp q with q | q
        · exact .inl q
        · rw [List.mem_singleton.mp q]
          exact .inr List.mem_cons_self
      · exact .inr (List.mem_cons_of_mem _ q)
theorem split_sp (z : Str) : Txt.split z ⟨#[32]⟩ = (TL.spl [32] 0 [] (tl z)).map fun l => ⟨l.toArray⟩ := by
  have e := SX.split_S (a := tl z) (b := [32]) (by simp) (by decide)
  rw [show SX.S (tl z) = z from SX.S_tl z] at e
  exact e
theorem word_of_text {z w : Str} (h : w ∈ wordsOf z) : w.length ≤ z.length ∧ ∀ c ∈ tl w, c ∈ tl z := by
  unfold wordsOf at h
  split at h
  · simp at h
  rw [split_sp] at h
  obtain ⟨l, hl, rfl⟩ := List.mem_map.mp h
  obtain ⟨a, b⟩ := (spl_props (tl z) []).1 l hl
  refine ⟨?_, fun c hc => ?_⟩
  · rw [len_tl, len_tl]
    simpa using b
  · rcases a c hc with q | q
    · simp at q
    · exact q
theorem words_len (z : Str) : (wordsOf z).length ≤ z.length + 1 := by
  unfold wordsOf
  split
  · simp
  · rw [split_sp, List.length_map, len_tl]
    exact (spl_props (tl z) []).2
section
variable {P : Program} {w : World} {K : PySem.W.Frag} {mg : Str → Option Value} {base : Heap}
def spNMX (K : PySem.W.Frag) (cM : Addr) : Sp := fun vs H Q E => ∃ (l : Addr) (xs : List V), vs = [.ref l] ∧ SqL K H l xs ∧ (xs.length ≤ 100 → Q .non H) ∧ (100 < xs.length → E (.ref cM) none H)
theorem ok_need_movesX {cM : Addr} (B : Bl mg) (F : FunAt K mg "need_moves" s_need_moves) (M_MOST_MOVES : Cn mg "MOST_MOVES" 100) (G_BadMoves : ClsG mg "BadMoves" cM) (R_BadMoves : ErrR K cM) : Has P w K mg base (L2.CX P w) 1 "need_moves" (spNMX K cM) := by
  refine F.okX sc_need_moves bo_need_moves (fun vs H Q E h => ?_) (fun f cdv A outer s H vs Q E hr h => ?_)
  · obtain ⟨l, xs, rfl, _⟩ := h
    rfl
  · obtain ⟨l, xs, rfl, hl, k1, k2⟩ := h
    refine ⟨_, (pss_one (ps_if (pt_cmpR op_gt (pe_callB (kc_len (K := K) rfl) rfl B.len (by decide +kernel) (pa_cons (pv 0) pa_nil)) (pe_cn M_MOST_MOVES rfl) (nomark _)) (pss_one (ps_raiseC rfl (takes_of rfl rfl rfl rfl) G_BadMoves R_BadMoves)) pss_nil)), ?_⟩
    refine r_start (σ' := [some (.ref l)]) rfl ?_
    walk_at "go"
    refine iteD (fun c => ?_) (fun c => ?_)
    · exact k2 (by omega)
    · walk_at "go"
      exact k1 (by omega)
def spReadX (K : PySem.W.Frag) (C cM : Addr) : Sp := fun vs H Q E => ∃ (z : Str), vs = [.str z] ∧ z.length ≤ 1000000 ∧ (∀ c ∈ tl z, c < 128) ∧
  (∀ (n : Nat) (d : Addr) (H' : Hp), FirstBad (wordsOf z) n → H d = none → Same H H' → H' d = some (.xd [(("place" : Str), V.int n)]) → E (.ref C) (some d) H') ∧
  (∀ (H' : Hp), AllGood (wordsOf z) → 100 < (wordsOf z).length → Same H H' → E (.ref cM) none H') ∧
  (∀ (l : Addr) (H' : Hp), AllGood (wordsOf z) → (wordsOf z).length ≤ 100 → H l = none → Same H H' → H' l = some (.lst ((valsOf (wordsOf z)).map V.int)) → Q (.ref l) H')
theorem ok_read_movesX {C cM : Addr} (B : Bl mg) (F : FunAt K mg "read_moves" s_read_moves) (BT : BtR P w K mg base C) (HX_need_moves : Has P w K mg base (L2.CX P w) 1 "need_moves" (spNMX K cM)) (H_steps_of : Has P w K mg base CX0 1 "steps_of" spStepsOf) :
    Has P w K mg base (L2.CX P w) 4 "read_moves" (spReadX K C cM) := by
  refine F.okX sc_read_moves bo_read_moves (fun vs H Q E h => ?_) (fun f cdv A outer s H vs Q E hr h => ?_)
  · obtain ⟨z, rfl, _⟩ := h
    rfl
  · obtain ⟨z, rfl, hz, ha, k1, k2, k3⟩ := h
    have tsz : z.length + 2 ≤ sizeLine := by
      rw [PySem.sizeLine_eq]
      omega
    refine ⟨_, (pss_cons (ps_set (i := 1) sc_read_moves.nd rfl (by first | exact Or.inl rfl | exact Or.inr rfl) (pe_lst pa_nil))
 (pss_cons (ps_for (passes_of rfl) rfl (kpi_enum (K := K) rfl rfl B.enumerate (pa_cons (pe_mid (pe_ifExp (pt_cmpR (kop_ne (K := K) rfl hr.units) (pv 0) pe_str (nomark _)) (kpe_split (pv 0) pe_str) (pe_lst pa_nil))) pa_nil)) (kpg_tup (K := K) rfl rfl (pgs_cons (pg_name (i := 2) sc_read_moves.nd rfl (by first | exact Or.inl rfl | exact Or.inr rfl)) (pgs_cons (pg_name (i := 3) sc_read_moves.nd rfl (by first | exact Or.inl rfl | exact Or.inr rfl)) pgs_nil))) (pss_cons (ps_set (i := 4) sc_read_moves.nd rfl (by first | exact Or.inl rfl | exact Or.inr rfl) (pe_has H_steps_of hr (by omega) rfl pass0 (pa_cons (pv 3) pa_nil)))
 (pss_cons (ps_if (pt_cmpR op_isN (pv 4) pe_non (nomark _)) (pss_one (ps_raiseT rfl (takes_of rfl rfl rfl rfl) BT (hr.mono (by omega)) (pa_cons (pv 2) pa_nil))) pss_nil)
 (pss_one (ps_expr (kpe_bm (K := K) rfl PySem.F.plainAttrs_list PySem.F.slot_list_append PySem.F.type_list_append mt_append (pv 1) (pa_cons (pv 4) pa_nil)))))))
 (pss_cons (ps_expr (pe_has HX_need_moves hr (by omega) rfl passX (pa_cons (pv 1) pa_nil)))
 (pss_one (ps_ret (pv 1)))))), ?_⟩
    refine r_start (σ' := [some (.str z), none, none, none, none]) rfl ?_
    walk_at "go"
    intro fd nfd
    walk_at "go"
    have hfd : upd H fd (.lst []) fd = some (.lst []) := upd_same
    have s0 : Same H (upd H fd (.lst [])) := same_new nfd
    generalize upd H fd (.lst []) = H0 at s0 hfd ⊢
    obtain ⟨ws, hws⟩ : ∃ ws, ws = wordsOf z := ⟨_, rfl⟩
    have hwn := words_len z
    rw [← hws] at k1 k2 k3 hwn
    refine r_mid (fun v H' => ∃ wl, v = .ref wl ∧ Same H0 H' ∧ H' wl = some (.lst (ws.map V.str)) ∧ wl ≠ fd) ?_ ?_
    · walk_at "go"
      refine r_neS ?_
      walk_at "go"
      have ee : ("" : Str) = ⟨#[]⟩ := by decide +kernel
      refine iteN (fun c => ?_) (fun c => ?_)
      · walk_at "go"
        refine r_m1 ?_
        walk_at "go"
        refine ⟨⟨_, rfl⟩, ?_⟩
        walk_at "go"
        refine r_split (by decide +kernel) tsz fun wl nwl => ?_
        have e : (" " : Str) = ⟨#[32]⟩ := by decide +kernel
        have e2 : Txt.split z " " = ws := by
          rw [hws, e]
          unfold wordsOf
          rw [if_neg (fun q => c (by rw [q, ee]))]
        rw [e2]
        exact ⟨wl, rfl, same_new nwl, upd_same, (ne_of_none hfd nwl).symm⟩
      · have e2 : ws = [] := by
          rw [hws]
          unfold wordsOf
          rw [if_pos (by rw [c, ee])]
        subst e2
        walk_at "go"
        intro wl nwl
        exact ⟨wl, rfl, same_new nwl, upd_same, (ne_of_none hfd nwl).symm⟩
    · rintro _ H1 ⟨wl, rfl, h1, hwl, wfd⟩
      walk_at "go"
      refine ⟨wl, _, rfl, SqL.of hwl, fw_enum (K := K) (a := wl) (xs := ws.map V.str) (fun i σ H2 => ∃ v2 v3 v4, σ = [some (.str z), some (.ref fd), v2, v3, v4] ∧ Same H H2 ∧ H2 wl = some (.lst (ws.map V.str)) ∧ H2 fd = some (.lst ((valsOf (ws.take i)).map V.int)) ∧ AllGood (ws.take i))
        ⟨_, _, _, rfl, s0.trans h1, hwl, h1 _ _ hfd, fun z h => by simp at h⟩ (fun i σ H2 _ h => ?_) ?_ ?_⟩
      · obtain ⟨_, _, _, _, _, h, _⟩ := h
        exact SqL.of h
      · rintro i y σ H2 T hi ⟨v2, v3, v4, rfl, s2, hwl2, hfd2, good2⟩ nT
        obtain ⟨x, hx, rfl⟩ := map_at hi
        have hxm : x ∈ wordsOf z := by rw [← hws]; exact List.mem_of_getElem? hx
        obtain ⟨xl, xa0⟩ := word_of_text hxm
        have xa : ∀ c ∈ tl x, c < 128 := fun c hc => ha c (xa0 c hc)
        have hil : i < ws.length := (List.getElem?_eq_some_iff.mp hx).1
        have s3 : Same H2 (upd H2 T (.tup [.int (i : Nat), .str x])) := same_new nT
        have hT : upd H2 T (.tup [.int (i : Nat), .str x]) T = some (.tup [.int (i : Nat), .str x]) := upd_same
        generalize upd H2 T (.tup [.int (i : Nat), .str x]) = H3 at s3 hT ⊢
        walk_at "go"
        refine spStepsOf_i (by rw [PySem.sizeLine_eq]; omega) xa fun H4 h4 => ?_
        have s24 := s3.trans h4
        cases e : stepsL (tl x) with
        | none =>
          show gName _ .non _ _ _
          walk_at "go"
          refine ⟨rfl, ?_⟩
          walk_at "go"
          refine iteDT rfl ?_
          refine r_raiseT ?_
          walk_at "go"
          refine badMk fun d H' nd sd hd => k1 i d H' ⟨⟨x, hx, e⟩, fun m u hm hu => good2 u ?_⟩ ((s2.trans s24).free nd) ((s2.trans s24).trans sd) hd
          exact List.mem_of_getElem? (i := m) (by rw [List.getElem?_take_of_lt hm]; exact hu)
        | some n =>
          show gName _ (.int n) _ _ _
          walk_at "go"
          refine ⟨rfl, ?_⟩
          walk_at "go"
          refine iteDF (fun e => nomatch e) ?_
          walk_at "go"
          refine ⟨r_tyL (s24 _ _ hfd2), ?_⟩
          walk_at "go"
          refine r_appA (s24 _ _ hfd2) (by unfold valsOf; rw [List.length_map, List.length_map, List.length_take]; rw [PySem.sizeLine_eq]; omega) fun H5 e5 w5 => ?_
          walk_at "go"
          refine ⟨_, _, _, rfl, fun b o e => w5 _ _ (ne_of_none e nfd) (s24 _ _ (s2 _ _ e)), w5 _ _ wfd (s24 _ _ hwl2), ?_, ?_⟩
          · rw [e5, take_snoc hx]
            unfold valsOf
            simp [e]
          · rw [take_snoc hx]
            intro u hu
            rcases List.mem_append.mp hu with hu | hu
            · exact good2 u hu
            · rw [List.mem_singleton.mp hu, e]
              rfl
      · rintro σ H2 ⟨v2, v3, v4, rfl, s2, hwl2, hfd2, good2⟩
        rw [List.length_map, List.take_length] at hfd2 good2
        have vl : ((valsOf ws).map V.int).length = ws.length := by unfold valsOf; rw [List.length_map, List.length_map]
        walk_at "go"
        refine ⟨fd, _, rfl, SqL.of hfd2, fun c => ?_, fun c => k2 H2 good2 (by omega) s2⟩
        walk_at "go"
        exact k3 fd H2 good2 (by omega) nfd s2 hfd2
end
end Rd

namespace Rd
open PySem PySem.Spec PyProof.Rows L2 LamX
/-- the caught error's dict -/
def DictOk (d : Option Addr) (H : Hp) : Prop := d = none ∨ ∃ (dd : Addr) (fs : List (Str × V)), d = some dd ∧ H dd = some (.xd fs)
theorem DictOk.same {d : Option Addr} {H H' : Hp} (h : DictOk d H) (R : Same H H') : DictOk d H' := by
  rcases h with h | ⟨dd, fs, h1, h2⟩
  · exact .inl h
  · exact .inr ⟨dd, fs, h1, R _ _ h2⟩
/-- isinstance(e, c), e the error that the suite holds, its dict none or its own -/
def rIsY (K : PySem.W.Frag) (a : Addr) (cls : Value) (d : Option Addr) : List V → Hp → VK → Prop := fun xs H Q => ∃ (D : Addr) (c : V) (cv : Value) (b : Bool), cls = .ref D ∧ DictOk d H ∧ ExcC K D ∧ xs = [.ref a, c] ∧ (∀ u, RelV c u → u = cv) ∧ PySem.W.kitOne K (.ref D) cv = some b ∧ Q (.bl b) H
theorem kc_isY {X : Cx} {K : PySem.W.Frag} {a : Addr} {oe : Obj} {cls : Value} {d : Option Addr} {pn : List (Addr × Obj)} (hK : X.K = K) (hz : Zc cls d oe) (hf : ∃ vs, oe.data = .fields vs) : CallR (X.suite a ((a, oe) :: pn)) (.builtin "isinstance") (rIsY K a cls d) := by
  subst hK
  rintro pins s σ H _ us Q I r ⟨D, c, cv, b, rfl, hd, C, rfl, hcv, e, q⟩
  rcases r with _ | ⟨rx, r⟩
  rcases r with _ | ⟨rt, r⟩
  cases r
  cases rx
  cases hcv _ rt
  have here := (I.pin (a, oe) (List.mem_append_left _ List.mem_cons_self)).1
  have ncl : PySem.W.notCls oe := by
    obtain ⟨vs, hv⟩ := hf
    unfold PySem.W.notCls
    rw [hv] <;> rfl
  have cls : (PySem.W.clsIn X.K D).isSome = true := by
    obtain ⟨cd, z, _⟩ := PySem.W.any_some C.hd
    rw [z]
    rfl
  have inst : ∃ od, PySem.W.InstAt s.heap a oe D od := by
    rcases hd with rfl | ⟨dd, fs, rfl, ed⟩
    · exact ⟨none, here, hz.1, ncl, by rw [hz.2]; exact True.intro⟩
    · obtain ⟨mA, ns, _⟩ := (I.hok dd _ ed : ObjOk X.prog X.w H s.heap dd (.xd fs))
      obtain ⟨od, at_, _⟩ := lookIn_ns ns
      exact ⟨some od, here, hz.1, ncl, by rw [hz.2]; exact at_⟩
  obtain ⟨od, J⟩ := inst
  refine PySem.W.kia_one (PySem.W.kitx_exc cls C.hg C.hk C.hs C.ha C.hn C.ht C.hm) I.kIn J e (fun z => nomatch z) fun tk => ?_
  exact ⟨.bl b, H, I.kept (t' := tk) fun _ _ z => z, rfl, q⟩
section
variable {K : PySem.W.Frag} {H : Hp} {Q : VK} {d : Option Addr}
theorem r_isYc {a D c : Addr} {b : Bool} (hd : DictOk d H) (C : ExcC K D) (e : PySem.W.kitOne K (.ref D) (.ref c) = some b) (q : Q (.bl b) H) : rIsY K a (.ref D) d [.ref a, .ref c] H Q := ⟨D, .ref c, .ref c, b, rfl, hd, C, rfl, fun _ r => r, e, q⟩
theorem r_isYt {a D : Addr} {n : String} {b : Bool} (hd : DictOk d H) (C : ExcC K D) (e : PySem.W.kitOne K (.ref D) (.type n) = some b) (q : Q (.bl b) H) : rIsY K a (.ref D) d [.ref a, .ty n] H Q := ⟨D, .ty n, .type n, b, rfl, hd, C, rfl, fun _ r => r, e, q⟩
end
end Rd
namespace Rd
open PySem PySem.Spec PyProof.Rows L2 LamX
theorem r_xf {a C : Addr} {cls : Value} {d : Option Addr} {f : Str} {te : TE} {σ : L2.St} {H : Hp} {Q : VK} (k : te σ H fun x H1 => x = .ref a ∧ cls = .ref C ∧ ∃ (dd : Addr) (fs : List (Str × V)) (v : V), d = some dd ∧ H1 dd = some (.xd fs) ∧ fs.lookup f = some v ∧ Q v H1) : tXf a cls d C f te σ H Q := k
/-- what _law_kind makes of an error -/
def KErr (K : PySem.W.Frag) (G : Addr) (cs : Nat → Addr) (Q : VK) : XK := fun cls d H' => ∃ (D : Addr) (i : Nat), cls = .ref D ∧ KindOf K G cs D i ∧
  ((i < 6 ∧ d = none ∧ ∀ H'', Same H' H'' → Q (.str (kindW i)) H'') ∨ (i = 6 ∧ D = cs 6 ∧ ∃ (dd : Addr) (n : Int), d = some dd ∧ H' dd = some (.xd [(("place" : Str), V.int n)]) ∧ ∀ t H'', Same H' H'' → H'' t = some (.tup [.str "BadText", .int n]) → Q (.ref t) H''))
def TTKind2 (K : PySem.W.Frag) (G : Addr) (cs : Nat → Addr) : (XK → Hp → VK → Prop) → Hp → VK → Prop := fun tl H Q => tl (KErr K G cs Q) H Q
theorem r_kind2 {K : PySem.W.Frag} {G : Addr} {cs : Nat → Addr} {tl : XK → Hp → VK → Prop} {H : Hp} {Q : VK} (k : tl (KErr K G cs Q) H Q) : TTKind2 K G cs tl H Q := k
theorem kp_gives2 {K : PySem.W.Frag} {G : Addr} {cs : Nat → Addr} {Ng : List Str} {x a e q : Str} {X : Cx} {sg : Scope} {g : Addr} {cdg : Value} {b₀ : Stmt} {suite : List Stmt} {nE : Str} {p1 p2 p3 np pos pos' : Pos} {ts : Addr → Value → Option Addr → TS}
    (hK : X.K = K) (hge : sg.names.lookup nE = some .globalImplicit) (hme : ClsG X.mg nE G) (hde : (nE == ("__debug__" : Str)) = false) (h0 : ∀ f : Addr, (L2.start Ng [V.ref f])[0]? = some (some (V.ref f))) (hN : Ng.Nodup) (h1 : Ng[1]? = some e) (hl : sg.names.lookup e = some .local)
    (hsu : ∀ (s : Shared) (H : Hp) (a : Addr) (oe : Obj) (cls : Value) (d : Option Addr) (pn : List (Addr × Obj)), Zc cls d oe → (∃ vs, oe.data = .fields vs) → PSs ((cxOf C8.CX0 X.prog X.w X.K X.mg X.base Ng x sg g cdg X.A X.stack s H C8.E0).nox.suite a ((a, oe) :: pn)) (b₀ :: suite) (ts a cls d))
    (hts : ∀ (cls : Value) (d : Option Addr) (ea : Addr) (σ : L2.St) (H' : Hp) (En : Ends), KErr K G cs En.rt cls d H' → H' ea = none → σ.length = Ng.length → ts ea cls d En (σ.set 1 (some (.ref ea))) H') :
    GivesTo X Ng x sg g cdg [.Try [.Return (some (.Call (.Name a p1) [] [] p2)) p3] [.ExceptHandler (some (.Name nE np)) (some e) (b₀ :: suite) pos'] [] [] pos] a q (TTKind2 K G cs) := by
  intro f c' s H Q tl act hc h
  have hgl : Gl (cxOf C8.CX0 X.prog X.w X.K X.mg X.base Ng x sg g cdg X.A X.stack s H C8.E0).nox nE := hge
  refine ⟨_, pss_one (ps_try_as (X := (cxOf C8.CX0 X.prog X.w X.K X.mg X.base Ng x sg g cdg X.A X.stack s H C8.E0).nox) (i := 1) (c := .ref G) (Wout := fun _ _ _ _ => False) (ts := ts)
      (tb := fun W D σ H => ∃ Ech : XK, (∀ cls d σ' H', σ'.length = Ng.length → Ech cls d H' → W cls d σ' H') ∧ σ[0]? = some (some (.ref f)) ∧ H c' = some (CodeO c' q) ∧ tl Ech H D.rt)
      rfl rfl hN h1 hl ⟨hgl, hde, .inl hme.g⟩ L2.takes0 (fun W pn xe tk _ => ?_) (fun ea oe cls d pn hz hf => hsu s H ea oe cls d pn hz hf)), ?_⟩
  · refine ⟨fun pins s' σ H' D I h' => ?_⟩
    obtain ⟨Ech, hW, h1, h2, h3⟩ := h'
    have tk' : Takes ((cxOf C8.CX0 X.prog X.w X.K X.mg X.base Ng x sg g cdg X.A X.stack s H C8.E0).tr pn xe) (fun cls d σ' H' => σ'.length = Ng.length → W cls d σ' H') := fun u s' ⟨a, B, sI, pins, σ', H', cls, d, e1, I', nb, up, sky, na, os, ag, w⟩ => tk u s' ⟨a, B, sI, pins, σ', H', cls, d, e1, I', nb, up, sky, na, os, ag, w I'.len⟩
    have hp := act _ pn xe Ech p1 p2 tk' fun cls d σ' H' e hl => hW cls d σ' H' hl e
    have hq := pss_one (ps_ret (pos := p3) hp)
    exact hq.run pins s' σ H' D I ⟨h1, h2, h3⟩
  · subst hK
    refine ⟨KErr X.K G cs Q, fun cls d σ' H' hl he => ⟨true, ?_, fun _ ea na => hts cls d ea σ' H' _ he na hl, fun z => nomatch z⟩, h0 f, hc, h⟩
    obtain ⟨D, i, e1, hk, _⟩ := he
    rw [e1]
    exact hk.g
set_option maxHeartbeats 8000000 in
theorem kind_gives2 {X : Cx} {G : Addr} {cs : Nat → Addr} {q : Str} {g : Addr} {cdg : Value} (B : Bl X.mg) (Z_ValueError : X.mg "ValueError" = none) (hr : Room 1 X.A) (G_GearError : ClsG X.mg "GearError" G) (G_BadGear : ClsG X.mg "BadGear" (cs 0)) (G_BadStanding : ClsG X.mg "BadStanding" (cs 1))
    (G_BadMoves : ClsG X.mg "BadMoves" (cs 2)) (G_BadGoal : ClsG X.mg "BadGoal" (cs 3)) (G_BadMarks : ClsG X.mg "BadMarks" (cs 4)) (G_BadMark : ClsG X.mg "BadMark" (cs 5)) (G_BadText : ClsG X.mg "BadText" (cs 6)) (XT : XfC X.K (cs 6)) (XN : PySem.W.findIn X.K (.ref (cs 6)) "place" = some none) :
    GivesTo X ["_law_work", "e", "_law_kinds", "_law_words", "_law_word_here"] "_law_kind" (defScope s_law_kind) g cdg (defBody s_law_kind) "_law_work" q (TTKind2 X.K G cs) := by
  refine kp_gives2 (K := X.K) (G := G) (cs := cs) rfl rfl G_GearError (by decide) (fun _ => rfl) sc_law_kind.nd rfl rfl (fun s H a oe cls d pn hz hf => by have hu : (X.A.deeper (envOfC "_law_kind" (defScope s_law_kind) s.heap.objs.size g cdg)).units + 64 < cLine := (hr.deeper _).units; exact (pss_cons (ps_set (i := 2) sc_law_kind.nd rfl (by first | exact Or.inl rfl | exact Or.inr rfl) (pe_lst (pa_cons (pe_callB (kc_isY (K := X.K) rfl hz hf) rfl B.isinstance (by decide +kernel) (pa_cons (pv 1) (pa_cons (pe_clsG G_BadGear rfl) pa_nil))) (pa_cons (pe_callB (kc_isY (K := X.K) rfl hz hf) rfl B.isinstance (by decide +kernel) (pa_cons (pv 1) (pa_cons (pe_clsG G_BadStanding rfl) pa_nil))) (pa_cons (pe_callB (kc_isY (K := X.K) rfl hz hf) rfl B.isinstance (by decide +kernel) (pa_cons (pv 1) (pa_cons (pe_clsG G_BadMoves rfl) pa_nil))) (pa_cons (pe_callB (kc_isY (K := X.K) rfl hz hf) rfl B.isinstance (by decide +kernel) (pa_cons (pv 1) (pa_cons (pe_clsG G_BadGoal rfl) pa_nil))) pa_nil))))))
 (pss_cons (ps_set (i := 2) sc_law_kind.nd rfl (by first | exact Or.inl rfl | exact Or.inr rfl) (pe_op (kop_add (K := X.K) rfl) (pv 2) (pe_lst (pa_cons (pe_callB (kc_isY (K := X.K) rfl hz hf) rfl B.isinstance (by decide +kernel) (pa_cons (pv 1) (pa_cons (pe_clsG G_BadMarks rfl) pa_nil))) (pa_cons (pe_callB (kc_isY (K := X.K) rfl hz hf) rfl B.isinstance (by decide +kernel) (pa_cons (pv 1) (pa_cons (pe_clsG G_BadMark rfl) pa_nil))) (pa_cons (pe_callB (kc_isY (K := X.K) rfl hz hf) rfl B.isinstance (by decide +kernel) (pa_cons (pv 1) (pa_cons (pe_clsG G_BadText rfl) pa_nil))) pa_nil))))))
 (pss_cons (ps_set (i := 3) sc_law_kind.nd rfl (by first | exact Or.inl rfl | exact Or.inr rfl) (pe_lst (pa_cons pe_str (pa_cons pe_str (pa_cons pe_str (pa_cons pe_str (pa_cons pe_str (pa_cons pe_str (pa_cons pe_str pa_nil)))))))))
 (pss_cons (ps_if (PW.pt (pw_or (pt_cmpR (kop_ne (K := X.K) rfl hu) (kpe_bm (K := X.K) rfl PySem.F.plainAttrs_list PySem.F.slot_list_count PySem.F.type_list_count (kmt_countB (K := X.K) rfl) (pv 2) (pa_cons pe_bl pa_nil)) pe_int (nomark _)) (pw_or1 (pt_not (pt_val (pe_callB (kc_isY (K := X.K) rfl hz hf) rfl B.isinstance (by decide +kernel) (pa_cons (pv 1) (pa_cons (pe_bltn rfl Z_ValueError (v := .ty "ValueError") rfl rfl) pa_nil)))))))) (pss_one (ps_ret pe_str)) pss_nil)
 (pss_cons (ps_set (i := 4) sc_law_kind.nd rfl (by first | exact Or.inl rfl | exact Or.inr rfl) (pe_ix (kix (K := X.K) rfl) (pv 3) (kpe_bm (K := X.K) rfl PySem.F.plainAttrs_list PySem.F.slot_list_index PySem.F.type_list_index (kmt_index (K := X.K) rfl) (pv 2) (pa_cons pe_bl pa_nil)) (fun _ _ => rfl)))
 (pss_one (ps_ret (pe_ifExp (pt_cmpR (kop_eq (K := X.K) rfl hu) (pv 4) pe_str (nomark _)) (pe_tup (pa_cons (pv 4) (pa_cons (pe_xf XT XN hz hf (pv 1)) pa_nil))) (pv 4)))))))))) ?_
  intro cls d ea σ H' En hE na hl
  obtain ⟨D, i, rfl, hk, hE⟩ := hE
  have hd : DictOk d H' := by
    rcases hE with ⟨_, h, _⟩ | ⟨_, _, dd, n, h1, h2, _⟩
    · exact .inl h
    · exact .inr ⟨dd, _, h1, h2⟩
  have hi : i < 7 := by
    rcases hE with ⟨h, _⟩ | ⟨h, _⟩ <;> omega
  obtain ⟨v0, v1, v2, v3, v4, rfl⟩ : ∃ v0 v1 v2 v3 v4, σ = [v0, v1, v2, v3, v4] := match σ, hl with | [v0, v1, v2, v3, v4], _ => ⟨v0, v1, v2, v3, v4, rfl⟩
  obtain ⟨nn, rr, bb, cc⟩ := En
  dsimp only at hE
  have C := hk.c
  refine r_start (σ' := [v0, some (.ref ea), v2, v3, v4]) rfl ?_
  have hd0 := hd
  walk_at "go"
  refine r_isYc hd C (hk.is 0 (by decide)) ?_
  walk_at "go"
  refine r_isYc hd C (hk.is 1 (by decide)) ?_
  walk_at "go"
  refine r_isYc hd C (hk.is 2 (by decide)) ?_
  walk_at "go"
  refine r_isYc hd C (hk.is 3 (by decide)) ?_
  walk_at "go"
  intro l1 n1
  have hd := hd.same (same_new (u := .lst [V.bl (decide (0 = i)), V.bl (decide (1 = i)), V.bl (decide (2 = i)), V.bl (decide (3 = i))]) n1)
  walk_at "go"
  refine r_isYc hd C (hk.is 4 (by decide)) ?_
  walk_at "go"
  refine r_isYc hd C (hk.is 5 (by decide)) ?_
  walk_at "go"
  refine r_isYc hd C (hk.is 6 (by decide)) ?_
  walk_at "go"
  intro l2 n2
  refine r_addL (at_new n2 upd_same) upd_same (len_ok rfl) fun l3 n3 => ?_
  have s3 := (same_new (u := .lst [V.bl (decide (0 = i)), V.bl (decide (1 = i)), V.bl (decide (2 = i)), V.bl (decide (3 = i))]) n1).trans ((same_new (u := .lst [V.bl (decide (4 = i)), V.bl (decide (5 = i)), V.bl (decide (6 = i))]) n2).trans (same_new (u := .lst ([V.bl (decide (0 = i)), V.bl (decide (1 = i)), V.bl (decide (2 = i)), V.bl (decide (3 = i))] ++ [V.bl (decide (4 = i)), V.bl (decide (5 = i)), V.bl (decide (6 = i))])) n3))
  have h3 : upd (upd (upd H' l1 (.lst [V.bl (decide (0 = i)), V.bl (decide (1 = i)), V.bl (decide (2 = i)), V.bl (decide (3 = i))])) l2 (.lst [V.bl (decide (4 = i)), V.bl (decide (5 = i)), V.bl (decide (6 = i))])) l3 (.lst ([V.bl (decide (0 = i)), V.bl (decide (1 = i)), V.bl (decide (2 = i)), V.bl (decide (3 = i))] ++ [V.bl (decide (4 = i)), V.bl (decide (5 = i)), V.bl (decide (6 = i))])) l3
    = some (.lst (([decide (0 = i), decide (1 = i), decide (2 = i), decide (3 = i), decide (4 = i), decide (5 = i), decide (6 = i)] : List Bool).map V.bl)) := upd_same
  generalize upd (upd (upd H' l1 (.lst [V.bl (decide (0 = i)), V.bl (decide (1 = i)), V.bl (decide (2 = i)), V.bl (decide (3 = i))])) l2 (.lst [V.bl (decide (4 = i)), V.bl (decide (5 = i)), V.bl (decide (6 = i))])) l3 (.lst ([V.bl (decide (0 = i)), V.bl (decide (1 = i)), V.bl (decide (2 = i)), V.bl (decide (3 = i))] ++ [V.bl (decide (4 = i)), V.bl (decide (5 = i)), V.bl (decide (6 = i))])) = H3 at s3 h3 ⊢
  walk_at "go"
  intro l4 n4
  have h34 := at_new (u := .lst ((["BadGear", "BadStanding", "BadMoves", "BadGoal", "BadMarks", "BadMark", "BadText"] : List Str).map V.str)) n4 h3
  have s4 := s3.trans (same_new (u := .lst (((["BadGear", "BadStanding", "BadMoves", "BadGoal", "BadMarks", "BadMark", "BadText"] : List Str)).map V.str)) n4)
  have hd4 := hd0.same s4
  walk_at "go"
  refine ⟨r_tyL h34, ?_⟩
  walk_at "go"
  refine r_countB (SqL.of h34) ?_
  rw [count_kind i (by omega)]
  walk_at "go"
  refine iteNF rfl ?_
  walk_at "go"
  refine r_isYt hd4 C hk.v ?_
  walk_at "go"
  refine iteF ?_
  walk_at "go"
  refine ⟨r_tyL h34, ?_⟩
  walk_at "go"
  refine r_indexB (SqL.of h34) (index_kind i (by omega)) (index_kind2 i (by omega)) ?_
  refine r_ix (v := .str (kindW i)) (.inl (SqL.of upd_same)) (at_of (j := i) rfl (kindW_at (by omega))) ?_
  walk_at "go"
  refine r_eqS ?_
  walk_at "go"
  rcases hE with ⟨h6, _, k⟩ | ⟨rfl, rfl, dd, n, rfl, hdd, k⟩
  · refine iteDF (kindW_ne i h6) ?_
    walk_at "go"
    exact k _ s4
  · refine iteDT rfl ?_
    walk_at "go"
    refine r_xf ?_
    walk_at "go"
    refine ⟨rfl, rfl, dd, _, .int n, rfl, s4 _ _ hdd, rfl, ?_⟩
    walk_at "go"
    intro t nt
    exact k t _ (s4.trans (same_new nt)) upd_same
end Rd

namespace Rd
open PySem L2 TL
theorem iteT' {b : Bool} {A B : Prop} (h : b = true) (k : A) : if b = true then A else B := by rw [if_pos h]; exact k
theorem iteF' {b : Bool} {A B : Prop} (h : b = false) (k : B) : if b = true then A else B := by rw [if_neg (by rw [h]; decide)]; exact k
theorem intText_plus {cs : List Nat} (h : NumText.AllDigits cs) (h1 : cs ≠ []) (h2 : cs.length ≤ 4300) : intText? ⟨(43 :: cs).toArray⟩ = some ((NumText.digitsVal cs : Nat) : Int) := by
  have e0 := intText_digits (x := ⟨cs.toArray⟩) h h1 h2
  have e0' : intText? ⟨cs.toArray⟩ = some ((NumText.digitsVal cs : Nat) : Int) := e0
  rw [← e0']
  have hall : ∀ c ∈ cs, c < 128 ∧ c ≠ 0 := fun c hc => by
    have := h c hc
    omega
  have hall2 : ∀ c ∈ 43 :: cs, c < 128 ∧ c ≠ 0 := fun c hc => by
    rcases List.mem_cons.mp hc with rfl | hc
    · decide
    · exact hall c hc
  have nt : ∀ l : List Nat, (∀ c ∈ l, c < 128 ∧ c ≠ 0) → numTextOf ⟨l.toArray⟩ = l ∧ numSeenOf ⟨l.toArray⟩ = l := fun l hl => by
    have e1 : numTextOf ⟨l.toArray⟩ = l := by
      refine if_pos ?_
      rw [← Array.all_toList, List.all_eq_true]
      intro c hc
      exact decide_eq_true (hl c (by simpa using hc)).1
    refine ⟨e1, ?_⟩
    show (numTextOf ⟨l.toArray⟩).takeWhile _ = _
    rw [e1]
    exact NumText.takeWhile_all fun c hc => bne_iff_ne.mpr (hl c hc).2
  obtain ⟨a1, a2⟩ := nt (43 :: cs) hall2
  obtain ⟨b1, b2⟩ := nt cs hall
  cases cs with
  | nil => exact absurd rfl h1
  | cons c r =>
    have hc := h.head
    have es1 : NumText.sign ((43 :: c :: r).dropWhile NumText.blank) = (false, c :: r) := by rw [NumText.dropWhile_of (by decide)]; rfl
    have es2 : NumText.sign ((c :: r).dropWhile NumText.blank) = (false, c :: r) := by rw [NumText.dropWhile_digits h]; exact NumText.sign_of (by omega) (by omega)
    have ec : NumText.core (43 :: c :: r) = NumText.core (c :: r) := by
      unfold NumText.core
      rw [es1, es2]
    unfold intText?
    rw [a1, a2, b1, b2, ec, es1, es2]
    simp
/-- int(word), the word one of a move -/
theorem int_word {z : Str} {n : Int} (h : stepsL (tl z) = some n) : intText? z = some n ∧ z.length ≤ 640 := by
  have ez : z = ⟨(tl z).toArray⟩ := (mk_tl z).symm
  have zl : z.length = (tl z).length := len_tl z
  unfold stepsL at h
  split at h
  · rename_i e
    have en : n = 0 := (Option.some.inj h).symm
    rw [ez, e, en]
    exact ⟨by decide +kernel, by decide⟩
  · split at h
    · rename_i n0 hs
      split at h
      · rename_i c
        obtain ⟨c1, c2, c3, c4⟩ := c
        have hd := (allDigits_iff _).mp c4
        have hne : (tl z).drop 1 ≠ [] := fun e => by rw [e] at c1; simp at c1
        have hen := Option.some.inj h
        have len31 : z.length ≤ 31 := by
          rw [zl]
          rw [List.length_drop] at c2
          omega
        refine ⟨?_, by omega⟩
        rcases hs with hs | hs
        · have e2 : tl z = 43 :: (tl z).drop 1 := by
            conv => lhs; rw [← List.take_append_drop 1 (tl z), hs]
            rfl
          rw [if_pos hs] at hen
          rw [ez, e2]
          rw [intText_plus hd hne (by omega), ← hen]
        · have e2 : tl z = 45 :: (tl z).drop 1 := by
            conv => lhs; rw [← List.take_append_drop 1 (tl z), hs]
            rfl
          rw [if_neg (by rw [hs]; decide)] at hen
          rw [intText_neg (cs := (tl z).drop 1) e2 hd hne (by omega), ← hen]
          congr 1
          omega
      · cases h
    · cases h
section
variable {P : Program} {w : World} {K : PySem.W.Frag} {mg : Str → Option Value} {base : Heap}
theorem r_eqNilS {H : Hp} {Q : VK} {a b : Addr} {ys : List Str} (h : H a = some (.lst (ys.map V.str))) (h2 : H b = some (.lst [])) (ok : ∀ y ∈ ys, PyData.strOk y = true) (k : Q (.bl (decide (ys = []))) H) : rEqA K (.ref a) (.ref b) H Q := by
  refine .inr ⟨.list (ys.map PyData.str), .list [], Is.dp _ _ (.lst h (IsAll.strs ys)), Is.dp _ _ (.lst h2 .nil), (Fl.strs 0 ok).shaped (by decide), (Fl.list (n := 0) (ds := []) (by simp)).shaped (by decide), ?_⟩
  rw [eqv_strs]
  exact k
def spLRead : Sp := fun vs H Q _ => ∃ (z : Str), vs = [.str z] ∧ z.length ≤ 1000000 ∧ (∀ c ∈ tl z, c < 128) ∧
  (∀ (n : Nat) (t : Addr) (H' : Hp), FirstBad (wordsOf z) n → Same H H' → H' t = some (.tup [.str "BadText", .int n]) → Q (.ref t) H') ∧
  (∀ (H' : Hp), AllGood (wordsOf z) → 100 < (wordsOf z).length → Same H H' → Q (.str "BadMoves") H') ∧
  (∀ (l : Addr) (H' : Hp), AllGood (wordsOf z) → (wordsOf z).length ≤ 100 → Same H H' → H' l = some (.lst ((valsOf (wordsOf z)).map V.int)) → Q (.ref l) H')
theorem ok_law_read (B : Bl mg) (F : FunAt K mg "_law_read" s_law_read) : Has P w K mg base CX0 1 "_law_read" spLRead := by
  refine F.ok sc_law_read bo_law_read (fun vs H Q E h => ?_) (fun f cdv A outer s H vs Q E hr h => ?_)
  · obtain ⟨z, rfl, _⟩ := h
    rfl
  · obtain ⟨z, rfl, hz, ha, k1, k2, k3⟩ := h
    refine ⟨_, (pss_cons (ps_set (i := 1) sc_law_read.nd rfl (by first | exact Or.inl rfl | exact Or.inr rfl) (pe_lst pa_nil))
 (pss_cons (ps_set (i := 2) sc_law_read.nd rfl (by first | exact Or.inl rfl | exact Or.inr rfl) (pe_mid (pe_ifExp (pt_cmpR (kop_ne (K := K) rfl hr.units) (pv 0) pe_str (nomark _)) (kpe_split (pv 0) pe_str) (pe_lst pa_nil))))
 (pss_cons (ps_for PassesOwn.never rfl (pi_range1 rfl B.range (pa_cons (pe_callB (kc_len (K := K) rfl) rfl B.len (by decide +kernel) (pa_cons (pv 2) pa_nil)) pa_nil)) (pg_name (i := 3) sc_law_read.nd rfl (by first | exact Or.inl rfl | exact Or.inr rfl)) (pss_cons (ps_set (i := 4) sc_law_read.nd rfl (by first | exact Or.inl rfl | exact Or.inr rfl) (pe_ix (kix (K := K) rfl) (pv 2) (pv 3) (fun _ _ => rfl)))
 (pss_cons (ps_set (i := 5) sc_law_read.nd rfl (by first | exact Or.inl rfl | exact Or.inr rfl) (pe_slice (ksl (K := K) rfl) (pv 4) (po_some pe_int) po_none))
 (pss_cons (ps_set (i := 6) sc_law_read.nd rfl (by first | exact Or.inl rfl | exact Or.inr rfl) (pe_mid (pe_and (pe_cmpR (kop_in (K := K) rfl) (pe_slice (ksl (K := K) rfl) (pv 4) po_none (po_some pe_int)) (pe_tup (pa_cons pe_str (pa_cons pe_str pa_nil))) rfl) (pe_and (pe_chain op_le op_le pe_int (pe_callB (kc_len (K := K) rfl) rfl B.len (by decide +kernel) (pa_cons (pv 5) pa_nil)) pe_int) (pe_one (pe_cmpR (kop_ne (K := K) rfl hr.units) (pe_slice (ksl (K := K) rfl) (pv 5) po_none (po_some pe_int)) pe_str (nomark _)))))))
 (pss_cons (ps_setLc (i := 7) (own := [("_law_sign", 8)]) (g := (gName 8)) rfl sc_law_read.nd rfl rfl (sw_true rfl rfl rfl (by decide +kernel)) (pi_str (pv 5)) (blkOk_by (N := ["_law_text", "_law_found", "_law_words", "_law_place", "_law_word_here", "_law_figures", "_law_good", "_law_odd", "_law_sign"]) (sc := defScope s_law_read) (own := [("_law_sign", 8)]) (by decide +kernel)) (fun _ _ _ _ _ => (pg_name (i := 8) sc_law_read.nd rfl (by first | exact Or.inl rfl | exact Or.inr rfl))) (fun _ _ _ _ _ => (pts_one (pt_cmpR op_nsign (pv 8) pe_str rfl))) (fun _ _ _ _ _ => (pv 8)))
 (pss_cut (ps_if (PW.pt (pw_and (pt_cmpR (kop_ne (K := K) rfl hr.units) (pv 4) pe_str (nomark _)) (pw_and1 (pt_not (PW.pt (pw_and (pt_val (pv 6)) (pw_and1 (pt_cmpR (kop_eq (K := K) rfl hr.units) (pv 7) (pe_lst pa_nil) (nomark _))))))))) (pss_one (ps_ret (pe_tup (pa_cons pe_str (pa_cons (pv 3) pa_nil))))) pss_nil)
 (pss_one (ps_expr (kpe_bm (K := K) rfl PySem.F.plainAttrs_list PySem.F.slot_list_append PySem.F.type_list_append mt_append (pv 1) (pa_cons (pe_callTy kc_intS rfl B.int (by decide +kernel) (pa_cons (pv 4) pa_nil)) pa_nil))))))))))
 (pss_one (ps_ret (pe_mid (pe_ifExp (pt_cmpR op_le (pe_callB (kc_len (K := K) rfl) rfl B.len (by decide +kernel) (pa_cons (pv 1) pa_nil)) pe_int (nomark _)) (pv 1) pe_str))))))), ?_⟩
    refine r_start (σ' := [some (.str z), none, none, none, none, none, none, none, none]) rfl ?_
    have tsz : z.length + 2 ≤ sizeLine := by
      rw [PySem.sizeLine_eq]
      omega
    have hwn := words_len z
    walk_at "go"
    intro fd nfd
    walk_at "go"
    have hfd : upd H fd (.lst []) fd = some (.lst []) := upd_same
    have s0 : Same H (upd H fd (.lst [])) := same_new nfd
    generalize upd H fd (.lst []) = H0 at s0 hfd ⊢
    obtain ⟨ws, hws⟩ : ∃ ws, ws = wordsOf z := ⟨_, rfl⟩
    have hwn := words_len z
    rw [← hws] at k1 k2 k3 hwn
    refine r_mid (fun v H' => ∃ wl, v = .ref wl ∧ Same H0 H' ∧ H' wl = some (.lst (ws.map V.str)) ∧ wl ≠ fd) ?_ ?_
    · walk_at "go"
      refine r_neS ?_
      walk_at "go"
      have ee : ("" : Str) = ⟨#[]⟩ := by decide +kernel
      refine iteN (fun c => ?_) (fun c => ?_)
      · walk_at "go"
        refine r_m1 ?_
        walk_at "go"
        refine ⟨⟨_, rfl⟩, ?_⟩
        walk_at "go"
        refine r_split (by decide +kernel) tsz fun wl nwl => ?_
        have e : (" " : Str) = ⟨#[32]⟩ := by decide +kernel
        have e2 : Txt.split z " " = ws := by
          rw [hws, e]
          unfold wordsOf
          rw [if_neg (fun q => c (by rw [q, ee]))]
        rw [e2]
        exact ⟨wl, rfl, same_new nwl, upd_same, (ne_of_none hfd nwl).symm⟩
      · have e2 : ws = [] := by
          rw [hws]
          unfold wordsOf
          rw [if_pos (by rw [c, ee])]
        subst e2
        walk_at "go"
        intro wl nwl
        exact ⟨wl, rfl, same_new nwl, upd_same, (ne_of_none hfd nwl).symm⟩
    · rintro _ H1 ⟨wl, rfl, h1, hwl, wfd⟩
      walk_at "go"
      rw [List.length_map]
      refine ⟨_, rfl, by omega, by omega, fw_range (fun i σ H2 => ∃ v3 v4 v5 v6 v7 v8, σ = [some (.str z), some (.ref fd), some (.ref wl), v3, v4, v5, v6, v7, v8] ∧ Same H H2 ∧ H2 wl = some (.lst (ws.map V.str)) ∧ H2 fd = some (.lst ((valsOf (ws.take i)).map V.int)) ∧ AllGood (ws.take i))
        ⟨_, _, _, _, _, _, rfl, s0.trans h1, hwl, h1 _ _ hfd, fun z h => by simp at h⟩ ?_ ?_⟩
      · rintro i σ H2 hi ⟨v3, v4, v5, v6, v7, v8, rfl, s2, hwl2, hfd2, good2⟩
        have hil : i < ws.length := by omega
        have hx : ws[i]? = some ws[i] := List.getElem?_eq_getElem hil
        generalize ws[i] = x at hx
        have hxm : x ∈ wordsOf z := by rw [← hws]; exact List.mem_of_getElem? hx
        obtain ⟨xl, xa0⟩ := word_of_text hxm
        have hxz : x.length ≤ sizeLine := by rw [PySem.sizeLine_eq]; omega
        walk_at "go"
        refine r_ix (v := .str x) (.inl (SqL.of hwl2)) (at_of (j := i) (by omega) (by rw [List.getElem?_map, hx]; rfl)) ?_
        walk_at "go"
        refine r_slS hxz ?_
        have hs1 := tl_cut1 x
        have hsl : (cutS x (some 1) none).length ≤ sizeLine := Nat.le_trans (cutS_length _ _ _) hxz
        generalize cutS x (some 1) none = sz at hs1 hsl ⊢
        have inS : ∀ {u : Str}, tl u = (tl x).take 1 → (u ∈ ([("+" : Str), "-"] : List Str) ↔ ((tl x).take 1 = [43] ∨ (tl x).take 1 = [45])) := fun {u} hu => by
          have e1 : ("+" : Str) = ⟨[43].toArray⟩ := by decide +kernel
          have e2 : ("-" : Str) = ⟨[45].toArray⟩ := by decide +kernel
          rw [List.mem_cons, List.mem_cons, e1, e2, str_iff, str_iff, hu]
          simp
        have slen : (sz.length : Int) = (((tl x).drop 1).length : Int) := by rw [len_tl, hs1]
        walk_at "go"
        refine r_mid (fun v H' => v = .bl (decide (((tl x).take 1 = [43] ∨ (tl x).take 1 = [45]) ∧ 1 ≤ ((tl x).drop 1).length ∧ ((tl x).drop 1).length ≤ 30 ∧ ((tl x).drop 1).head? ≠ some 48)) ∧ Same H2 H') ?_ ?_
        · walk_at "go"
          refine r_slS hxz ?_
          walk_at "go"
          intro t1 n1
          have hs0 := tl_cut01 x
          generalize cutS x none (some 1) = u0 at hs0 ⊢
          have s01 : Same H2 (upd H2 t1 (.tup [V.str "+", V.str "-"])) := same_new n1
          refine r_inT (ys := [("+" : Str), "-"]) upd_same ?_
          generalize upd H2 t1 (.tup [V.str "+", V.str "-"]) = H3 at s01 ⊢
          walk_at "go"
          refine iteD (fun c1 => ?_) (fun c1 => ?_)
          rotate_left
          · walk_at "go"
            exact ⟨by rw [decide_eq_false fun q => c1 ((inS hs0).mpr q.1)], s01⟩
          have c1' := (inS hs0).mp c1
          walk_at "go"
          refine r_lenStr hsl ?_
          walk_at "go"
          refine iteD (fun c2 => ?_) (fun c2 => ?_)
          rotate_left
          · walk_at "go"
            exact ⟨by rw [decide_eq_false fun q => c2 (by omega)], s01⟩
          walk_at "go"
          refine iteD (fun c3 => ?_) (fun c3 => ?_)
          rotate_left
          · walk_at "go"
            exact ⟨by rw [decide_eq_false fun q => c3 (by omega)], s01⟩
          walk_at "go"
          refine r_slS hsl ?_
          have hs2 := tl_cut01 sz
          generalize cutS sz none (some 1) = u2 at hs2 ⊢
          walk_at "go"
          refine r_neS ?_
          refine ⟨?_, s01⟩
          have e0 : ("0" : Str) = ⟨[48].toArray⟩ := by decide +kernel
          have hh : (u2 = "0") ↔ ((tl x).drop 1).head? = some 48 := by
            rw [e0, str_iff, hs2, hs1]
            cases (tl x).drop 1 with
            | nil => simp
            | cons a r => simp
          congr 1
          by_cases q : u2 = "0"
          · rw [decide_eq_true q, decide_eq_false fun z => z.2.2.2 (hh.mp q)]
            rfl
          · rw [decide_eq_false q, decide_eq_true ⟨c1', by omega, by omega, fun z => q (hh.mpr z)⟩]
            rfl
        · rintro _ H3 ⟨rfl, s23⟩
          walk_at "go"
          refine r_iStr ?_
          walk_at "go"
          obtain ⟨gd, hgd⟩ : ∃ gd, gd = decide (((tl x).take 1 = [43] ∨ (tl x).take 1 = [45]) ∧ 1 ≤ ((tl x).drop 1).length ∧ ((tl x).drop 1).length ≤ 30 ∧ ((tl x).drop 1).head? ≠ some 48) := ⟨_, rfl⟩
          rw [← hgd]
          refine ⟨sz, rfl, fun D nD => lcw_str (z := sz) (σw := [some (.str z), some (.ref fd), some (.ref wl), some (.int (0 + i)), some (.str x), some (.str sz), some (.bl gd), v7, none])
            (fun j H8 => Same H3 H8 ∧ H8 D = some (.lst ((((tl sz).take j).filter fun c => !digit c).map fun c => V.str ⟨#[c]⟩))) rfl ⟨same_new nD, upd_same⟩ (fun j c H8 hj h => ?_) fun H8 h => ?_⟩
          · obtain ⟨h8, hD⟩ := h
            walk_at "go"
            refine ⟨rfl, ?_⟩
            walk_at "go"
            refine r_nsign ?_
            walk_at "go"
            have hfig : c ∈ tl ("0123456789" : Str) ↔ digit c = true := by
              have : tl ("0123456789" : Str) = [48, 49, 50, 51, 52, 53, 54, 55, 56, 57] := by decide +kernel
              rw [this]
              unfold digit
              rw [decide_eq_true_iff]
              simp only [List.mem_cons, List.not_mem_nil, or_false]
              omega
            have hjl : j < (tl sz).length := (List.getElem?_eq_some_iff.mp hj).1
            have szl : (tl sz).length ≤ 1000000 := by
              rw [hs1, List.length_drop, ← len_tl]
              omega
            refine iteN (fun c5 => ?_) (fun c5 => ?_)
            · walk_at "go"
              have hf : digit c = false := by
                cases e : digit c with
                | false => rfl
                | true => exact absurd (hfig.mpr e) c5
              refine ⟨_, hD, ?_, fun b o e => at_wr (ne_of_none e nD) (h8 _ _ e), ?_⟩
              · rw [List.length_map]
                refine Nat.lt_of_le_of_lt (List.length_filter_le _ _) ?_
                rw [List.length_take, PySem.sizeLine_eq]
                omega
              · rw [upd_same, take_snoc hj, List.filter_append]
                simp [hf]
            · refine ⟨h8, ?_⟩
              have hf : digit c = true := hfig.mp c5
              rw [hD, take_snoc hj, List.filter_append]
              simp [hf]
          obtain ⟨h8, hD⟩ := h
          rw [List.take_length] at hD
          have hD' : H8 D = some (.lst ((((tl sz).filter fun c => !digit c).map fun c => (⟨#[c]⟩ : Str)).map V.str)) := by
            rw [hD, List.map_map]
            rfl
          have s28 := s23.trans h8
          walk_at "go"
          refine r_cut (fun σ' H' => σ' = [some (.str z), some (.ref fd), some (.ref wl), some (.int (0 + i)), some (.str x), some (.str sz), some (.bl gd), some (.ref D), v8] ∧ Same H8 H' ∧ (stepsL (tl x)).isSome = true) ?_ ?_
          · walk_at "go"
            refine r_neS ?_
            walk_at "go"
            have e0 : ("0" : Str) = ⟨[48].toArray⟩ := by decide +kernel
            refine iteN (fun c0 => ?_) (fun c0 => ?_)
            rotate_left
            · walk_at "go"
              have ex : tl x = [48] := by rw [c0, e0]
              refine ⟨rfl, Same.refl _, ?_⟩
              unfold stepsL
              rw [if_pos ex]
              rfl
            have n0 : tl x ≠ [48] := fun e => c0 (ext_tl (by rw [e, e0]))
            walk_at "go"
            have bad : ∀ {H9 : Hp} {t : Addr}, Same H8 H9 → stepsL (tl x) = none → H9 t = none → Q (.ref t) (upd H9 t (.tup [.str "BadText", .int (0 + i)])) := fun {H9 t} s89 hn nt => by
              have e : (0 + (i : Int)) = ((i : Nat) : Int) := by omega
              refine k1 i t _ ⟨⟨x, hx, hn⟩, fun m u hm hu => good2 u ?_⟩ (((s2.trans s28).trans s89).trans (same_new nt)) (by rw [upd_same, e])
              exact List.mem_of_getElem? (i := m) (by rw [List.getElem?_take_of_lt hm]; exact hu)
            by_cases cg : gd = true
            · rw [cg] at hgd
              have cgd := of_decide_eq_true hgd.symm
              refine iteT' cg ?_
              walk_at "go"
              intro t9 n9
              refine r_eqNilS (at_new n9 hD') upd_same (fun y hy => ?_) ?_
              · obtain ⟨c', hc', rfl⟩ := List.mem_map.mp hy
                have hm : c' ∈ tl x := by
                  have := (List.mem_filter.mp hc').1
                  rw [hs1] at this
                  exact List.mem_of_mem_drop this
                have := ha c' (xa0 c' hm)
                unfold PyData.strOk
                simp
                omega
              have s89 : Same H8 (upd H8 t9 (.lst [])) := same_new n9
              generalize upd H8 t9 (.lst []) = H9 at s89 ⊢
              walk_at "go"
              refine iteN (fun c6 => ?_) (fun c6 => ?_)
              · walk_at "go"
                intro t nt
                refine bad s89 ?_ nt
                unfold stepsL
                rw [if_neg n0, if_pos cgd.1, if_neg fun h => c6 ?_]
                rw [List.map_eq_nil_iff, List.filter_eq_nil_iff]
                intro a ha' hb
                rw [hs1] at ha'
                have := List.all_eq_true.mp h.2.2.2 a ha'
                rw [this] at hb
                cases hb
              · walk_at "go"
                refine ⟨rfl, s89, ?_⟩
                rw [List.map_eq_nil_iff, List.filter_eq_nil_iff] at c6
                have hall : ((tl x).drop 1).all digit = true := List.all_eq_true.mpr fun a ha' => by
                  have := c6 a (by rw [hs1]; exact ha')
                  cases e : digit a with
                  | true => rfl
                  | false => rw [e] at this; exact absurd rfl this
                unfold stepsL
                rw [if_neg n0, if_pos cgd.1, if_pos ⟨cgd.2.1, cgd.2.2.1, cgd.2.2.2, hall⟩]
                rfl
            · have cg' : gd = false := by cases gd <;> simp_all
              rw [cg'] at hgd
              have cgd := of_decide_eq_false hgd.symm
              refine iteF' cg' ?_
              walk_at "go"
              refine iteT ?_
              walk_at "go"
              intro t nt
              refine bad (Same.refl _) ?_ nt
              unfold stepsL
              rw [if_neg n0]
              split
              · rename_i hs
                rw [if_neg fun h => cgd ⟨hs, h.1, h.2.1, h.2.2.1⟩]
              · rfl
          · rintro _ H9 ⟨rfl, s89, hgood⟩
            have s29 := s28.trans s89
            obtain ⟨n, hn⟩ := Option.isSome_iff_exists.mp hgood
            obtain ⟨hint, h640⟩ := int_word hn
            walk_at "go"
            refine ⟨r_tyL (s29 _ _ hfd2), ?_⟩
            walk_at "go"
            refine r_intS hint h640 ?_
            walk_at "go"
            refine r_appA (s29 _ _ hfd2) (by unfold valsOf; rw [List.length_map, List.length_map, List.length_take]; rw [PySem.sizeLine_eq]; omega) fun H10 e10 w10 => ?_
            walk_at "go"
            refine ⟨_, _, _, _, _, _, rfl, fun b o e => w10 _ _ (ne_of_none e nfd) (s29 _ _ (s2 _ _ e)), w10 _ _ wfd (s29 _ _ hwl2), ?_, ?_⟩
            · rw [e10, take_snoc hx]
              unfold valsOf
              simp [hn]
            · rw [take_snoc hx]
              intro u hu
              rcases List.mem_append.mp hu with hu | hu
              · exact good2 u hu
              · rw [List.mem_singleton.mp hu, hn]
                rfl
      · rintro σ H2 ⟨v3, v4, v5, v6, v7, v8, rfl, s2, hwl2, hfd2, good2⟩
        have e1 : ((ws.length : Nat) : Int).toNat = ws.length := by omega
        rw [e1, List.take_length] at hfd2 good2
        have vl : ((valsOf ws).map V.int).length = ws.length := by unfold valsOf; rw [List.length_map, List.length_map]
        walk_at "go"
        refine r_mid (fun v H' => (v = .ref fd ∧ H' = H2 ∧ ws.length ≤ 100) ∨ (v = .str "BadMoves" ∧ H' = H2 ∧ 100 < ws.length)) ?_ ?_
        · walk_at "go"
          rw [vl]
          refine iteD (fun c => ?_) (fun c => ?_)
          · walk_at "go"
            exact .inl ⟨rfl, rfl, by omega⟩
          · walk_at "go"
            exact .inr ⟨rfl, rfl, by omega⟩
        · rintro v H' (⟨rfl, rfl, c⟩ | ⟨rfl, rfl, c⟩)
          · exact k3 fd _ good2 c s2 hfd2
          · exact k2 _ good2 c s2
end
end Rd

namespace Rd
open PySem L2 TL
theorem tl_neg (n : Nat) : tl (Str.ofString (toString (Int.negSucc n))) = 45 :: numL (n + 1) := by
  have e := tl_num (n + 1)
  have e1 : tl (Str.ofString (toString (Int.negSucc n))) = (toString (Int.negSucc n)).toList.map Char.toNat := PyProof.Rows.signs_ofString _
  have e2 : tl (Str.ofString (toString (((n + 1 : Nat)) : Int))) = (toString (((n + 1 : Nat)) : Int)).toList.map Char.toNat := PyProof.Rows.signs_ofString _
  rw [e2] at e
  rw [e1, ← e]
  show ("-" ++ Nat.repr (n + 1)).toList.map Char.toNat = 45 :: (Nat.repr (n + 1)).toList.map Char.toNat
  rw [String.toList_append, List.map_append]
  rfl
section
variable {P : Program} {w : World} {K : PySem.W.Frag} {mg : Str → Option Value} {base : Heap}
theorem ok_law_word (B : Bl mg) (F : FunAt K mg "_law_word" s_law_word) : Has P w K mg base CX0 1 "_law_word" spWord := by
  refine F.ok sc_law_word bo_law_word (fun vs H Q E h => ?_) (fun f cdv A outer s H vs Q E hr h => ?_)
  · obtain ⟨k, rfl, _⟩ := h
    rfl
  · obtain ⟨k, rfl, h30, q⟩ := h
    refine ⟨_, (pss_one (ps_ret (pe_ifExp (pt_cmpR op_le (pv 0) pe_int (nomark _)) (pe_callTy kc_str rfl B.str (by decide +kernel) (pa_cons (pv 0) pa_nil)) (pe_op (kop_add (K := K) rfl) pe_str (pe_callTy kc_str rfl B.str (by decide +kernel) (pa_cons (pv 0) pa_nil)))))), ?_⟩
    refine r_start (σ' := [some (.int k)]) rfl ?_
    have lg : k.natAbs.log2 < 1920 := by
      have := log_ok (k := k) h30
      simpa using this
    walk_at "go"
    refine iteD (fun c => ?_) (fun c => ?_)
    · walk_at "go"
      refine r_strI lg ?_
      have e : Str.ofString (toString k) = wordS k := by
        refine ext_tl ?_
        rw [tl_word]
        unfold wordL
        by_cases c0 : k = 0
        · rw [if_pos c0, c0]
          decide +kernel
        · rw [if_neg c0, if_neg (by omega)]
          obtain ⟨n, rfl⟩ : ∃ n, k = Int.negSucc n := ⟨(-k - 1).toNat, by omega⟩
          rw [tl_neg]
          rfl
      rw [e]
      exact q H (Same.refl H)
    · walk_at "go"
      refine r_strI lg ?_
      have ek : k = ((k.natAbs : Nat) : Int) := by omega
      have e1 : tl (Str.ofString (toString k)) = numL k.natAbs := by
        rw [ek]
        have := tl_num k.natAbs
        simpa using this
      have l30 : (numL k.natAbs).length ≤ 30 := numL_len (by decide) h30
      refine r_addS ?_ ?_
      · rw [len_tl, len_tl, e1]
        have : 31 < sizeLine := small1000 (by decide)
        show 1 + _ ≤ _
        omega
      · have e : ("+" : Str) ++ Str.ofString (toString k) = wordS k := by
          refine ext_tl ?_
          rw [tl_append, e1, tl_word, wordL, if_neg (by omega), if_pos (by omega)]
          rfl
        have qq := q H (Same.refl H)
        rw [← e] at qq
        exact qq
end
end Rd

namespace Rd
open PySem PySem.Spec PyProof.Rows L2 TL
/-- a text of one sign, many times -/
def rMulS : R2 := fun x y H Q => ∃ (z : Str) (n : Int), x = .str z ∧ y = .int n ∧ z.length = 1 ∧ 2 ≤ n ∧ n ≤ 100 ∧ Q (.str ⟨(List.replicate n.toNat z.cps).foldl (· ++ ·) #[]⟩) H
theorem rep_size (a : Array Nat) : ∀ (n : Nat) (acc : Array Nat), ((List.replicate n a).foldl (· ++ ·) acc).size = acc.size + n * a.size
  | 0, acc => by simp
  | n + 1, acc => by
    rw [List.replicate_succ, List.foldl_cons, rep_size a n, Array.size_append, Nat.succ_mul]
    omega
theorem op_mulS {X : Cx} : OpR X (binaryOp .Mult) rMulS := by
  intro pins s σ H x y v u Q I rx ry h
  obtain ⟨z, n, rfl, rfl, hz, h1, h2, q⟩ := h
  obtain ⟨t, rfl⟩ := rx
  obtain ⟨t2, rfl⟩ := ry
  refine P.mul_str ?_ ?_ ?_ ?_
  · rw [decide_eq_false (by omega), decide_eq_false (by omega)]
    rfl
  · intro _ _
    rw [hz]
    have : (2 ^ 63 - 1 : Int) / n ≥ 1 := by
      have := Int.le_ediv_of_mul_le (a := 1) (b := 2 ^ 63 - 1) (c := n) (by omega) (by omega)
      exact this
    omega
  · intro _ _
    rw [hz]
    have h3 : sizeLine = 16777216 := sizeLine_eq
    show decide (1 * n.toNat > sizeLine) = false
    rw [decide_eq_false (by omega)]
  · rw [if_neg (by omega)]
    have e1 : (n == 1 || z.length == 0) = false := by
      rw [hz]
      have : (n == 1) = false := by simpa using (show ¬ n = 1 by omega)
      rw [this]
      rfl
    rw [if_neg (by rw [e1]; decide)]
    refine ⟨?_, ⟨.str _, H, I.tok _, ⟨_, rfl⟩, q⟩⟩
    have h3 : sizeLine = 16777216 := sizeLine_eq
    have := rep_size z.cps n.toNat #[]
    show Array.size _ ≤ sizeLine
    rw [this]
    have e2 : z.cps.size = 1 := hz
    rw [e2]
    simp
    omega
end Rd
namespace Rd
open PySem L2 TL
theorem nst_strs {xs : List Str} : NotSt (.lst (xs.map V.str)) := fun _ _ _ _ h => by
  cases xs with
  | nil => cases h
  | cons a r => cases h
theorem sub_cut {z : Str} {lo hi : Option Int} : ∀ c ∈ tl (cutS z lo hi), c ∈ tl z := fun c h => by
  unfold cutS at h
  rw [tl_mk] at h
  first
  | exact List.mem_of_mem_drop (List.mem_of_mem_take h)
  | exact List.mem_of_mem_take (List.mem_of_mem_drop h)
section
variable {P : Program} {w : World} {K : PySem.W.Frag} {mg : Str → Option Value} {base : Heap}
theorem spl_sum : ∀ (l acc : List Nat), ((TL.spl [32] 0 acc l).map (·.length)).sum ≤ acc.length + l.length
  | [], acc => by
    rw [TL.spl_nil]
    simp
  | c :: r, acc => by
    cases h : TL.pre [32] (c :: r) with
    | true =>
      rw [TL.spl_hit h, List.map_cons, List.sum_cons]
      have := spl_sum r []
      simp at this ⊢
      omega
    | false =>
      rw [TL.spl_miss h]
      have := spl_sum r (acc ++ [c])
      simp at this ⊢
      omega
theorem join_props : ∀ ps : List (List Nat), (∀ c ∈ joinL [32] ps, c = 32 ∨ ∃ p ∈ ps, c ∈ p) ∧ (joinL [32] ps).length ≤ (ps.map (·.length)).sum + ps.length
  | [] => ⟨fun c h => (by cases h), Nat.zero_le _⟩
  | [p] => ⟨fun c h => .inr ⟨p, List.mem_cons_self, h⟩, by show p.length ≤ _; simp⟩
  | p :: q :: r => by
    obtain ⟨i1, i2⟩ := join_props (q :: r)
    refine ⟨fun c h => ?_, ?_⟩
    · have h : c ∈ p ++ ([32] ++ joinL [32] (q :: r)) := h
      rcases List.mem_append.mp h with h | h
      · exact .inr ⟨p, List.mem_cons_self, h⟩
      · rcases List.mem_append.mp h with h | h
        · exact .inl (List.mem_singleton.mp h)
        · rcases i1 c h with e | ⟨u, hu, hc⟩
          · exact .inl e
          · exact .inr ⟨u, List.mem_cons_of_mem _ hu, hc⟩
    · show (p ++ ([32] ++ joinL [32] (q :: r))).length ≤ _
      rw [List.length_append, List.length_append, List.map_cons, List.sum_cons, List.length_cons (a := p)]
      simp at i2 ⊢
      omega
theorem spl_pos : ∀ (l acc : List Nat), 0 < (TL.spl [32] 0 acc l).length
  | [], acc => by rw [TL.spl_nil]; exact Nat.one_pos
  | c :: r, acc => by
    cases h : TL.pre [32] (c :: r) with
    | true => rw [TL.spl_hit h]; exact Nat.succ_pos _
    | false => rw [TL.spl_miss h]; exact spl_pos r (acc ++ [c])
/-- a text of signs below 128, of at most so many -/
def Plain (n : Nat) (z : Str) : Prop := z.length ≤ n ∧ ∀ c ∈ tl z, c < 128
def spChanged (K : PySem.W.Frag) : Sp := fun vs H Q _ => ∃ (st a : Addr) (ns : List Int) (z : Str) (n : Nat), vs = [.ref st, .str z] ∧ St H st a ∧ SqL K H a (ns.map V.int) ∧ n ≤ 100000 ∧ Plain n z ∧
  ∀ (z' : Str) (H' : Hp), Plain (5 * n + 100) z' → St H' st a → Fr H H' → Q (.str z') H'
theorem spChanged_i {st a : Addr} {ns : List Int} {z : Str} {n : Nat} {H : Hp} {Q : VK} {E : XK} (s : St H st a) (hS : SqL K H a (ns.map V.int)) (hn : n ≤ 100000) (hz : Plain n z) (k : ∀ (z' : Str) (H' : Hp), Plain (5 * n + 100) z' → St H' st a → Fr H H' → Q (.str z') H') :
    spChanged K [.ref st, .str z] H Q E := ⟨st, a, ns, z, n, rfl, s, hS, hn, hz, k⟩
theorem ok_law_changed (B : Bl mg) (F : FunAt K mg "_law_changed" s_law_changed) (H_law_drawn : Has P w K mg base CX0 1 "_law_drawn" (spDrawn K)) : Has P w K mg base CX0 2 "_law_changed" (spChanged K) := by
  refine F.ok sc_law_changed bo_law_changed (fun vs H Q E h => ?_) (fun f cdv A outer s H vs Q E hr h => ?_)
  · obtain ⟨st, a, ns, z, n, rfl, _⟩ := h
    rfl
  · obtain ⟨st, a, ns, z, n, rfl, hs, hS, hn, ⟨hz, ha⟩, k⟩ := h
    have zsz : z.length + 2 ≤ sizeLine := by
      rw [PySem.sizeLine_eq]
      omega
    refine ⟨_, (pss_cons (ps_set (i := 2) sc_law_changed.nd rfl (by first | exact Or.inl rfl | exact Or.inr rfl) (pe_has H_law_drawn hr (by omega) rfl pass0 (pa_cons (pv 0) (pa_cons pe_int pa_nil))))
 (pss_cons (ps_set (i := 3) sc_law_changed.nd rfl (by first | exact Or.inl rfl | exact Or.inr rfl) (pe_has H_law_drawn hr (by omega) rfl pass0 (pa_cons (pv 0) (pa_cons (pe_op (kop_add (K := K) rfl) (pe_callB (kc_len (K := K) rfl) rfl B.len (by decide +kernel) (pa_cons (pv 1) pa_nil)) pe_int) pa_nil))))
 (pss_cons (ps_set (i := 4) sc_law_changed.nd rfl (by first | exact Or.inl rfl | exact Or.inr rfl) (pe_ix (kix (K := K) rfl) pe_str (pe_has H_law_drawn hr (by omega) rfl pass0 (pa_cons (pv 0) (pa_cons pe_int pa_nil))) (fun _ _ => rfl)))
 (pss_cons (ps_if (pt_cmpR op_lt (pv 2) pe_int (nomark _)) (pss_one (ps_ret (pe_op (kop_add (K := K) rfl) (pe_op (kop_add (K := K) rfl) (pe_slice (ksl (K := K) rfl) (pv 1) po_none (po_some (pv 3))) (pe_ix (kix (K := K) rfl) (pe_lst (pa_cons (pv 4) (pa_cons pe_str (pa_cons (pv 4) pa_nil)))) (pv 2) (fun _ _ => rfl))) (pe_slice (ksl (K := K) rfl) (pv 1) (po_some (pe_op (kop_add (K := K) rfl) (pv 3) (pe_callTy call_intA rfl B.int (by decide +kernel) (pa_cons (pe_cmpR op_gt (pv 2) pe_int (nomark _)) pa_nil)))) po_none)))) pss_nil)
 (pss_cons (ps_set (i := 5) sc_law_changed.nd rfl (by first | exact Or.inl rfl | exact Or.inr rfl) (kpe_split (pv 1) pe_str))
 (pss_cons (ps_set (i := 6) sc_law_changed.nd rfl (by first | exact Or.inl rfl | exact Or.inr rfl) (pe_has H_law_drawn hr (by omega) rfl pass0 (pa_cons (pv 0) (pa_cons (pe_callB (kc_len (K := K) rfl) rfl B.len (by decide +kernel) (pa_cons (pv 5) pa_nil)) pa_nil))))
 (pss_cons (ps_set (i := 7) sc_law_changed.nd rfl (by first | exact Or.inl rfl | exact Or.inr rfl) (pe_lst (pa_cons pe_str (pa_cons pe_str (pa_cons pe_str (pa_cons pe_str (pa_cons pe_str (pa_cons pe_str (pa_cons pe_str (pa_cons pe_str (pa_cons (pe_op (kop_add (K := K) rfl) pe_str (pe_op op_mulS pe_str pe_int)) (pa_cons (pe_op (kop_add (K := K) rfl) pe_str (pe_op op_mulS pe_str pe_int)) (pa_cons pe_str (pa_cons pe_str (pa_cons pe_str pa_nil)))))))))))))))
 (pss_cons (ps_set (i := 8) sc_law_changed.nd rfl (by first | exact Or.inl rfl | exact Or.inr rfl) (pe_ix (kix (K := K) rfl) (pe_lst (pa_cons (pe_lst pa_nil) (pa_cons (pe_lst (pa_cons (pe_ix (kix (K := K) rfl) (pv 5) (pv 6) (fun _ _ => rfl)) (pa_cons (pe_ix (kix (K := K) rfl) (pv 5) (pv 6) (fun _ _ => rfl)) pa_nil))) (pa_cons (pe_lst (pa_cons (pe_ix (kix (K := K) rfl) (pv 7) (pe_has H_law_drawn hr (by omega) rfl pass0 (pa_cons (pv 0) (pa_cons pe_int pa_nil))) (fun _ _ => rfl)) pa_nil)) pa_nil)))) (pe_op op_sub (pv 2) pe_int) (fun _ _ => rfl)))
 (pss_one (ps_ret (kpe_join (K := K) rfl pe_str (pe_op (kop_add (K := K) rfl) (pe_op (kop_add (K := K) rfl) (pe_slice (ksl (K := K) rfl) (pv 5) po_none (po_some (pv 6))) (pv 8)) (pe_slice (ksl (K := K) rfl) (pv 5) (po_some (pe_op (kop_add (K := K) rfl) (pv 6) pe_int)) po_none))))))))))))), ?_⟩
    refine r_start (σ' := [some (.ref st), some (.str z), none, none, none, none, none, none, none]) rfl ?_
    walk_at "go"
    refine spDrawn_i hs hS (by omega) (by decide) fun wy H1 a1 b1 s1 R1 => ?_
    walk_at "go"
    refine r_lenStr (by omega) ?_
    walk_at "go"
    refine spDrawn_i s1 (fr_sq R1 hS) (by omega) (small200 (by omega) (by omega)) fun at_ H2 a2 b2 s2 R2 => ?_
    have R02 := R1.trans R2
    walk_at "go"
    refine spDrawn_i s2 (fr_sq R02 hS) (by omega) (by decide) fun si H3 a3 b3 s3 R3 => ?_
    have R03 := R02.trans R3
    have hS3 := fr_sq R03 hS
    have hlit : tl ("0123456789 +--+.ax0" : Str) = [48, 49, 50, 51, 52, 53, 54, 55, 56, 57, 32, 43, 45, 45, 43, 46, 97, 120, 48] := by decide +kernel
    have hll : ("0123456789 +--+.ax0" : Str).length = 19 := by decide +kernel
    obtain ⟨cs, hcs, hc⟩ : ∃ cs, atI (tl ("0123456789 +--+.ax0" : Str)) si = some cs ∧ cs < 128 := by
      rw [hlit]
      obtain ⟨j, rfl⟩ : ∃ j : Nat, si = (j : Int) := ⟨si.toNat, by omega⟩
      have hj : j < 19 := by omega
      refine ⟨([48, 49, 50, 51, 52, 53, 54, 55, 56, 57, 32, 43, 45, 45, 43, 46, 97, 120, 48] : List Nat)[j]'hj, L2.atI_nat (List.getElem?_eq_getElem hj), ?_⟩
      have : ∀ k, (h : k < 19) → ([48, 49, 50, 51, 52, 53, 54, 55, 56, 57, 32, 43, 45, 45, 43, 46, 97, 120, 48] : List Nat)[k]'h < 128 := by decide
      exact this _ hj
    refine r_ixS (c := cs) (by rw [hll, PySem.sizeLine_eq]; decide) hcs ?_
    walk_at "go"
    refine iteD (fun c3 => ?_) (fun c3 => ?_)
    · walk_at "go"
      refine r_slS (by omega) ?_
      have l1 : (cutS z none (some at_)).length ≤ z.length := cutS_length _ _ _
      have t1 : ∀ c ∈ tl (cutS z none (some at_)), c ∈ tl z := sub_cut
      generalize cutS z none (some at_) = u1 at l1 t1 ⊢
      walk_at "go"
      intro l4 n4
      walk_at "go"
      obtain ⟨u2, hu2, l2, t2⟩ : ∃ u2 : Str, atI [V.str ⟨#[cs]⟩, V.str "", V.str ⟨#[cs]⟩] wy = some (.str u2) ∧ u2.length ≤ 1 ∧ ∀ c ∈ tl u2, c < 128 := by
        have : wy = 0 ∨ wy = 1 ∨ wy = 2 := by omega
        have one : (⟨#[cs]⟩ : Str).length ≤ 1 ∧ ∀ c ∈ tl (⟨#[cs]⟩ : Str), c < 128 := ⟨Nat.le_refl _, fun c h => by
          have h : c ∈ [cs] := h
          rw [List.mem_singleton.mp h]
          exact hc⟩
        rcases this with rfl | rfl | rfl
        · exact ⟨_, rfl, one⟩
        · exact ⟨"", rfl, by decide, by decide⟩
        · exact ⟨_, rfl, one⟩
      refine r_ix (.inl (SqL.of upd_same)) hu2 ?_
      refine r_addS (by rw [PySem.sizeLine_eq]; omega) ?_
      walk_at "go"
      refine r_slS (by omega) ?_
      have l3 : ∀ q, (cutS z (some q) none).length ≤ z.length := fun q => cutS_length _ _ _
      have t3 : ∀ q, ∀ c ∈ tl (cutS z (some q) none), c ∈ tl z := fun q => sub_cut
      obtain ⟨u3, hu3, l3', t3'⟩ : ∃ u3, u3 = cutS z (some (at_ + if decide (0 < wy) = true then 1 else 0)) none ∧ u3.length ≤ z.length ∧ ∀ c ∈ tl u3, c ∈ tl z := ⟨_, rfl, l3 _, t3 _⟩
      rw [← hu3]
      have l12 : (u1 ++ u2).length = u1.length + u2.length := by rw [len_tl, tl_append, List.length_append, ← len_tl, ← len_tl]
      refine r_addS (by rw [l12, PySem.sizeLine_eq]; omega) ?_
      have l123 : (u1 ++ u2 ++ u3).length = u1.length + u2.length + u3.length := by rw [len_tl, tl_append, List.length_append, ← len_tl, ← len_tl, l12]
      refine k _ _ ⟨by omega, fun c hc => ?_⟩ (s3.new n4) (R03.same (same_new n4))
      rw [tl_append, tl_append] at hc
      rcases List.mem_append.mp hc with hc | hc
      · rcases List.mem_append.mp hc with hc | hc
        · exact ha c (t1 c hc)
        · exact t2 c hc
      · exact ha c (t3' c hc)
    · walk_at "go"
      refine r_m1 ?_
      walk_at "go"
      refine ⟨⟨_, rfl⟩, ?_⟩
      walk_at "go"
      refine r_split (by decide +kernel) zsz fun wl nwl => ?_
      have e32 : (" " : Str) = ⟨#[32]⟩ := by decide +kernel
      rw [e32]
      obtain ⟨ws, hws⟩ : ∃ ws, ws = Txt.split z ⟨#[32]⟩ := ⟨_, rfl⟩
      rw [← hws]
      have wl1 : ws.length ≤ z.length + 1 := by
        rw [hws, split_sp, List.length_map, len_tl]
        exact (spl_props (tl z) []).2
      have wl0 : 0 < ws.length := by
        rw [hws, split_sp, List.length_map]
        exact spl_pos _ _
      have wp : ∀ u ∈ ws, u.length ≤ z.length ∧ ∀ c ∈ tl u, c < 128 := fun u hu => by
        rw [hws, split_sp] at hu
        obtain ⟨l, hl, rfl⟩ := List.mem_map.mp hu
        obtain ⟨a', b'⟩ := (spl_props (tl z) []).1 l hl
        refine ⟨?_, fun c hc => ?_⟩
        · rw [len_tl, len_tl]
          simpa using b'
        · rcases a' c hc with q | q
          · simp at q
          · exact ha c q
      have s4 := s3.new (u := .lst (ws.map V.str)) nwl
      have R04 := R03.same (same_new (u := .lst (ws.map V.str)) nwl)
      have hS4 := sq_new (u := .lst (ws.map V.str)) nwl hS3
      have hwl : upd H3 wl (.lst (ws.map V.str)) wl = some (.lst (ws.map V.str)) := upd_same
      generalize upd H3 wl (.lst (ws.map V.str)) = H4 at s4 R04 hS4 hwl ⊢
      walk_at "go"
      rw [List.length_map]
      refine spDrawn_i s4 hS4 (by omega) (small200 (by omega) (by omega)) fun kk H5 a5 b5 s5 R5 => ?_
      have hwl5 := R5 _ _ hwl nst_strs
      have R05 := R04.trans R5
      have hS5 := fr_sq R05 hS
      obtain ⟨j, rfl⟩ : ∃ j : Nat, kk = (j : Int) := ⟨kk.toNat, by omega⟩
      have hj : j < ws.length := by omega
      have hwj : ws[j]? = some ws[j] := List.getElem?_eq_getElem hj
      walk_at "go"
      refine ⟨"0", 29, rfl, rfl, by decide +kernel, by decide, by decide, ?_⟩
      refine r_addS (by rw [PySem.sizeLine_eq]; decide +kernel) ?_
      walk_at "go"
      refine ⟨"0", 30, rfl, rfl, by decide +kernel, by decide, by decide, ?_⟩
      refine r_addS (by rw [PySem.sizeLine_eq]; decide +kernel) ?_
      walk_at "go"
      intro ol nol
      obtain ⟨os, hos, ol13, op⟩ : ∃ os : List Str, [V.str "", V.str "+", V.str "-", V.str "+0", V.str "-0", V.str "00", V.str "+07", V.str "7", V.str ("+1" ++ ⟨(List.replicate (29 : Int).toNat ("0" : Str).cps).foldl (· ++ ·) #[]⟩), V.str ("-1" ++ ⟨(List.replicate (30 : Int).toNat ("0" : Str).cps).foldl (· ++ ·) #[]⟩), V.str "++1", V.str "+1-", V.str "0"] = os.map V.str ∧ os.length = 13 ∧ ∀ u ∈ os, Plain 40 u := by
        refine ⟨["", "+", "-", "+0", "-0", "00", "+07", "7", ("+1" ++ ⟨(List.replicate (29 : Int).toNat ("0" : Str).cps).foldl (· ++ ·) #[]⟩), ("-1" ++ ⟨(List.replicate (30 : Int).toNat ("0" : Str).cps).foldl (· ++ ·) #[]⟩), "++1", "+1-", "0"], rfl, rfl, fun u hu => ?_⟩
        simp only [List.mem_cons, List.not_mem_nil, or_false] at hu
        rcases hu with rfl | rfl | rfl | rfl | rfl | rfl | rfl | rfl | rfl | rfl | rfl | rfl | rfl <;> exact ⟨by decide +kernel, by decide +kernel⟩
      rw [hos]
      have s6 := s5.new (u := .lst (os.map V.str)) nol
      have R06 := R05.same (same_new (u := .lst (os.map V.str)) nol)
      have hS6 := sq_new (u := .lst (os.map V.str)) nol hS5
      have hwl6 := at_new (u := .lst (os.map V.str)) nol hwl5
      have hol6 : upd H5 ol (.lst (os.map V.str)) ol = some (.lst (os.map V.str)) := upd_same
      generalize upd H5 ol (.lst (os.map V.str)) = H6 at s6 R06 hS6 hwl6 hol6 ⊢
      walk_at "go"
      intro m1 nm1
      have s7 := s6.new (u := .lst []) nm1
      have R07 := R06.same (same_new (u := .lst []) nm1)
      have hS7 := sq_new (u := .lst []) nm1 hS6
      have hwl7 := at_new (u := .lst []) nm1 hwl6
      have hol7 := at_new (u := .lst []) nm1 hol6
      have hm1 : upd H6 m1 (.lst []) m1 = some (.lst (([] : List Str).map V.str)) := upd_same
      generalize upd H6 m1 (.lst []) = H7 at s7 R07 hS7 hwl7 hol7 hm1 ⊢
      walk_at "go"
      refine r_ix (v := .str ws[j]) (.inl (SqL.of hwl7)) (at_of (j := j) rfl (by rw [List.getElem?_map, hwj]; rfl)) ?_
      walk_at "go"
      refine r_ix (v := .str ws[j]) (.inl (SqL.of hwl7)) (at_of (j := j) rfl (by rw [List.getElem?_map, hwj]; rfl)) ?_
      walk_at "go"
      intro m2 nm2
      have s8 := s7.new (u := .lst [V.str ws[j], V.str ws[j]]) nm2
      have R08 := R07.same (same_new (u := .lst [V.str ws[j], V.str ws[j]]) nm2)
      have hS8 := sq_new (u := .lst [V.str ws[j], V.str ws[j]]) nm2 hS7
      have hwl8 := at_new (u := .lst [V.str ws[j], V.str ws[j]]) nm2 hwl7
      have hol8 := at_new (u := .lst [V.str ws[j], V.str ws[j]]) nm2 hol7
      have hm18 := at_new (u := .lst [V.str ws[j], V.str ws[j]]) nm2 hm1
      have hm28 : upd H7 m2 (.lst [V.str ws[j], V.str ws[j]]) m2 = some (.lst ([ws[j], ws[j]].map V.str)) := upd_same
      generalize upd H7 m2 (.lst [V.str ws[j], V.str ws[j]]) = H8 at s8 R08 hS8 hwl8 hol8 hm18 hm28 ⊢
      walk_at "go"
      refine spDrawn_i s8 hS8 (by omega) (by decide) fun oi H9 a9 b9 s9 R9 => ?_
      have R09 := R08.trans R9
      have hwl9 := R9 _ _ hwl8 nst_strs
      have hol9 := R9 _ _ hol8 nst_strs
      have hm19 := R9 _ _ hm18 nst_strs
      have hm29 := R9 _ _ hm28 nst_strs
      obtain ⟨oj, rfl⟩ : ∃ oj : Nat, oi = (oj : Int) := ⟨oi.toNat, by omega⟩
      have hoj : oj < os.length := by omega
      have hoe : os[oj]? = some os[oj] := List.getElem?_eq_getElem hoj
      refine r_ix (v := .str os[oj]) (.inl (SqL.of hol9)) (at_of (j := oj) rfl (by rw [List.getElem?_map, hoe]; rfl)) ?_
      walk_at "go"
      intro m3 nm3
      walk_at "go"
      intro m4 nm4
      walk_at "go"
      have s11 := (s9.new (u := .lst [V.str os[oj]]) nm3).new (u := .lst [V.ref m1, V.ref m2, V.ref m3]) nm4
      have R11 := (R09.same (same_new (u := .lst [V.str os[oj]]) nm3)).same (same_new (u := .lst [V.ref m1, V.ref m2, V.ref m3]) nm4)
      have hwl11 := at_new (u := .lst [V.ref m1, V.ref m2, V.ref m3]) nm4 (at_new (u := .lst [V.str os[oj]]) nm3 hwl9)
      have hm111 := at_new (u := .lst [V.ref m1, V.ref m2, V.ref m3]) nm4 (at_new (u := .lst [V.str os[oj]]) nm3 hm19)
      have hm211 := at_new (u := .lst [V.ref m1, V.ref m2, V.ref m3]) nm4 (at_new (u := .lst [V.str os[oj]]) nm3 hm29)
      have hm311 : upd (upd H9 m3 (.lst [V.str os[oj]])) m4 (.lst [V.ref m1, V.ref m2, V.ref m3]) m3 = some (.lst ([os[oj]].map V.str)) := at_new nm4 upd_same
      have hm411 : upd (upd H9 m3 (.lst [V.str os[oj]])) m4 (.lst [V.ref m1, V.ref m2, V.ref m3]) m4 = some (.lst [V.ref m1, V.ref m2, V.ref m3]) := upd_same
      generalize upd (upd H9 m3 (.lst [V.str os[oj]])) m4 (.lst [V.ref m1, V.ref m2, V.ref m3]) = H11 at s11 R11 hwl11 hm111 hm211 hm311 hm411 ⊢
      have pw : Plain (n + 40) ws[j] := ⟨by have := (wp _ (List.getElem_mem hj)).1; omega, (wp _ (List.getElem_mem hj)).2⟩
      have po : Plain (n + 40) os[oj] := ⟨by have := (op _ (List.getElem_mem hoj)).1; omega, (op _ (List.getElem_mem hoj)).2⟩
      obtain ⟨mi, us, hmi, hus, ul, up⟩ : ∃ (mi : Addr) (us : List Str), atI [V.ref m1, V.ref m2, V.ref m3] (wy - 3) = some (.ref mi) ∧ H11 mi = some (.lst (us.map V.str)) ∧ us.length ≤ 2 ∧ ∀ u ∈ us, Plain (n + 40) u := by
        have : wy - 3 = 0 ∨ wy - 3 = 1 ∨ wy - 3 = 2 := by omega
        rcases this with e | e | e <;> rw [e]
        · exact ⟨m1, [], rfl, hm111, by decide, by simp⟩
        · exact ⟨m2, [ws[j], ws[j]], rfl, hm211, by simp, fun u hu => by simp at hu; rw [hu]; exact pw⟩
        · exact ⟨m3, [os[oj]], rfl, hm311, by simp, fun u hu => by simp at hu; rw [hu]; exact po⟩
      refine r_ix (v := .ref mi) (.inl (SqL.of hm411)) hmi ?_
      walk_at "go"
      refine r_m1 ?_
      walk_at "go"
      refine ⟨⟨_, rfl⟩, ?_⟩
      walk_at "go"
      refine r_slL (SqL.of hwl11) fun p1 np1 => ?_
      rw [cut_take V.str ws (by omega)]
      have ej : ((j : Nat) : Int).toNat = j := by omega
      rw [ej]
      have hp1 : upd H11 p1 (.lst ((ws.take j).map V.str)) p1 = some (.lst ((ws.take j).map V.str)) := upd_same
      have tl1 : ((ws.take j).map V.str).length ≤ 100001 := by
        rw [List.length_map, List.length_take]
        omega
      have ul1 : (us.map V.str).length ≤ 2 := by rw [List.length_map]; exact ul
      walk_at "go"
      refine r_addL hp1 (at_new np1 hus) (by rw [PySem.sizeLine_eq]; omega) fun p2 np2 => ?_
      walk_at "go"
      refine r_slL (SqL.of (at_new np2 (at_new np1 hwl11))) fun p3 np3 => ?_
      rw [cut_drop V.str ws (by omega)]
      have ej2 : ((j : Nat) + 1 : Int).toNat = j + 1 := by omega
      rw [ej2]
      have tl2 : ((ws.drop (j + 1)).map V.str).length ≤ 100001 := by
        rw [List.length_map, List.length_drop]
        omega
      have hp2 := at_new (u := .lst ((ws.drop (j + 1)).map V.str)) np3 (show upd (upd H11 p1 (.lst ((ws.take j).map V.str))) p2 (.lst ((ws.take j).map V.str ++ us.map V.str)) p2 = _ from upd_same)
      walk_at "go"
      refine r_addL hp2 upd_same (by rw [List.length_append, PySem.sizeLine_eq]; omega) fun p4 np4 => ?_
      obtain ⟨ys, hys⟩ : ∃ ys, ys = ws.take j ++ us ++ ws.drop (j + 1) := ⟨_, rfl⟩
      have eys : (ws.take j).map V.str ++ us.map V.str ++ (ws.drop (j + 1)).map V.str = ys.map V.str := by rw [hys, List.map_append, List.map_append]
      rw [eys]
      have sumz : (ws.map (·.length)).sum ≤ z.length := by
        rw [hws, split_sp, List.map_map]
        have := spl_sum (tl z) []
        rw [len_tl]
        have e : (TL.spl [32] 0 [] (tl z)).map ((fun x : Str => x.length) ∘ fun l => (⟨l.toArray⟩ : Str)) = (TL.spl [32] 0 [] (tl z)).map (·.length) := List.map_congr_left fun l _ => by
          show (⟨l.toArray⟩ : Str).length = l.length
          rw [len_tl]
        rw [e]
        simpa using this
      have tsum : ((ws.take j).map (·.length)).sum ≤ (ws.map (·.length)).sum := by
        conv => rhs; rw [← List.take_append_drop j ws]
        rw [List.map_append, List.sum_append]
        omega
      have dsum : ((ws.drop (j + 1)).map (·.length)).sum ≤ (ws.map (·.length)).sum := by
        conv => rhs; rw [← List.take_append_drop (j + 1) ws]
        rw [List.map_append, List.sum_append]
        omega
      have usum : (us.map (·.length)).sum ≤ 2 * (n + 40) := by
        match us, ul, up with
        | [], _, _ => simp
        | [a], _, h =>
          have := (h a List.mem_cons_self).1
          simp
          omega
        | [a, b], _, h =>
          have h1 := (h a List.mem_cons_self).1
          have h2 := (h b (List.mem_cons_of_mem _ List.mem_cons_self)).1
          simp
          omega
      have ysum : (ys.map (·.length)).sum ≤ 4 * n + 80 := by
        rw [hys, List.map_append, List.map_append, List.sum_append, List.sum_append]
        omega
      have ylen : ys.length ≤ n + 3 := by
        rw [hys, List.length_append, List.length_append, List.length_take, List.length_drop]
        omega
      have yp : ∀ u ∈ ys, ∀ c ∈ tl u, c < 128 := fun u hu => by
        rw [hys] at hu
        rcases List.mem_append.mp hu with hu | hu
        · rcases List.mem_append.mp hu with hu | hu
          · exact (wp u (List.mem_of_mem_take hu)).2
          · exact (up u hu).2
        · exact (wp u (List.mem_of_mem_drop hu)).2
      have lsp : (⟨#[32]⟩ : Str).length = 1 := rfl
      refine r_join (SqL.of upd_same) (by rw [lsp]; omega) ?_
      have etl : tl (Txt.join ⟨#[32]⟩ ys) = joinL [32] (ys.map tl) := by
        rw [join_eq, tl_join]
      obtain ⟨j1, j2⟩ := join_props (ys.map tl)
      have els : (ys.map tl).map (·.length) = ys.map (·.length) := by
        rw [List.map_map]
        exact List.map_congr_left fun u _ => (len_tl u).symm
      refine k _ _ ⟨?_, fun c hc => ?_⟩ ((((s11.new np1).new np2).new np3).new np4) ((((R11.same (same_new np1)).same (same_new np2)).same (same_new np3)).same (same_new np4))
      · rw [len_tl, etl]
        rw [els, List.length_map] at j2
        omega
      · rw [etl] at hc
        rcases j1 c hc with e | ⟨p, hp, hcp⟩
        · omega
        · obtain ⟨u, hu, rfl⟩ := List.mem_map.mp hp
          exact yp u hu c hcp
end
end Rd

namespace Rd
open PySem PySem.Spec L2 PyProof.Rows LamX
/-- the def st is that at f, whose code object is c -/
structure FunTabF (K : PySem.W.Frag) (x : Str) (st : Stmt) (f : Addr) (fd : FuncData) (c : Addr) : Prop where
  ex : ∃ (oc : Value) (od an : Option Addr) (kV doc pm ct : Value) (osl : Array (Option Value)),
    fd = PySem.W.fnOf x x (defArgs st) (defBody st) (defScope st) .none kV doc pm an (.ref c) ct ∧ K.lookup f = some ⟨oc, od, .func fd, osl⟩ ∧ PySem.W.codeIn K (.ref c) x = true
theorem FunTabF.ok {P : Program} {w : World} {K : PySem.W.Frag} {mg : Str → Option Value} {base : Heap} {x : Str} {st : Stmt} {N ps : List Str} {k : Nat} {sp : Sp} {f c : Addr} {fd : FuncData} (F : FunTabF K x st f fd c) (S : FnScope N ps (defScope st)) (len : ∀ vs H Q E, sp vs H Q E → vs.length = ps.length)
    (hbody : ∀ (A : Around) (outer : List Env) (s : Shared) (H : Hp) (vs : List V) (Q : VK) (E : XK), Room k (A.deeper (envOfC x (defScope st) s.heap.objs.size f (.ref c))) → sp vs H Q E →
      ∃ t, PSs (cxOf L2.CX0 P w K mg base N x (defScope st) f (.ref c) A outer s H E).nox (defBody st) t ∧ t { nx := fun _ H' => Q .non H', rt := Q } (L2.start N vs) H) : FnOk P w K mg base L2.CX0 (k + 1) f fd ps sp := by
  obtain ⟨oc, od, an, kV, doc, pm, ct, osl, rfl, lk, hcd⟩ := F.ex
  refine fn_of lk hcd S len fun A outer s H vs Q E hr hsp => ?_
  obtain ⟨t, h, q⟩ := hbody A outer s H vs Q E hr hsp
  exact ⟨t, h.nox, q⟩
theorem FunTabF.mk' {K : PySem.W.Frag} {x : Str} {st : Stmt} {f c Pt : Addr} {oc : Value} {od an : Option Addr} {osl : Array (Option Value)} {kV doc pm cdv ct : Value} (a : PySem.W.nsIn K mainGlobals x = some (some (.ref f)))
    (l : K.lookup f = some ⟨oc, od, .func (PySem.W.fnOf x x (defArgs st) (defBody st) (defScope st) .none kV doc pm an cdv ct), osl⟩) (cc : PySem.W.codeIn K cdv x = true) (t : PySem.W.tabIn K x = some (c, Pt)) :
    FunTabF K x st f (PySem.W.fnOf x x (defArgs st) (defBody st) (defScope st) .none kV doc pm an cdv ct) c := by
  have e : cdv = .ref c := tab_code a l t
  subst e
  exact ⟨oc, od, an, kV, doc, pm, ct, osl, rfl, l, cc⟩
theorem bo_BadText_init : BindOkQ "__init__" "BadText.__init__" s_BadText_init ["self", "place"] := fun _ _ _ _ _ _ us hl => match us, hl with | [_, _], _ => rfl
theorem btR_mk {P : Program} {w : World} {K : PySem.W.Frag} {mg : Str → Option Value} {base : Heap} {G C : Addr} {mc : Value} {f : Addr} {fd : FuncData} (T : BtT K G C mc) (gG : ClsG mg "GearError" G) (gC : ClsG mg "BadText" C) (iC : PySem.W.findIn K (.ref C) "__init__" = some (some (.ref f))) (tI : PySem.W.typeIn K (.ref f) = some (.type "function"))
    (F : Fun K "__init__" "BadText.__init__" s_BadText_init f fd) : BtR P w K mg base C := ⟨T.o, gC, f, fd, iC, tI, ok_BadText_init T gG F, F.binds bo_BadText_init⟩
end Rd
namespace Rd
open PySem L2 LamX TL
theorem Is.mono' {H H' : Hp} {v : V} {d : PyData} (h : Is H v d) (R : Same H H') : Is H' v d := Is.mono R d v h
theorem FirstBad.one {ws : List Str} {n m : Nat} (a : FirstBad ws n) (b : FirstBad ws m) : n = m := by
  obtain ⟨⟨x, hx, ex⟩, ax⟩ := a
  obtain ⟨⟨y, hy, ey⟩, ay⟩ := b
  rcases Nat.lt_trichotomy n m with h | h | h
  · have := ay n x h hx
    rw [ex] at this
    cases this
  · exact h
  · have := ax m y h hy
    rw [ey] at this
    cases this
theorem FirstBad.not {ws : List Str} {n : Nat} (a : FirstBad ws n) (g : AllGood ws) : False := by
  obtain ⟨⟨x, hx, ex⟩, _⟩ := a
  have := g x (List.mem_of_getElem? hx)
  rw [ex] at this
  cases this
def bnd : Nat → Nat
  | 0 => 4000
  | q + 1 => 5 * bnd q + 100
section
variable {P : Program} {w : World} {K : PySem.W.Frag} {mg : Str → Option Value} {base : Heap}
set_option maxHeartbeats 8000000 in
theorem ok_law {TT : List (Addr × Str)} {c Pt : Addr} {G C cM : Addr} {cs : Nat → Addr} {fl : Addr} {fd : FuncData} (B : Bl mg) (F : FunTabF K "law" s_law fl fd c) (TB : TabB base mg c Pt) (hmT : (Pt, ("law" ++ ".<locals>." ++ "<lambda>" : Str)) ∈ TT) (huT : ∀ p ∈ TT, p.1 = Pt → p.2 = ("law" ++ ".<locals>." ++ "<lambda>" : Str))
    (H_law_start : Has P w K mg base CX0 1 "_law_start" (spStart K)) (H_law_drawn : Has P w K mg base CX0 1 "_law_drawn" (spDrawn K)) (H_law_gear : Has P w K mg base CX0 2 "_law_gear" (spGear K)) (H_law_moves : Has P w K mg base CX0 2 "_law_moves" (spMoves K))
    (H_law_word : Has P w K mg base CX0 1 "_law_word" spWord) (H_law_same : Has P w K mg base CX0 3 "_law_same" (spSame 3)) (H_written : Has P w K mg base CX0 2 "written" (spWritten K)) (H_read_moves : Has P w K mg base CX0 2 "read_moves" (spRead K)) (HX_read_moves : Has P w K mg base (L2.CX P w) 4 "read_moves" (spReadX K C cM))
    (H_law_changed : Has P w K mg base CX0 2 "_law_changed" (spChanged K)) (H_law_read : Has P w K mg base CX0 1 "_law_read" spLRead) (F_law_kind : FunAt K mg "_law_kind" s_law_kind) (Z_ValueError : mg "ValueError" = none) (G_GearError : ClsG mg "GearError" G) (G_BadGear : ClsG mg "BadGear" (cs 0)) (G_BadStanding : ClsG mg "BadStanding" (cs 1))
    (G_BadMoves : ClsG mg "BadMoves" (cs 2)) (G_BadGoal : ClsG mg "BadGoal" (cs 3)) (G_BadMarks : ClsG mg "BadMarks" (cs 4)) (G_BadMark : ClsG mg "BadMark" (cs 5)) (G_BadText : ClsG mg "BadText" (cs 6)) (XT : XfC K (cs 6)) (XN : PySem.W.findIn K (.ref (cs 6)) "place" = some none) (KM : KindOf K G cs cM 2) (KT : KindOf K G cs C 6) (eC : C = cs 6) :
    FnOk P w K mg base CX0 9 fl fd ["_law_script"] (spLawT K TT) := by
  refine F.ok sc_law (fun vs H Q E h => ?_) (fun A outer s H vs Q E hr h => ?_)
  · obtain ⟨a, ns, rfl, _⟩ := h
    rfl
  · obtain ⟨a, ns, rfl, hS, hlen, hT, k⟩ := h
    refine ⟨_, (pss_cons (ps_set (i := 1) sc_law.nd rfl (by first | exact Or.inl rfl | exact Or.inr rfl) (pe_has H_law_start hr (by omega) rfl pass0 (pa_cons (pv 0) pa_nil)))
 (pss_cons (ps_for PassesOwn.never rfl (pi_range1 rfl B.range (pa_cons pe_int pa_nil)) (pg_name (i := 2) sc_law.nd rfl (by first | exact Or.inl rfl | exact Or.inr rfl)) (pss_cons (ps_set (i := 3) sc_law.nd rfl (by first | exact Or.inl rfl | exact Or.inr rfl) (pe_has H_law_moves hr (by omega) rfl pass0 (pa_cons (pv 1) (pa_cons (pe_has H_law_gear hr (by omega) rfl pass0 (pa_cons (pv 1) (pa_cons pe_bl pa_nil))) (pa_cons (pe_ix (kix (K := K) rfl) (pe_lst (pa_cons pe_int (pa_cons pe_int (pa_cons pe_int (pa_cons pe_int pa_nil))))) (pe_has H_law_drawn hr (by omega) rfl pass0 (pa_cons (pv 1) (pa_cons pe_int pa_nil))) (fun _ _ => rfl)) pa_nil)))))
 (pss_cons (ps_set (i := 4) sc_law.nd rfl (by first | exact Or.inl rfl | exact Or.inr rfl) (kpe_join (K := K) rfl pe_str (pe_lc (own := [("_law_steps", 9)]) (g := (gName 9)) rfl sc_law.nd (kpi_list (K := K) rfl (pv 3)) (blkOk_by (N := ["_law_script", "_law_state", "_law_turn", "_law_moves_here", "_law_text", "_law_handed", "_law_again", "_law_found", "_law_change", "_law_steps"]) (sc := defScope s_law) (own := [("_law_steps", 9)]) (by decide +kernel)) (fun _ _ _ _ _ => (pg_name (i := 9) sc_law.nd rfl (by first | exact Or.inl rfl | exact Or.inr rfl))) (fun _ _ _ _ _ => pts_nil) (fun _ _ _ _ _ => (pe_has H_law_word hr (by omega) rfl pass0 (pa_cons (pv 9) pa_nil))))))
 (pss_cons (ps_set (i := 5) sc_law.nd rfl (by first | exact Or.inl rfl | exact Or.inr rfl) (pe_callTy (kc_list (K := K) rfl) rfl B.list (by decide +kernel) (pa_cons (pv 3) pa_nil)))
 (pss_cons (ps_if (PW.pt (pw_or (pt_not (pt_val (pe_has H_law_same hr (by omega) rfl pass0 (pa_cons (pe_has H_written hr (by omega) rfl pass0 (pa_cons (pv 5) pa_nil)) (pa_cons (pv 4) pa_nil))))) (pw_or1 (pt_cmpR (kop_ne (K := K) rfl hr.units) (pv 5) (pv 3) (nomark _))))) (pss_one (ps_ret pe_bl)) pss_nil)
 (pss_cons (ps_for PassesOwn.never rfl (pi_range1 rfl B.range (pa_cons pe_int pa_nil)) (pg_name (i := 6) sc_law.nd rfl (by first | exact Or.inl rfl | exact Or.inr rfl)) (pss_cons (ps_set (i := 7) sc_law.nd rfl (by first | exact Or.inl rfl | exact Or.inr rfl) (pe_has H_read_moves hr (by omega) rfl pass0 (pa_cons (pv 4) pa_nil)))
 (pss_cons (ps_if (pt_not (pt_val (pe_has H_law_same hr (by omega) rfl pass0 (pa_cons (pv 7) (pa_cons (pv 3) pa_nil))))) (pss_one (ps_ret pe_bl)) pss_nil)
 (pss_one (ps_expr (kpe_bm (K := K) rfl PySem.F.plainAttrs_list PySem.F.slot_list_append PySem.F.type_list_append mt_append (pv 7) (pa_cons pe_int pa_nil)))))))
 (pss_cons (ps_for PassesOwn.never rfl (pi_range1 rfl B.range (pa_cons (pe_has H_law_drawn hr (by omega) rfl pass0 (pa_cons (pv 1) (pa_cons pe_int pa_nil))) pa_nil)) (pg_name (i := 8) sc_law.nd rfl (by first | exact Or.inl rfl | exact Or.inr rfl)) (pss_one (ps_set (i := 4) sc_law.nd rfl (by first | exact Or.inl rfl | exact Or.inr rfl) (pe_has H_law_changed hr (by omega) rfl pass0 (pa_cons (pv 1) (pa_cons (pv 4) pa_nil))))))
 (pss_cut (ps_if (pt_cmpR (kop_eq (K := K) rfl hr.units) (pe_has H_law_drawn hr (by omega) rfl pass0 (pa_cons (pv 1) (pa_cons pe_int pa_nil))) pe_int (nomark _)) (pss_one (ps_set (i := 4) sc_law.nd rfl (by first | exact Or.inl rfl | exact Or.inr rfl) (kpe_join (K := K) rfl pe_str (pe_op op_rep (pe_lst (pa_cons pe_str pa_nil)) (pe_op (kop_add (K := K) rfl) pe_int (pe_has H_law_drawn hr (by omega) rfl pass0 (pa_cons (pv 1) (pa_cons pe_int pa_nil)))))))) pss_nil)
 (pss_one (ps_if (pt_not (pt_val (pe_has H_law_same hr (by omega) rfl pass0 (pa_cons (pe_kindL (k := 5) F_law_kind sc_law_kind bo_law_kind rfl rfl (by first | exact Or.inl rfl | exact Or.inr (Or.inl rfl)) (fun g cdg => kind_gives2 B Z_ValueError (hr.mono (by omega)) G_GearError G_BadGear G_BadStanding G_BadMoves G_BadGoal G_BadMarks G_BadMark G_BadText XT XN) TB rfl hmT huT (hr.mono (by omega)) (lamS_by (sc := defScope s_law) (by decide +kernel)) rfl (fun _ _ _ _ _ => rfl) (fun _ _ _ _ _ _ _ hr => (pe_has HX_read_moves hr (by omega) rfl passLam (pa_cons (pv 4) pa_nil)))) (pa_cons (pe_has H_law_read hr (by omega) rfl pass0 (pa_cons (pv 4) pa_nil)) pa_nil))))) (pss_one (ps_ret pe_bl)) pss_nil))))))))))
 (pss_one (ps_ret pe_bl)))), ?_⟩
    refine r_start (σ' := [some (.ref a), none, none, none, none, none, none, none, none, none]) rfl ?_
    walk_at "go"
    refine spStart_i hS fun st H1 _ sm1 s1 => ?_
    walk_at "go"
    refine ⟨_, rfl, by decide, by decide, fw_range (fun i σ H2 => ∃ v2 v3 v4 v5 v6 v7 v8 v9, σ = [some (.ref a), some (.ref st), v2, v3, v4, v5, v6, v7, v8, v9] ∧ St H2 st a ∧ SqL K H2 a (ns.map V.int) ∧ Tabs TT H2)
      ⟨_, _, _, _, _, _, _, _, rfl, s1, sm1.seq hS, Tabs.ext hT sm1⟩ ?_ ?_⟩
    · rintro i σ H2 hi ⟨v2, v3, v4, v5, v6, v7, v8, v9, rfl, s2, hS2, T2⟩
      walk_at "go"
      refine spGear_i s2 hS2 fun g r p H3 r2 r6 p0 p6 _ s3 R3 hg => ?_
      have hS3 := fr_sq R3 hS2
      walk_at "go"
      intro lm nlm
      walk_at "go"
      refine spDrawn_i (s3.new nlm) (sq_new nlm hS3) (by omega) (by decide) fun v4' H4 a4 b4 s4 R4 => ?_
      have R04 : Fr H3 H4 := (Fr.of (same_new nlm)).trans R4
      have hS4 := fr_sq R04 hS3
      have hg4 := R04 _ _ hg nst_tup
      obtain ⟨most, em, hm⟩ := pick4 20 20 20 100 a4 (by omega)
      have hlm := R4 _ _ (show upd H3 lm (.lst [V.int 20, V.int 20, V.int 20, V.int 100]) lm = _ from upd_same) nst_int
      refine r_ix (.inl (SqL.of hlm)) em ?_
      walk_at "go"
      refine spMoves_i s4 hS4 hg4 (by omega) r6 p0 p6 (by omega) (by omega) fun l mv H5 lm5 bm s5 R5 hl nl => ?_
      have ml : mv.length ≤ 100 := by omega
      have mb : ∀ m ∈ mv, m.natAbs < 10 ^ 30 := fun m h => by
        have := bm m h
        omega
      have hS5 := fr_sq R5 hS4
      have T5 := Tabs.fr (Tabs.fr (Tabs.fr T2 R3) R04) R5
      walk_at "go"
      refine r_m1 ?_
      walk_at "go"
      refine ⟨⟨_, rfl⟩, ?_⟩
      walk_at "go"
      refine ⟨_, rfl, ⟨_, SqL.of hl⟩, fun D nD => lcw_list (K := K) (a := l) (xs := mv.map V.int) (σw := [some (.ref a), some (.ref st), some (.int (0 + i)), some (.ref l), v4, v5, v6, v7, v8, none])
        (fun i H8 => Same H5 H8 ∧ H8 D = some (.lst (((mv.take i).map wordS).map V.str))) rfl ⟨same_new nD, upd_same⟩ (fun i H8 _ h => SqL.of (h.1 _ _ hl)) (fun i y H8 hi h => ?_) fun H8 h => ?_⟩
      · obtain ⟨h8, hD⟩ := h
        obtain ⟨m, hmm, rfl⟩ := map_at hi
        walk_at "go"
        refine ⟨rfl, ?_⟩
        walk_at "go"
        refine iteT ?_
        walk_at "go"
        refine spWord_i (mb m (List.mem_of_getElem? hmm)) fun H9 h9 => ?_
        refine ⟨_, h9 _ _ hD, by rw [List.length_map, List.length_map, List.length_take]; exact small1000 (by omega), fun b o e => at_wr (ne_of_none e nD) (h9 _ _ (h8 _ _ e)), ?_⟩
        rw [upd_same, take_snoc hmm]
        simp
      obtain ⟨h8, hD⟩ := h
      rw [List.length_map, List.take_length] at hD
      have sum_le : ∀ ls : List Int, (∀ m ∈ ls, m.natAbs < 10 ^ 30) → ((ls.map wordS).map (·.length)).sum ≤ ls.length * 31 := by
        intro ls
        induction ls with
        | nil => intro _; exact Nat.zero_le _
        | cons a r ih =>
          intro h
          have x := word_len (h a List.mem_cons_self)
          have y := ih fun m hm => h m (List.mem_cons_of_mem _ hm)
          rw [List.map_cons, List.map_cons, List.sum_cons, List.length_cons, Nat.succ_mul]
          omega
      have sl := sum_le mv mb
      have e32 : (" " : Str) = ⟨#[32]⟩ := by decide +kernel
      refine r_join (SqL.of hD) ?_ ?_
      · rw [List.length_map]
        have : (" " : Str).length = 1 := by decide +kernel
        rw [this]
        omega
      rw [e32]
      have etx : Txt.join ⟨#[32]⟩ (mv.map wordS) = textS mv := rfl
      rw [etx]
      have hl8 := h8 _ _ hl
      have tlen := text_len mb
      have tasc : ∀ c ∈ tl (textS mv), c < 128 := fun c hc => by
        rw [tl_text] at hc
        rcases (join_props (mv.map wordL)).1 c hc with e | ⟨q, hq, hcq⟩
        · omega
        · obtain ⟨m, _, rfl⟩ := List.mem_map.mp hq
          exact word_ascii m c hcq
      have tok : PyData.strOk (textS mv) = true := by
        unfold PyData.strOk
        rw [Array.all_eq_true_iff_forall_mem]
        intro c hc
        have := tasc c (by simpa using hc)
        simp
        omega
      walk_at "go"
      refine r_listOf (.inl (SqL.of hl8)) fun hd nhd => ?_
      have s59 := h8.trans (same_new (u := .lst (mv.map V.int)) nhd)
      have hhd : upd H8 hd (.lst (mv.map V.int)) hd = some (.lst (mv.map V.int)) := upd_same
      generalize upd H8 hd (.lst (mv.map V.int)) = H9 at s59 hhd ⊢
      walk_at "go"
      refine spWritten_i (SqL.of hhd) ml mb fun H10 h10 => ?_
      walk_at "go"
      refine spSame_i (d := .str (textS mv)) (.str _) (.str _) (Fl.str 2 tok) fun H11 h11 => ?_
      have s511 := (s59.trans h10).trans h11
      have hhd11 := h11 _ _ (h10 _ _ hhd)
      have hl11 := s511 _ _ hl
      walk_at "go"
      refine iteF ?_
      walk_at "go"
      refine r_neIs (d := dInts mv) (n := 1) (Is.ints hhd11) (Is.ints hl11) (Fl.ints 0 _) ?_
      walk_at "go"
      refine iteF ?_
      walk_at "go"
      refine ⟨_, rfl, by decide, by decide, fw_range (fun q σ H12 => ∃ v6 v7 v8, σ = [some (.ref a), some (.ref st), some (.int (0 + i)), some (.ref l), some (.str (textS mv)), some (.ref hd), v6, v7, v8, v9] ∧ Same H5 H12)
        ⟨_, _, _, rfl, s511⟩ ?_ ?_⟩
      · rintro q σ H12 hq ⟨v6, v7, v8, rfl, s12⟩
        walk_at "go"
        refine spRead_i ml mb fun fq H13 nfq s13 hfq => ?_
        walk_at "go"
        refine spSame_i (d := dInts mv) (Is.ints hfq) (Is.ints ((s12.trans s13) _ _ hl)) ((Fl.ints 0 _).mono (by decide)) fun H14 s14 => ?_
        walk_at "go"
        refine iteF ?_
        walk_at "go"
        have hfq14 := s14 _ _ hfq
        refine ⟨r_tyL hfq14, ?_⟩
        walk_at "go"
        refine r_appA hfq14 (by rw [List.length_map]; exact small1000 (by omega)) fun H15 e15 w15 => ?_
        walk_at "go"
        exact ⟨_, _, _, rfl, fun b o e => w15 _ _ (ne_of_none e (s12.free nfq)) (s14 _ _ (s13 _ _ (s12 _ _ e)))⟩
      · rintro σ H12 ⟨v6, v7, v8, rfl, s12⟩
        have st12 := s5.same s12
        have hS12 := s12.seq hS5
        have T12 := T5.ext s12
        walk_at "go"
        refine spDrawn_i st12 hS12 (by omega) (by decide) fun nc H13 a13 b13 s13 R13 => ?_
        have T13 := Tabs.fr T12 R13
        have hS13 := fr_sq R13 hS12
        have b2 : ∀ q, q < 2 → bnd q ≤ 100000 := by decide
        have b3 : ∀ q, q ≤ 2 → bnd q ≤ 100600 := by decide
        have p0 : Plain (bnd 0) (textS mv) := ⟨by show _ ≤ 4000; omega, tasc⟩
        walk_at "go"
        refine ⟨_, rfl, by omega, by omega, fw_range (fun q σ H14 => ∃ (z : Str) (v8 : Option V), σ = [some (.ref a), some (.ref st), some (.int (0 + i)), some (.ref l), some (.str z), some (.ref hd), v6, v7, v8, v9] ∧ Plain (bnd q) z ∧ St H14 st a ∧ SqL K H14 a (ns.map V.int) ∧ Tabs TT H14)
          ⟨_, _, rfl, p0, s13, hS13, T13⟩ ?_ ?_⟩
        · rintro q σ H14 hq ⟨z, v8, rfl, pz, s14, hS14, T14⟩
          have hq2 : q < 2 := by omega
          walk_at "go"
          refine spChanged_i s14 hS14 (n := bnd q) (b2 q hq2) pz fun z' H15 pz' s15 R15 => ?_
          walk_at "go"
          exact ⟨z', _, rfl, pz', s15, fr_sq R15 hS14, Tabs.fr T14 R15⟩
        · rintro σ H14 ⟨z, v8, rfl, pz, s14, hS14, T14⟩
          have pz2 : Plain 100600 z := ⟨Nat.le_trans pz.1 (b3 _ (by omega)), pz.2⟩
          walk_at "go"
          refine r_cut (fun σ' H' => ∃ z' : Str, σ' = [some (.ref a), some (.ref st), some (.int (0 + i)), some (.ref l), some (.str z'), some (.ref hd), v6, v7, v8, v9] ∧ Plain 100600 z' ∧ St H' st a ∧ SqL K H' a (ns.map V.int) ∧ Tabs TT H') ?_ ?_
          · walk_at "go"
            refine spDrawn_i s14 hS14 (by omega) (by decide) fun v15 H15 a15 b15 s15 R15 => ?_
            have T15 := Tabs.fr T14 R15
            have hS15 := fr_sq R15 hS14
            walk_at "go"
            refine iteD (fun c7 => ?_) (fun c7 => ?_)
            · walk_at "go"
              refine r_m1 ?_
              walk_at "go"
              refine ⟨⟨_, rfl⟩, ?_⟩
              walk_at "go"
              intro l16 n16
              walk_at "go"
              refine spDrawn_i (s15.new n16) (sq_new n16 hS15) (by omega) (by decide) fun v17 H17 a17 b17 s17 R17 => ?_
              have T17 := Tabs.fr (Tabs.ext T15 (same_new (u := .lst [V.str "+1"]) n16)) R17
              have hS17 := fr_sq R17 (sq_new (u := .lst [V.str "+1"]) n16 hS15)
              have hl17 := R17 _ _ (show upd H15 l16 (.lst [V.str "+1"]) l16 = some (.lst [V.str "+1"]) from upd_same) (nst_strs (xs := ["+1"]))
              walk_at "go"
              refine ⟨l16, _, _, rfl, rfl, hl17, by omega, by omega, ?_, fun p16 np16 => ?_⟩
              · rw [PySem.sizeLine_eq]
                show 1 * _ ≤ _
                omega
              have er : ∀ m : Nat, (List.replicate m [V.str "+1"]).flatten = (List.replicate m ("+1" : Str)).map V.str := fun m => by
                induction m with
                | zero => rfl
                | succ m ih => rw [List.replicate_succ, List.flatten_cons, ih, List.replicate_succ, List.map_cons]; rfl
              rw [er]
              obtain ⟨m, hm17, hm102⟩ : ∃ m : Nat, m = (99 + v17).toNat ∧ m ≤ 102 := ⟨_, rfl, by omega⟩
              rw [← hm17]
              have l2 : ("+1" : Str).length = 2 := by decide +kernel
              have lsp : (⟨#[32]⟩ : Str).length = 1 := rfl
              have rs : ∀ m : Nat, ((List.replicate m ("+1" : Str)).map (·.length)).sum = 2 * m := fun m => by
                rw [List.map_replicate, l2, List.sum_replicate_nat]
                omega
              refine r_join (SqL.of upd_same) (by rw [rs, List.length_replicate, lsp]; omega) ?_
              have etl : tl (Txt.join ⟨#[32]⟩ (List.replicate m ("+1" : Str))) = joinL [32] ((List.replicate m ("+1" : Str)).map tl) := by
                rw [join_eq, tl_join]
              obtain ⟨j1, j2⟩ := join_props ((List.replicate m ("+1" : Str)).map tl)
              have tp : tl ("+1" : Str) = [43, 49] := by decide +kernel
              refine ⟨_, rfl, ⟨?_, fun c hc => ?_⟩, s17.new np16, sq_new np16 hS17, T17.ext (same_new np16)⟩
              · rw [len_tl, etl]
                have e4 : (((List.replicate m ("+1" : Str)).map tl).map (·.length)).sum = 2 * m := by
                  rw [List.map_replicate, List.map_replicate, tp, List.sum_replicate_nat]
                  show m * 2 = _
                  omega
                rw [e4, List.length_map, List.length_replicate] at j2
                omega
              · rw [etl] at hc
                rcases j1 c hc with e | ⟨q, hq, hcq⟩
                · omega
                · obtain ⟨u, hu, rfl⟩ := List.mem_map.mp hq
                  rw [(List.mem_replicate.mp hu).2, tp] at hcq
                  simp at hcq
                  omega
            · walk_at "go"
              exact ⟨z, rfl, pz2, s15, hS15, T15⟩
          · rintro _ H16 ⟨z', rfl, pz', s16, hS16, T16⟩
            walk_at "go"
            refine r_lam T16 fun H17 e17 T17 => ?_
            refine r_kind2 ?_
            walk_at "go"
            have s17 := ExtN.st e17 s16
            have hS17 := FrN.sq (FrN.ext e17) hS16
            have tail : ∀ (σ0 : L2.St) (v : V) (H19 : Hp) (d : PyData) (R : VK) (E1 E2 : XK), Fl 2 d → Is H19 v d → (∀ (n : Nat) (t : Addr) (H' : Hp), FirstBad (wordsOf z') n → H' t = some (.tup [.str "BadText", .int n]) → Is H' (.ref t) d) → (∀ H' : Hp, AllGood (wordsOf z') → 100 < (wordsOf z').length → Is H' (.str "BadMoves") d) →
                (∀ (l : Addr) (H' : Hp), AllGood (wordsOf z') → (wordsOf z').length ≤ 100 → H' l = some (.lst ((valsOf (wordsOf z')).map V.int)) → Is H' (.ref l) d) → (∀ H21, Same H19 H21 → R (.bl true) H21) → spLRead [.str z'] H19 (fun y H20 => tNil σ0 H20 fun xs H2 => spSame 3 (v :: y :: xs) H2 R E1) E2 := fun σ0 v H19 d R E1 E2 fd hv h1 h2 h3 kk =>
              ⟨z', rfl, by have := pz'.1; omega, pz'.2, fun n t H' hb s ht => spSame_i (E := E1) (hv.mono' s) (h1 n t H' hb ht) fd fun H21 s21 => kk _ (s.trans s21), fun H' hg hl s => spSame_i (E := E1) (hv.mono' s) (h2 H' hg hl) fd fun H21 s21 => kk _ (s.trans s21), fun l H' hg hl s he => spSame_i (E := E1) (hv.mono' s) (h3 l H' hg hl he) fd fun H21 s21 => kk _ (s.trans s21)⟩
            have okT : PyData.strOk "BadText" = true := by decide +kernel
            have okM : PyData.strOk "BadMoves" = true := by decide +kernel
            refine ⟨z', rfl, by have := pz'.1; omega, pz'.2, fun n d H18 fb nd s18 hd => ⟨C, 6, rfl, KT, .inr ⟨rfl, eC, d, n, rfl, hd, fun t H19 s19 ht => ?_⟩⟩, fun H18 hg hl s18 => ⟨cM, 2, rfl, KM, .inl ⟨by decide, rfl, fun H19 s19 => ?_⟩⟩, fun l H18 hg hl nl s18 hl18 => ?_⟩
            · walk_at "go"
              refine tail _ _ _ (.tuple [.str "BadText", .int n]) _ _ _ (Fl.tuple fun d h => ?_) (.tup ht (.cons (.str _) (.cons (.int _) .nil))) (fun m t2 H' hb ht2 => ?_) (fun H' g2 _ => (fb.not g2).elim) (fun l H' g2 _ _ => (fb.not g2).elim) fun H21 s21 => ?_
              · simp at h
                rcases h with rfl | rfl
                · exact Fl.str _ okT
                · exact Fl.int _ _
              · rw [fb.one hb]
                exact .tup ht2 (.cons (.str _) (.cons (.int _) .nil))
              · have sall := (s18.trans s19).trans s21
                walk_at "go"
                refine iteF ?_
                walk_at "go"
                exact ⟨_, _, _, _, _, _, _, _, rfl, s17.same sall, sall.seq hS17, T17.ext sall⟩
            · have e2 : kindW 2 = "BadMoves" := rfl
              rw [e2]
              walk_at "go"
              refine tail _ _ _ (.str "BadMoves") _ _ _ (Fl.str _ okM) (.str _) (fun m t2 H' hb ht2 => (hb.not hg).elim) (fun H' g2 _ => .str _) (fun l H' g2 h _ => absurd hl (by omega)) fun H21 s21 => ?_
              have sall := (s18.trans s19).trans s21
              walk_at "go"
              refine iteF ?_
              walk_at "go"
              exact ⟨_, _, _, _, _, _, _, _, rfl, s17.same sall, sall.seq hS17, T17.ext sall⟩
            · walk_at "go"
              refine tail _ _ _ (dInts (valsOf (wordsOf z'))) _ _ _ ((Fl.ints 0 _).mono (by decide)) (Is.ints hl18) (fun m t2 H' hb ht2 => (hb.not hg).elim) (fun H' g2 h => absurd hl (by omega)) (fun l H' g2 h e => Is.ints e) fun H21 s21 => ?_
              have sall := s18.trans s21
              walk_at "go"
              refine iteF ?_
              walk_at "go"
              exact ⟨_, _, _, _, _, _, _, _, rfl, s17.same sall, sall.seq hS17, T17.ext sall⟩
    · rintro σ H2 ⟨v2, v3, v4, v5, v6, v7, v8, v9, rfl, s2, hS2, T2⟩
      walk_at "go"
      exact k _
theorem law_fn {C_GearError : Addr} {C_BadGear : Addr} {C_BadStanding : Addr} {C_BadMoves : Addr} {C_BadGoal : Addr} {C_BadMarks : Addr} {C_BadMark : Addr} {C_BadText : Addr} {c_law P_law : Addr} (B : Bl mg) (F_need_moves : FunAt K mg "need_moves" s_need_moves) (F_word_of : FunAt K mg "word_of" s_word_of) (F_written : FunAt K mg "written" s_written) (F_steps_of : FunAt K mg "steps_of" s_steps_of) (F_read_moves : FunAt K mg "read_moves" s_read_moves) (F_law_start : FunAt K mg "_law_start" s_law_start) (F_law_drawn : FunAt K mg "_law_drawn" s_law_drawn) (F_law_same : FunAt K mg "_law_same" s_law_same) (F_law_kind : FunAt K mg "_law_kind" s_law_kind) (F_law_gear : FunAt K mg "_law_gear" s_law_gear) (F_law_moves : FunAt K mg "_law_moves" s_law_moves) (F_law_word : FunAt K mg "_law_word" s_law_word) (F_law_read : FunAt K mg "_law_read" s_law_read) (F_law_changed : FunAt K mg "_law_changed" s_law_changed) (M_MOST_MOVES : Cn mg "MOST_MOVES" 100) (M_MOST_FIGURES : Cn mg "MOST_FIGURES" 30) (M_FIGURES : CnS mg "FIGURES" "0123456789") (TB_law : LamX.TabB base mg c_law P_law) (G_GearError : ClsG mg "GearError" C_GearError) (G_BadGear : ClsG mg "BadGear" C_BadGear) (G_BadStanding : ClsG mg "BadStanding" C_BadStanding) (G_BadMoves : ClsG mg "BadMoves" C_BadMoves) (G_BadGoal : ClsG mg "BadGoal" C_BadGoal) (G_BadMarks : ClsG mg "BadMarks" C_BadMarks) (G_BadMark : ClsG mg "BadMark" C_BadMark) (G_BadText : ClsG mg "BadText" C_BadText) (Z_ValueError : mg "ValueError" = none) (R_BadMoves : ErrR K C_BadMoves) (KD_BadMoves : KindOf K C_GearError (csL C_BadGear C_BadStanding C_BadMoves C_BadGoal C_BadMarks C_BadMark C_BadText) C_BadMoves 2) (KD_BadText : KindOf K C_GearError (csL C_BadGear C_BadStanding C_BadMoves C_BadGoal C_BadMarks C_BadMark C_BadText) C_BadText 6) {fl : Addr} {fd : FuncData} (F : FunTabF K "law" s_law fl fd c_law) (BT : BtR P w K mg base C_BadText) (XT : XfC K C_BadText) (XN : PySem.W.findIn K (.ref C_BadText) "place" = some none) : FnOk P w K mg base CX0 9 fl fd ["_law_script"] (spLawT K [(P_law, ("law" ++ ".<locals>." ++ "<lambda>" : Str))]) := by
  have H1 : Has P w K mg base CX0 1 "_law_drawn" (spDrawn K) := ok_law_drawn B F_law_drawn
  have H2 : Has P w K mg base CX0 1 "need_moves" (spNM K) := ok_need_moves B F_need_moves M_MOST_MOVES
  have H2X : Has P w K mg base (L2.CX P w) 1 "need_moves" (spNMX K C_BadMoves) := ok_need_movesX B F_need_moves M_MOST_MOVES G_BadMoves R_BadMoves
  have H3 : Has P w K mg base CX0 1 "steps_of" spStepsOf := ok_steps_of B F_steps_of M_MOST_FIGURES M_FIGURES
  exact ok_law (cs := csL C_BadGear C_BadStanding C_BadMoves C_BadGoal C_BadMarks C_BadMark C_BadText) B F TB_law (List.mem_singleton.mpr rfl) (fun p hp _ => by rw [List.mem_singleton.mp hp]) (ok_law_start F_law_start) H1 (ok_law_gear B F_law_gear H1) (ok_law_moves B F_law_moves H1) (ok_law_word B F_law_word) (ok_law_same B F_law_same 3) (ok_written B F_written H2 (ok_word_of B F_word_of)) (ok_read_moves B F_read_moves H2 H3) (ok_read_movesX B F_read_moves BT H2X H3)
    (ok_law_changed B F_law_changed H1) (ok_law_read B F_law_read) F_law_kind Z_ValueError G_GearError G_BadGear G_BadStanding G_BadMoves G_BadGoal G_BadMarks G_BadMark G_BadText XT XN KD_BadMoves KD_BadText rfl
end
theorem all_mk {l : PySem.W.OpenLaw} {w : World} {K : PySem.W.Frag} {h : Heap} {mg : Str → Option Value} {fa : Addr} (X : K.In h) (G : h.Ns mainGlobals mg) (hfa : mg "law" = some (.ref fa))
    {f0 : Addr} {od0 an0 : Option Addr} {sl0 : Array (Option Value)} {oc0 kV0 dc0 pm0 cd0 ct0 : Value}
    {f1 : Addr} {od1 an1 : Option Addr} {sl1 : Array (Option Value)} {oc1 kV1 dc1 pm1 cd1 ct1 : Value}
    {f2 : Addr} {od2 an2 : Option Addr} {sl2 : Array (Option Value)} {oc2 kV2 dc2 pm2 cd2 ct2 : Value}
    {f3 : Addr} {od3 an3 : Option Addr} {sl3 : Array (Option Value)} {oc3 kV3 dc3 pm3 cd3 ct3 : Value}
    {f4 : Addr} {od4 an4 : Option Addr} {sl4 : Array (Option Value)} {oc4 kV4 dc4 pm4 cd4 ct4 : Value}
    {f5 : Addr} {od5 an5 : Option Addr} {sl5 : Array (Option Value)} {oc5 kV5 dc5 pm5 cd5 ct5 : Value}
    {f6 : Addr} {od6 an6 : Option Addr} {sl6 : Array (Option Value)} {oc6 kV6 dc6 pm6 cd6 ct6 : Value}
    {f7 : Addr} {od7 an7 : Option Addr} {sl7 : Array (Option Value)} {oc7 kV7 dc7 pm7 cd7 ct7 : Value}
    {f8 : Addr} {od8 an8 : Option Addr} {sl8 : Array (Option Value)} {oc8 kV8 dc8 pm8 cd8 ct8 : Value}
    {f9 : Addr} {od9 an9 : Option Addr} {sl9 : Array (Option Value)} {oc9 kV9 dc9 pm9 cd9 ct9 : Value}
    {f10 : Addr} {od10 an10 : Option Addr} {sl10 : Array (Option Value)} {oc10 kV10 dc10 pm10 cd10 ct10 : Value}
    {f11 : Addr} {od11 an11 : Option Addr} {sl11 : Array (Option Value)} {oc11 kV11 dc11 pm11 cd11 ct11 : Value}
    {f12 : Addr} {od12 an12 : Option Addr} {sl12 : Array (Option Value)} {oc12 kV12 dc12 pm12 cd12 ct12 : Value}
    {f13 : Addr} {od13 an13 : Option Addr} {sl13 : Array (Option Value)} {oc13 kV13 dc13 pm13 cd13 ct13 : Value}
    {f14 : Addr} {od14 an14 : Option Addr} {sl14 : Array (Option Value)} {oc14 kV14 dc14 pm14 cd14 ct14 : Value}
    {cc_law PP_law : Addr}
    {t_MOST_MOVES : Tok}
    {t_MOST_FIGURES : Tok}
    {t_FIGURES : Tok}
    {C_GearError C_BadGear C_BadStanding C_BadMoves C_BadGoal C_BadMarks C_BadMark C_BadText : Addr}
    {nm_ q_ : Str} {N_ : Addr} {bs_ sub_ : List Value} {sn_ : List Str} {ab_ : Bool} {col_ : Option Bool} {dd_ : Option Addr} {k0_ k1_ k2_ k3_ k5_ : Option Value}
    {f_BadText_init : Addr} {od_BadText_init an_BadText_init : Option Addr} {sl_BadText_init : Array (Option Value)} {oc_BadText_init kV_BadText_init dc_BadText_init pm_BadText_init cd_BadText_init ct_BadText_init : Value}
    (a0 : PySem.W.nsIn K mainGlobals "need_moves" = some (some (.ref f0))) (l0 : K.lookup f0 = some ⟨oc0, od0, .func (PySem.W.fnOf "need_moves" "need_moves" (defArgs s_need_moves) (defBody s_need_moves) (defScope s_need_moves) .none kV0 dc0 pm0 an0 cd0 ct0), sl0⟩) (c0 : PySem.W.codeIn K cd0 "need_moves" = true) (k0 : PySem.W.keepIn K (.ref f0) = true)
    (a1 : PySem.W.nsIn K mainGlobals "word_of" = some (some (.ref f1))) (l1 : K.lookup f1 = some ⟨oc1, od1, .func (PySem.W.fnOf "word_of" "word_of" (defArgs s_word_of) (defBody s_word_of) (defScope s_word_of) .none kV1 dc1 pm1 an1 cd1 ct1), sl1⟩) (c1 : PySem.W.codeIn K cd1 "word_of" = true) (k1 : PySem.W.keepIn K (.ref f1) = true)
    (a2 : PySem.W.nsIn K mainGlobals "written" = some (some (.ref f2))) (l2 : K.lookup f2 = some ⟨oc2, od2, .func (PySem.W.fnOf "written" "written" (defArgs s_written) (defBody s_written) (defScope s_written) .none kV2 dc2 pm2 an2 cd2 ct2), sl2⟩) (c2 : PySem.W.codeIn K cd2 "written" = true) (k2 : PySem.W.keepIn K (.ref f2) = true)
    (a3 : PySem.W.nsIn K mainGlobals "steps_of" = some (some (.ref f3))) (l3 : K.lookup f3 = some ⟨oc3, od3, .func (PySem.W.fnOf "steps_of" "steps_of" (defArgs s_steps_of) (defBody s_steps_of) (defScope s_steps_of) .none kV3 dc3 pm3 an3 cd3 ct3), sl3⟩) (c3 : PySem.W.codeIn K cd3 "steps_of" = true) (k3 : PySem.W.keepIn K (.ref f3) = true)
    (a4 : PySem.W.nsIn K mainGlobals "read_moves" = some (some (.ref f4))) (l4 : K.lookup f4 = some ⟨oc4, od4, .func (PySem.W.fnOf "read_moves" "read_moves" (defArgs s_read_moves) (defBody s_read_moves) (defScope s_read_moves) .none kV4 dc4 pm4 an4 cd4 ct4), sl4⟩) (c4 : PySem.W.codeIn K cd4 "read_moves" = true) (k4 : PySem.W.keepIn K (.ref f4) = true)
    (a5 : PySem.W.nsIn K mainGlobals "_law_start" = some (some (.ref f5))) (l5 : K.lookup f5 = some ⟨oc5, od5, .func (PySem.W.fnOf "_law_start" "_law_start" (defArgs s_law_start) (defBody s_law_start) (defScope s_law_start) .none kV5 dc5 pm5 an5 cd5 ct5), sl5⟩) (c5 : PySem.W.codeIn K cd5 "_law_start" = true) (k5 : PySem.W.keepIn K (.ref f5) = true)
    (a6 : PySem.W.nsIn K mainGlobals "_law_drawn" = some (some (.ref f6))) (l6 : K.lookup f6 = some ⟨oc6, od6, .func (PySem.W.fnOf "_law_drawn" "_law_drawn" (defArgs s_law_drawn) (defBody s_law_drawn) (defScope s_law_drawn) .none kV6 dc6 pm6 an6 cd6 ct6), sl6⟩) (c6 : PySem.W.codeIn K cd6 "_law_drawn" = true) (k6 : PySem.W.keepIn K (.ref f6) = true)
    (a7 : PySem.W.nsIn K mainGlobals "_law_same" = some (some (.ref f7))) (l7 : K.lookup f7 = some ⟨oc7, od7, .func (PySem.W.fnOf "_law_same" "_law_same" (defArgs s_law_same) (defBody s_law_same) (defScope s_law_same) .none kV7 dc7 pm7 an7 cd7 ct7), sl7⟩) (c7 : PySem.W.codeIn K cd7 "_law_same" = true) (k7 : PySem.W.keepIn K (.ref f7) = true)
    (a8 : PySem.W.nsIn K mainGlobals "_law_kind" = some (some (.ref f8))) (l8 : K.lookup f8 = some ⟨oc8, od8, .func (PySem.W.fnOf "_law_kind" "_law_kind" (defArgs s_law_kind) (defBody s_law_kind) (defScope s_law_kind) .none kV8 dc8 pm8 an8 cd8 ct8), sl8⟩) (c8 : PySem.W.codeIn K cd8 "_law_kind" = true) (k8 : PySem.W.keepIn K (.ref f8) = true)
    (a9 : PySem.W.nsIn K mainGlobals "_law_gear" = some (some (.ref f9))) (l9 : K.lookup f9 = some ⟨oc9, od9, .func (PySem.W.fnOf "_law_gear" "_law_gear" (defArgs s_law_gear) (defBody s_law_gear) (defScope s_law_gear) .none kV9 dc9 pm9 an9 cd9 ct9), sl9⟩) (c9 : PySem.W.codeIn K cd9 "_law_gear" = true) (k9 : PySem.W.keepIn K (.ref f9) = true)
    (a10 : PySem.W.nsIn K mainGlobals "_law_moves" = some (some (.ref f10))) (l10 : K.lookup f10 = some ⟨oc10, od10, .func (PySem.W.fnOf "_law_moves" "_law_moves" (defArgs s_law_moves) (defBody s_law_moves) (defScope s_law_moves) .none kV10 dc10 pm10 an10 cd10 ct10), sl10⟩) (c10 : PySem.W.codeIn K cd10 "_law_moves" = true) (k10 : PySem.W.keepIn K (.ref f10) = true)
    (a11 : PySem.W.nsIn K mainGlobals "_law_word" = some (some (.ref f11))) (l11 : K.lookup f11 = some ⟨oc11, od11, .func (PySem.W.fnOf "_law_word" "_law_word" (defArgs s_law_word) (defBody s_law_word) (defScope s_law_word) .none kV11 dc11 pm11 an11 cd11 ct11), sl11⟩) (c11 : PySem.W.codeIn K cd11 "_law_word" = true) (k11 : PySem.W.keepIn K (.ref f11) = true)
    (a12 : PySem.W.nsIn K mainGlobals "_law_read" = some (some (.ref f12))) (l12 : K.lookup f12 = some ⟨oc12, od12, .func (PySem.W.fnOf "_law_read" "_law_read" (defArgs s_law_read) (defBody s_law_read) (defScope s_law_read) .none kV12 dc12 pm12 an12 cd12 ct12), sl12⟩) (c12 : PySem.W.codeIn K cd12 "_law_read" = true) (k12 : PySem.W.keepIn K (.ref f12) = true)
    (a13 : PySem.W.nsIn K mainGlobals "_law_changed" = some (some (.ref f13))) (l13 : K.lookup f13 = some ⟨oc13, od13, .func (PySem.W.fnOf "_law_changed" "_law_changed" (defArgs s_law_changed) (defBody s_law_changed) (defScope s_law_changed) .none kV13 dc13 pm13 an13 cd13 ct13), sl13⟩) (c13 : PySem.W.codeIn K cd13 "_law_changed" = true) (k13 : PySem.W.keepIn K (.ref f13) = true)
    (a14 : PySem.W.nsIn K mainGlobals "law" = some (some (.ref f14))) (l14 : K.lookup f14 = some ⟨oc14, od14, .func (PySem.W.fnOf "law" "law" (defArgs s_law) (defBody s_law) (defScope s_law) .none kV14 dc14 pm14 an14 cd14 ct14), sl14⟩) (c14 : PySem.W.codeIn K cd14 "law" = true) (k14 : PySem.W.keepIn K (.ref f14) = true)
    (t_law : PySem.W.tabIn K "law" = some (cc_law, PP_law))
    (m_MOST_MOVES : PySem.W.nsIn K mainGlobals "MOST_MOVES" = some (some (.int 100 t_MOST_MOVES)))
    (m_MOST_FIGURES : PySem.W.nsIn K mainGlobals "MOST_FIGURES" = some (some (.int 30 t_MOST_FIGURES)))
    (m_FIGURES : PySem.W.nsIn K mainGlobals "FIGURES" = some (some (.str "0123456789" t_FIGURES)))
    (z_len : PySem.W.nsIn K mainGlobals "len" = some none)
    (z_range : PySem.W.nsIn K mainGlobals "range" = some none)
    (z_abs : PySem.W.nsIn K mainGlobals "abs" = some none)
    (z_max : PySem.W.nsIn K mainGlobals "max" = some none)
    (z_min : PySem.W.nsIn K mainGlobals "min" = some none)
    (z_list : PySem.W.nsIn K mainGlobals "list" = some none)
    (z_tuple : PySem.W.nsIn K mainGlobals "tuple" = some none)
    (z_int : PySem.W.nsIn K mainGlobals "int" = some none)
    (z_isinstance : PySem.W.nsIn K mainGlobals "isinstance" = some none)
    (z_sum : PySem.W.nsIn K mainGlobals "sum" = some none)
    (z_set : PySem.W.nsIn K mainGlobals "set" = some none)
    (z_sorted : PySem.W.nsIn K mainGlobals "sorted" = some none)
    (z_zip : PySem.W.nsIn K mainGlobals "zip" = some none)
    (z_enumerate : PySem.W.nsIn K mainGlobals "enumerate" = some none)
    (z_str : PySem.W.nsIn K mainGlobals "str" = some none)
    (z_bool : PySem.W.nsIn K mainGlobals "bool" = some none)
    (n_law : K.lookup PP_law = none) (e_law : PySem.W.codeHdIn K cc_law PP_law = true) (y_law : h.get? PP_law = some { cls := .none, data := .fields #[] })
    (aC_GearError : PySem.W.nsIn K mainGlobals "GearError" = some (some (.ref C_GearError)))
    (aC_BadGear : PySem.W.nsIn K mainGlobals "BadGear" = some (some (.ref C_BadGear)))
    (aC_BadStanding : PySem.W.nsIn K mainGlobals "BadStanding" = some (some (.ref C_BadStanding)))
    (aC_BadMoves : PySem.W.nsIn K mainGlobals "BadMoves" = some (some (.ref C_BadMoves)))
    (aC_BadGoal : PySem.W.nsIn K mainGlobals "BadGoal" = some (some (.ref C_BadGoal)))
    (aC_BadMarks : PySem.W.nsIn K mainGlobals "BadMarks" = some (some (.ref C_BadMarks)))
    (aC_BadMark : PySem.W.nsIn K mainGlobals "BadMark" = some (some (.ref C_BadMark)))
    (aC_BadText : PySem.W.nsIn K mainGlobals "BadText" = some (some (.ref C_BadText)))
    (z_ValueError : PySem.W.nsIn K mainGlobals "ValueError" = some none)
    (et_GearError : PySem.W.typeIn K (.ref C_GearError) = some (.type "type")) (ed_GearError : PySem.W.hasDictIn K C_GearError = true)
    (et_BadGear : PySem.W.typeIn K (.ref C_BadGear) = some (.type "type")) (ed_BadGear : PySem.W.hasDictIn K C_BadGear = true)
    (et_BadStanding : PySem.W.typeIn K (.ref C_BadStanding) = some (.type "type")) (ed_BadStanding : PySem.W.hasDictIn K C_BadStanding = true)
    (et_BadMoves : PySem.W.typeIn K (.ref C_BadMoves) = some (.type "type")) (ed_BadMoves : PySem.W.hasDictIn K C_BadMoves = true)
    (et_BadGoal : PySem.W.typeIn K (.ref C_BadGoal) = some (.type "type")) (ed_BadGoal : PySem.W.hasDictIn K C_BadGoal = true)
    (et_BadMarks : PySem.W.typeIn K (.ref C_BadMarks) = some (.type "type")) (ed_BadMarks : PySem.W.hasDictIn K C_BadMarks = true)
    (et_BadMark : PySem.W.typeIn K (.ref C_BadMark) = some (.type "type")) (ed_BadMark : PySem.W.hasDictIn K C_BadMark = true)
    (et_BadText : PySem.W.typeIn K (.ref C_BadText) = some (.type "type")) (ed_BadText : PySem.W.hasDictIn K C_BadText = true)
    (eb_GearError : PySem.W.subIn K (.ref C_GearError) (.type "BaseException") = some true)
    (hn_ : PySem.W.specialIn K (.builtin "object.__class__") "__get__" = some (some (.builtin "getset_descriptor.__get__"))) (ht_ : PySem.W.takesIn K (.builtin "object.__class__") = some true)
    (ex_BadMoves : PySem.W.excIn K C_BadMoves [.type "ValueError", .type "Exception", .type "BaseException", .type "object"] "ValueError.__new__" = true)
    (kc_BadMoves : PySem.W.keepIn K (.ref C_BadMoves) = true)
    (sb_BadMoves : PySem.W.subIn K (.ref C_BadMoves) (.type "BaseException") = some true)
    (hg_BadMoves : PySem.W.findIn K (.ref C_BadMoves) "__getattribute__" = some (some (.builtin "BaseException.__getattribute__")))
    (hk_BadMoves : PySem.W.findIn K (.ref C_BadMoves) "__getattr__" = some none)
    (ha_BadMoves : PySem.W.findIn K (.ref C_BadMoves) "__class__" = some (some (.builtin "object.__class__")))
    (hm_BadMoves : PySem.W.mroIn K C_BadMoves (.type "object") = some true)
    (sg_BadMoves : PySem.W.subIn K (.ref C_BadMoves) (.ref C_GearError) = some true)
    (sv_BadMoves : PySem.W.subIn K (.ref C_BadMoves) (.type "ValueError") = some true)
    (s0_BadMoves : PySem.W.subIn K (.ref C_BadMoves) (.ref C_BadGear) = some false)
    (n0_BadMoves : C_BadMoves ≠ C_BadGear)
    (s1_BadMoves : PySem.W.subIn K (.ref C_BadMoves) (.ref C_BadStanding) = some false)
    (n1_BadMoves : C_BadMoves ≠ C_BadStanding)
    (s3_BadMoves : PySem.W.subIn K (.ref C_BadMoves) (.ref C_BadGoal) = some false)
    (n3_BadMoves : C_BadMoves ≠ C_BadGoal)
    (s4_BadMoves : PySem.W.subIn K (.ref C_BadMoves) (.ref C_BadMarks) = some false)
    (n4_BadMoves : C_BadMoves ≠ C_BadMarks)
    (s5_BadMoves : PySem.W.subIn K (.ref C_BadMoves) (.ref C_BadMark) = some false)
    (n5_BadMoves : C_BadMoves ≠ C_BadMark)
    (s6_BadMoves : PySem.W.subIn K (.ref C_BadMoves) (.ref C_BadText) = some false)
    (n6_BadMoves : C_BadMoves ≠ C_BadText)
    (kc_BadText : PySem.W.keepIn K (.ref C_BadText) = true)
    (sb_BadText : PySem.W.subIn K (.ref C_BadText) (.type "BaseException") = some true)
    (hg_BadText : PySem.W.findIn K (.ref C_BadText) "__getattribute__" = some (some (.builtin "BaseException.__getattribute__")))
    (hk_BadText : PySem.W.findIn K (.ref C_BadText) "__getattr__" = some none)
    (ha_BadText : PySem.W.findIn K (.ref C_BadText) "__class__" = some (some (.builtin "object.__class__")))
    (hm_BadText : PySem.W.mroIn K C_BadText (.type "object") = some true)
    (sg_BadText : PySem.W.subIn K (.ref C_BadText) (.ref C_GearError) = some true)
    (sv_BadText : PySem.W.subIn K (.ref C_BadText) (.type "ValueError") = some true)
    (s0_BadText : PySem.W.subIn K (.ref C_BadText) (.ref C_BadGear) = some false)
    (n0_BadText : C_BadText ≠ C_BadGear)
    (s1_BadText : PySem.W.subIn K (.ref C_BadText) (.ref C_BadStanding) = some false)
    (n1_BadText : C_BadText ≠ C_BadStanding)
    (s2_BadText : PySem.W.subIn K (.ref C_BadText) (.ref C_BadMoves) = some false)
    (n2_BadText : C_BadText ≠ C_BadMoves)
    (s3_BadText : PySem.W.subIn K (.ref C_BadText) (.ref C_BadGoal) = some false)
    (n3_BadText : C_BadText ≠ C_BadGoal)
    (s4_BadText : PySem.W.subIn K (.ref C_BadText) (.ref C_BadMarks) = some false)
    (n4_BadText : C_BadText ≠ C_BadMarks)
    (s5_BadText : PySem.W.subIn K (.ref C_BadText) (.ref C_BadMark) = some false)
    (n5_BadText : C_BadText ≠ C_BadMark)
    (xL_ : K.lookup C_BadText = some (excClassObj nm_ q_ C_BadText N_ bs_ [.ref C_GearError, .type "ValueError", .type "Exception", .type "BaseException", .type "object"] true sn_ sub_ ab_ col_ dd_ k0_ k1_ k2_ k3_ k5_ "ValueError.__new__"))
    (sa_ : PySem.W.findIn K (.ref C_BadText) "__setattr__" = some (some (.builtin "object.__setattr__")))
    (nb_ : PySem.W.findIn K (.ref C_BadText) "place" = some none)
    (rd_ : PySem.W.readsIn K C_GearError (.type "type") = true)
    (ga_ : PySem.W.specialIn K (.ref C_GearError) "__getattribute__" = some (some (.builtin "type.__getattribute__")))
    (fv_ : PySem.W.findCls K (.ref C_GearError) (.type "type") "__init__" = some (.val (.builtin "ValueError.__init__")))
    (a_BadText_init : PySem.W.findIn K (.ref C_BadText) "__init__" = some (some (.ref f_BadText_init)))
    (i_BadText_init : PySem.W.typeIn K (.ref f_BadText_init) = some (.type "function"))
    (l_BadText_init : K.lookup f_BadText_init = some ⟨oc_BadText_init, od_BadText_init, .func (PySem.W.fnOf "__init__" "BadText.__init__" (defArgs s_BadText_init) (defBody s_BadText_init) (defScope s_BadText_init) .none kV_BadText_init dc_BadText_init pm_BadText_init an_BadText_init cd_BadText_init ct_BadText_init), sl_BadText_init⟩)
    (c_BadText_init : PySem.W.codeIn K cd_BadText_init "BadText.__init__" = true)
    (k_BadText_init : PySem.W.keepIn K (.ref f_BadText_init) = true) :
    LamX.LawAtS l w K CX0 9 63 "_law_script" mg fa h := by
  have e := hfa.symm.trans (PySem.W.mg_of X G a14)
  cases e
  have F := FunTabF.mk' (st := s_law) a14 l14 c14 t_law
  have B : Bl mg := ⟨PySem.W.mg_none_of X G z_len, PySem.W.mg_none_of X G z_range, PySem.W.mg_none_of X G z_abs, PySem.W.mg_none_of X G z_max, PySem.W.mg_none_of X G z_min, PySem.W.mg_none_of X G z_list, PySem.W.mg_none_of X G z_tuple, PySem.W.mg_none_of X G z_int, PySem.W.mg_none_of X G z_isinstance, PySem.W.mg_none_of X G z_sum, PySem.W.mg_none_of X G z_set, PySem.W.mg_none_of X G z_sorted, PySem.W.mg_none_of X G z_zip, PySem.W.mg_none_of X G z_enumerate, PySem.W.mg_none_of X G z_str, PySem.W.mg_none_of X G z_bool⟩
  have y1 : ∀ p ∈ ([(cc_law, PP_law)] : List (Addr × Addr)), h.get? p.2 = some { cls := .none, data := .fields #[] } := fun p hp => by
    rw [List.mem_singleton.mp hp]
    exact y_law
  have y2 : ∀ p ∈ ([(cc_law, PP_law)] : List (Addr × Addr)), K.lookup p.2 = none := fun p hp => by
    rw [List.mem_singleton.mp hp]
    exact n_law
  have y3 : ∀ p ∈ ([(cc_law, PP_law)] : List (Addr × Addr)), PySem.W.CodeHd h p.1 p.2 := fun p hp => by
    rw [List.mem_singleton.mp hp]
    exact PySem.W.codeHd_of_K X e_law
  refine ⟨_, [(cc_law, PP_law)], spLawT K [(PP_law, ("law" ++ ".<locals>." ++ "<lambda>" : Str))], y1, y2, y3, fun s v => .of_eq rfl, fun H a ns hl _ hH hS => ⟨a, ns, rfl, hS, hl, ?_, fun _ => rfl⟩, fun base _ _ TB => law_fn B (FunAt.mk' X G a0 l0 c0 k0) (FunAt.mk' X G a1 l1 c1 k1) (FunAt.mk' X G a2 l2 c2 k2) (FunAt.mk' X G a3 l3 c3 k3) (FunAt.mk' X G a4 l4 c4 k4) (FunAt.mk' X G a5 l5 c5 k5) (FunAt.mk' X G a6 l6 c6 k6) (FunAt.mk' X G a7 l7 c7 k7) (FunAt.mk' X G a8 l8 c8 k8) (FunAt.mk' X G a9 l9 c9 k9) (FunAt.mk' X G a10 l10 c10 k10) (FunAt.mk' X G a11 l11 c11 k11) (FunAt.mk' X G a12 l12 c12 k12) (FunAt.mk' X G a13 l13 c13 k13) ⟨_, PySem.W.mg_of X G m_MOST_MOVES⟩ ⟨_, PySem.W.mg_of X G m_MOST_FIGURES⟩ ⟨_, PySem.W.mg_of X G m_FIGURES⟩ (TB (cc_law, PP_law) (by simp)) ⟨PySem.W.mg_of X G aC_GearError⟩ ⟨PySem.W.mg_of X G aC_BadGear⟩ ⟨PySem.W.mg_of X G aC_BadStanding⟩ ⟨PySem.W.mg_of X G aC_BadMoves⟩ ⟨PySem.W.mg_of X G aC_BadGoal⟩ ⟨PySem.W.mg_of X G aC_BadMarks⟩ ⟨PySem.W.mg_of X G aC_BadMark⟩ ⟨PySem.W.mg_of X G aC_BadText⟩ (PySem.W.mg_none_of X G z_ValueError) ⟨ex_BadMoves, kc_BadMoves, sb_BadMoves, et_BadMoves⟩ ⟨⟨hg_BadMoves, hk_BadMoves, sb_BadMoves, ed_BadMoves, ha_BadMoves, hn_, ht_, hm_BadMoves⟩, PySem.W.exm_ref eb_GearError ed_GearError et_GearError sg_BadMoves, kit_type (by decide +kernel) sv_BadMoves, fun j hj => match j, hj with | 0, _ => kit_ref ed_BadGear et_BadGear s0_BadMoves n0_BadMoves | 1, _ => kit_ref ed_BadStanding et_BadStanding s1_BadMoves n1_BadMoves | 2, _ => kit_self | 3, _ => kit_ref ed_BadGoal et_BadGoal s3_BadMoves n3_BadMoves | 4, _ => kit_ref ed_BadMarks et_BadMarks s4_BadMoves n4_BadMoves | 5, _ => kit_ref ed_BadMark et_BadMark s5_BadMoves n5_BadMoves | 6, _ => kit_ref ed_BadText et_BadText s6_BadMoves n6_BadMoves | n + 7, h => absurd h (by omega)⟩ ⟨⟨hg_BadText, hk_BadText, sb_BadText, ed_BadText, ha_BadText, hn_, ht_, hm_BadText⟩, PySem.W.exm_ref eb_GearError ed_GearError et_GearError sg_BadText, kit_type (by decide +kernel) sv_BadText, fun j hj => match j, hj with | 0, _ => kit_ref ed_BadGear et_BadGear s0_BadText n0_BadText | 1, _ => kit_ref ed_BadStanding et_BadStanding s1_BadText n1_BadText | 2, _ => kit_ref ed_BadMoves et_BadMoves s2_BadText n2_BadText | 3, _ => kit_ref ed_BadGoal et_BadGoal s3_BadText n3_BadText | 4, _ => kit_ref ed_BadMarks et_BadMarks s4_BadText n4_BadText | 5, _ => kit_ref ed_BadMark et_BadMark s5_BadText n5_BadText | 6, _ => kit_self | n + 7, h => absurd h (by omega)⟩ F (btR_mk ⟨⟨⟨nm_, q_, N_, bs_, _, sn_, sub_, ab_, col_, dd_, k0_, k1_, k2_, k3_, k5_, xL_, by first | rfl | with_unfolding_all rfl⟩, sa_, sb_BadText, et_BadText, kc_BadText⟩, nb_, ⟨rd_, ga_⟩, fv_⟩ ⟨PySem.W.mg_of X G aC_GearError⟩ ⟨PySem.W.mg_of X G aC_BadText⟩ a_BadText_init i_BadText_init (fun_mk (st := s_BadText_init) l_BadText_init c_BadText_init k_BadText_init)) ⟨hg_BadText, hk_BadText, sb_BadText, ed_BadText⟩ nb_⟩
  · intro p hp
    rw [List.mem_singleton.mp hp]
    exact LamX.TabS.nil (hH (cc_law, PP_law) (by simp))
end Rd
open PySem PySem.W PyProof.Rows
set_option maxRecDepth 100000 in
set_option maxHeartbeats 0 in
theorem PySem.Challenge.cw_stepgear_k11_written_and_read_holds : PySem.Challenge.rw_stepgear_k11_written_and_read.Holds := by
  w_on; o_law; k_head; (case hw => w_witness2)
  k_fill
  refine Rd.walk_tabs (l := PySem.Challenge.rw_stepgear_k11_written_and_read) (n := 63) (k := 9) (x := "_law_script") (CX := fun _ => L2.CX0) rfl (by decide) rfl ⟨rfl, by decide, by decide⟩ (fun w h Y => PySem.W.km_in_of Y) ?F (fun _ _ _ _ _ h => h)
  case F =>
    intro w mg fa h Y KX G hmg TA
    refine' Rd.all_mk KX G hmg ?a0 ?l0 ?c0 ?k0 ?a1 ?l1 ?c1 ?k1 ?a2 ?l2 ?c2 ?k2 ?a3 ?l3 ?c3 ?k3 ?a4 ?l4 ?c4 ?k4 ?a5 ?l5 ?c5 ?k5 ?a6 ?l6 ?c6 ?k6 ?a7 ?l7 ?c7 ?k7 ?a8 ?l8 ?c8 ?k8 ?a9 ?l9 ?c9 ?k9 ?a10 ?l10 ?c10 ?k10 ?a11 ?l11 ?c11 ?k11 ?a12 ?l12 ?c12 ?k12 ?a13 ?l13 ?c13 ?k13 ?a14 ?l14 ?c14 ?k14 ?t_law ?m_MOST_MOVES ?m_MOST_FIGURES ?m_FIGURES ?z_len ?z_range ?z_abs ?z_max ?z_min ?z_list ?z_tuple ?z_int ?z_isinstance ?z_sum ?z_set ?z_sorted ?z_zip ?z_enumerate ?z_str ?z_bool ?n_law ?e_law ?y_law ?aC_GearError ?aC_BadGear ?aC_BadStanding ?aC_BadMoves ?aC_BadGoal ?aC_BadMarks ?aC_BadMark ?aC_BadText ?z_ValueError ?et_GearError ?ed_GearError ?et_BadGear ?ed_BadGear ?et_BadStanding ?ed_BadStanding ?et_BadMoves ?ed_BadMoves ?et_BadGoal ?ed_BadGoal ?et_BadMarks ?ed_BadMarks ?et_BadMark ?ed_BadMark ?et_BadText ?ed_BadText ?eb_GearError ?hn_ ?ht_ ?ex_BadMoves ?kc_BadMoves ?sb_BadMoves ?hg_BadMoves ?hk_BadMoves ?ha_BadMoves ?hm_BadMoves ?sg_BadMoves ?sv_BadMoves ?s0_BadMoves ?n0_BadMoves ?s1_BadMoves ?n1_BadMoves ?s3_BadMoves ?n3_BadMoves ?s4_BadMoves ?n4_BadMoves ?s5_BadMoves ?n5_BadMoves ?s6_BadMoves ?n6_BadMoves ?kc_BadText ?sb_BadText ?hg_BadText ?hk_BadText ?ha_BadText ?hm_BadText ?sg_BadText ?sv_BadText ?s0_BadText ?n0_BadText ?s1_BadText ?n1_BadText ?s2_BadText ?n2_BadText ?s3_BadText ?n3_BadText ?s4_BadText ?n4_BadText ?s5_BadText ?n5_BadText ?xL_ ?sa_ ?nb_ ?rd_ ?ga_ ?fv_ ?a_BadText_init ?i_BadText_init ?l_BadText_init ?c_BadText_init ?k_BadText_init
    (case a0 => k_is)
    (case l0 => k_is)
    (case c0 => k_is)
    (case k0 => k_is)
    (case a1 => k_is)
    (case l1 => k_is)
    (case c1 => k_is)
    (case k1 => k_is)
    (case a2 => k_is)
    (case l2 => k_is)
    (case c2 => k_is)
    (case k2 => k_is)
    (case a3 => k_is)
    (case l3 => k_is)
    (case c3 => k_is)
    (case k3 => k_is)
    (case a4 => k_is)
    (case l4 => k_is)
    (case c4 => k_is)
    (case k4 => k_is)
    (case a5 => k_is)
    (case l5 => k_is)
    (case c5 => k_is)
    (case k5 => k_is)
    (case a6 => k_is)
    (case l6 => k_is)
    (case c6 => k_is)
    (case k6 => k_is)
    (case a7 => k_is)
    (case l7 => k_is)
    (case c7 => k_is)
    (case k7 => k_is)
    (case a8 => k_is)
    (case l8 => k_is)
    (case c8 => k_is)
    (case k8 => k_is)
    (case a9 => k_is)
    (case l9 => k_is)
    (case c9 => k_is)
    (case k9 => k_is)
    (case a10 => k_is)
    (case l10 => k_is)
    (case c10 => k_is)
    (case k10 => k_is)
    (case a11 => k_is)
    (case l11 => k_is)
    (case c11 => k_is)
    (case k11 => k_is)
    (case a12 => k_is)
    (case l12 => k_is)
    (case c12 => k_is)
    (case k12 => k_is)
    (case a13 => k_is)
    (case l13 => k_is)
    (case c13 => k_is)
    (case k13 => k_is)
    (case a14 => k_is)
    (case l14 => k_is)
    (case c14 => k_is)
    (case k14 => k_is)
    (case t_law => with_unfolding_all rfl)
    (case m_MOST_MOVES => k_is)
    (case m_MOST_FIGURES => k_is)
    (case m_FIGURES => k_is)
    (case z_len => k_is)
    (case z_range => k_is)
    (case z_abs => k_is)
    (case z_max => k_is)
    (case z_min => k_is)
    (case z_list => k_is)
    (case z_tuple => k_is)
    (case z_int => k_is)
    (case z_isinstance => k_is)
    (case z_sum => k_is)
    (case z_set => k_is)
    (case z_sorted => k_is)
    (case z_zip => k_is)
    (case z_enumerate => k_is)
    (case z_str => k_is)
    (case z_bool => k_is)
    (case n_law => first | k_is | with_unfolding_all rfl)
    (case e_law => first | k_is | with_unfolding_all rfl)
    (case y_law => exact PySem.W.km_tabs_of Y _ (by first | decide | simp))
    (case aC_GearError => k_is)
    (case aC_BadGear => k_is)
    (case aC_BadStanding => k_is)
    (case aC_BadMoves => k_is)
    (case aC_BadGoal => k_is)
    (case aC_BadMarks => k_is)
    (case aC_BadMark => k_is)
    (case aC_BadText => k_is)
    (case z_ValueError => k_is)
    (case et_GearError => k_is)
    (case ed_GearError => k_is)
    (case et_BadGear => k_is)
    (case ed_BadGear => k_is)
    (case et_BadStanding => k_is)
    (case ed_BadStanding => k_is)
    (case et_BadMoves => k_is)
    (case ed_BadMoves => k_is)
    (case et_BadGoal => k_is)
    (case ed_BadGoal => k_is)
    (case et_BadMarks => k_is)
    (case ed_BadMarks => k_is)
    (case et_BadMark => k_is)
    (case ed_BadMark => k_is)
    (case et_BadText => k_is)
    (case ed_BadText => k_is)
    (case eb_GearError => k_is)
    (case hn_ => first | k_is | with_unfolding_all rfl)
    (case ht_ => first | k_is | with_unfolding_all rfl)
    (case ex_BadMoves => first | k_is | with_unfolding_all rfl)
    (case kc_BadMoves => k_is)
    (case sb_BadMoves => first | k_is | with_unfolding_all rfl)
    (case hg_BadMoves => k_is)
    (case hk_BadMoves => k_is)
    (case ha_BadMoves => first | k_is | with_unfolding_all rfl)
    (case hm_BadMoves => first | k_is | with_unfolding_all rfl)
    (case sg_BadMoves => first | k_is | with_unfolding_all rfl)
    (case sv_BadMoves => first | k_is | with_unfolding_all rfl)
    (case s0_BadMoves => first | k_is | with_unfolding_all rfl)
    (case n0_BadMoves => first | decide | decide +kernel)
    (case s1_BadMoves => first | k_is | with_unfolding_all rfl)
    (case n1_BadMoves => first | decide | decide +kernel)
    (case s3_BadMoves => first | k_is | with_unfolding_all rfl)
    (case n3_BadMoves => first | decide | decide +kernel)
    (case s4_BadMoves => first | k_is | with_unfolding_all rfl)
    (case n4_BadMoves => first | decide | decide +kernel)
    (case s5_BadMoves => first | k_is | with_unfolding_all rfl)
    (case n5_BadMoves => first | decide | decide +kernel)
    (case s6_BadMoves => first | k_is | with_unfolding_all rfl)
    (case n6_BadMoves => first | decide | decide +kernel)
    (case kc_BadText => k_is)
    (case sb_BadText => first | k_is | with_unfolding_all rfl)
    (case hg_BadText => k_is)
    (case hk_BadText => k_is)
    (case ha_BadText => first | k_is | with_unfolding_all rfl)
    (case hm_BadText => first | k_is | with_unfolding_all rfl)
    (case sg_BadText => first | k_is | with_unfolding_all rfl)
    (case sv_BadText => first | k_is | with_unfolding_all rfl)
    (case s0_BadText => first | k_is | with_unfolding_all rfl)
    (case n0_BadText => first | decide | decide +kernel)
    (case s1_BadText => first | k_is | with_unfolding_all rfl)
    (case n1_BadText => first | decide | decide +kernel)
    (case s2_BadText => first | k_is | with_unfolding_all rfl)
    (case n2_BadText => first | decide | decide +kernel)
    (case s3_BadText => first | k_is | with_unfolding_all rfl)
    (case n3_BadText => first | decide | decide +kernel)
    (case s4_BadText => first | k_is | with_unfolding_all rfl)
    (case n4_BadText => first | decide | decide +kernel)
    (case s5_BadText => first | k_is | with_unfolding_all rfl)
    (case n5_BadText => first | decide | decide +kernel)
    (case xL_ => first | k_is | with_unfolding_all rfl)
    (case sa_ => first | k_is | with_unfolding_all rfl)
    (case nb_ => first | k_is | with_unfolding_all rfl)
    (case rd_ => first | k_is | with_unfolding_all rfl)
    (case ga_ => first | k_is | with_unfolding_all rfl)
    (case fv_ => first | k_is | with_unfolding_all rfl)
    (case a_BadText_init => first | k_is | with_unfolding_all rfl)
    (case i_BadText_init => first | k_is | with_unfolding_all rfl)
    (case l_BadText_init => k_is)
    (case c_BadText_init => k_is)
    (case k_BadText_init => k_is)

