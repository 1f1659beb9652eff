import PyProof.Rows.All
import Wide.All
import OpenK.AllK
import Wide.FinOn
import PyProof.ZipIter
import KE.KItemsList
import HandS.ForMost
import HandS.Wide
import HandS.TupAny
import HandS.IsInst
import HandS.Walk
import HandS.ListItems
import HandS.Conv
import HandS.EndTab
import HandS.TupLe
import KE.DataMinKey
import KE.KNestM
import HandS.SetFor
import HandS.Strs
import HandS.SortRule
import HandS.ExcInit
import HandS.ExcField
import HandS.ClsMeth
import HandS.ExcIs
import HandS.WordsExc
import KE.KExcIs
import HandS.Codes
import HandS.Nested
import PySem.Challenge.RW_stepgear_k12_asked_again
set_option Elab.async false
set_option linter.all false
set_option maxRecDepth 100000
set_option maxHeartbeats 4000000
namespace Rd
open PySem PySem.Spec PyProof.Rows L2
/-! ## defs by name -/
/-- the name x stands for a def that keeps the promise sp, at level k -/
structure Has (P : Program) (w : World) (K : PySem.W.Frag) (mg : Str → Option Value) (base : Heap) (CX : CXT) (k : Nat) (x : Str) (sp : Sp) : Prop where
  ex : ∃ (f : Addr) (fd : FuncData) (ps : List Str), FnOk P w K mg base CX k f fd ps sp ∧ mg x = some (.ref f) ∧ PySem.W.keepIn K (.ref f) = true ∧ Binds K fd ps []
theorem Has.imp {P : Program} {w : World} {K : PySem.W.Frag} {mg : Str → Option Value} {base : Heap} {CX : CXT} {k : Nat} {x : Str} {sp sp' : Sp} (h : Has P w K mg base CX k x sp) (i : ∀ vs H Q E, sp' vs H Q E → sp vs H Q E) : Has P w K mg base CX k x sp' := by
  obtain ⟨f, fd, ps, F, r⟩ := h.ex
  exact ⟨f, fd, ps, F.imp i, r⟩
theorem Has.mono {P : Program} {w : World} {K : PySem.W.Frag} {mg : Str → Option Value} {base : Heap} {CX : CXT} {j k : Nat} {x : Str} {sp : Sp} (h : Has P w K mg base CX j x sp) (i : j ≤ k) : Has P w K mg base CX k x sp := by
  obtain ⟨f, fd, ps, F, r⟩ := h.ex
  exact ⟨f, fd, ps, F.mono i, r⟩
/-- the def st of the text stands at the name x -/
structure FunAt (K : PySem.W.Frag) (mg : Str → Option Value) (x : Str) (st : Stmt) : Prop where
  ex : ∃ (f : Addr) (fd : FuncData), Fun K x x st f fd ∧ mg x = some (.ref f)
section
variable {P : Program} {w : World} {K : PySem.W.Frag} {mg : Str → Option Value} {base : Heap}
def BindOk (x : Str) (st : Stmt) (ps : List Str) : Prop := ∀ (kV doc pm : Value) (an : Option Addr) (cdv ct : Value) (us : List Value), us.length = ps.length → bindArgs (PySem.W.fnOf x x (defArgs st) (defBody st) (defScope st) .none kV doc pm an cdv ct) ⟨us, []⟩ = pure (ps.zip us)
def BindOkQ (x q : Str) (st : Stmt) (ps : List Str) : Prop := ∀ (kV doc pm : Value) (an : Option Addr) (cdv ct : Value) (us : List Value), us.length = ps.length → bindArgs (PySem.W.fnOf x q (defArgs st) (defBody st) (defScope st) .none kV doc pm an cdv ct) ⟨us, []⟩ = pure (ps.zip us)
/-- a def that lets no exception out -/
theorem FunAt.ok {x : Str} {st : Stmt} {N ps : List Str} {k : Nat} {sp : Sp} (F : FunAt K mg x st) (S : FnScope N ps (defScope st)) (bo : BindOk x st ps) (len : ∀ vs H Q E, sp vs H Q E → vs.length = ps.length)
    (hbody : ∀ (f : Addr) (cdv : Value) (A : Around) (outer : List Env) (s : Shared) (H : Hp) (vs : List V) (Q : VK) (E : XK), Room k (A.deeper (envOfC x (defScope st) s.heap.objs.size f cdv)) → sp vs H Q E →
      ∃ t, PSs (cxOf CX0 P w K mg base N x (defScope st) f cdv A outer s H E).nox (defBody st) t ∧ t { nx := fun _ H' => Q .non H', rt := Q } (start N vs) H) : Has P w K mg base CX0 (k + 1) x sp := by
  obtain ⟨f, fd, F, hm⟩ := F.ex
  exact ⟨f, fd, ps, F.ok S len fun cdv A outer s H vs Q E hr h => hbody f cdv A outer s H vs Q E hr h, hm, F.kp, F.binds bo⟩
theorem FunAt.mk' {x : Str} {st : Stmt} {h : Heap} (X : K.In h) (G : h.Ns mainGlobals mg) {f : Addr} {oc : Value} {od an : Option Addr} {osl : Array (Option Value)} {kV doc pm cdv ct : Value}
    (a : PySem.W.nsIn K mainGlobals x = some (some (.ref f)))
    (l : K.lookup f = some ⟨oc, od, .func (PySem.W.fnOf x x (defArgs st) (defBody st) (defScope st) .none kV doc pm an cdv ct), osl⟩)
    (c : PySem.W.codeIn K cdv x = true) (k : PySem.W.keepIn K (.ref f) = true) : FunAt K mg x st := ⟨f, _, fun_mk l c k, PySem.W.mg_of X G a⟩
end
section
variable {X : Cx} {CX : CXT} {k j : Nat} {sp : Sp} {E : XK} {x : Str} {p pos : Pos} {e : Expr} {es : List Expr} {t : TA}
theorem pe_has (h : Has X.prog X.w X.K X.mg X.base CX k x sp) (hr : Room j X.A) (hk : k ≤ j) (hg : Gl X x) (hx : Passes CX X E)
    (ha : PA X (e :: es) t) (hdb : (x == ("__debug__" : Str)) = false := by decide) (he : starEach (e :: es) X.env = (false, eval e X.env) :: starEach es X.env := by rfl) (hpl : (backTo pos (starEach es X.env)).any (·.1) = false := by rfl) :
    PE X (.Call (.Name x p) (e :: es) [] pos) (tCall sp [] E t) := by
  obtain ⟨f, fd, ps, F, hm, kp, b⟩ := h.ex
  exact pe_call F (hr.mono hk) hg hm kp b .nil hx ha hdb he hpl
end
/-- the built-ins' names are still theirs -/
structure Bl (mg : Str → Option Value) : Prop where
  len : mg "len" = none
  range : mg "range" = none
  abs : mg "abs" = none
  max : mg "max" = none
  min : mg "min" = none
  list : mg "list" = none
  tuple : mg "tuple" = none
  int : mg "int" = none
  isinstance : mg "isinstance" = none
  sum : mg "sum" = none
  set : mg "set" = none
  sorted : mg "sorted" = none
  zip : mg "zip" = none
  enumerate : mg "enumerate" = none
  str : mg "str" = none
  bool : mg "bool" = none
/-! ## unions of rules -/
section
variable {X : Cx}
def rAddA (K : PySem.W.Frag) : R2 := fun x y H Q => rI0 (fun i j => .int (i + j)) x y H Q ∨ ((∃ i j, x = .str i ∧ y = .str j ∧ i.length + j.length ≤ sizeLine ∧ Q (.str (i ++ j)) H) ∨ (rCat x y H Q ∨ rCatA K x y H Q))
theorem op_addA : OpR X (binaryOp .Add) (rAddA X.K) := OpR.or op_add (OpR.or op_add_str (OpR.or op_cat op_catA))
def rEqA (K : PySem.W.Frag) : R2 := fun x y H Q => rEq x y H Q ∨ rEqD K x y H Q
def rNeA (K : PySem.W.Frag) : R2 := fun x y H Q => rNe x y H Q ∨ rNeD K x y H Q
theorem op_eqA (hu : X.A.units + 64 < cLine) : OpR X (compareOp .Eq) (rEqA X.K) := OpR.or op_eq (op_eqD hu)
theorem op_neA (hu : X.A.units + 64 < cLine) : OpR X (compareOp .NotEq) (rNeA X.K) := OpR.or op_ne (op_neD hu)
def rLen (K : PySem.W.Frag) : List V → Hp → VK → Prop := fun xs H Q => (∃ p ys, xs = [.ref p] ∧ (SqL K H p ys ∨ SqT K H p ys) ∧ (ys.length ≤ 16777216 → Q (.int ys.length) H)) ∨ (∃ z, xs = [.str z] ∧ z.length ≤ sizeLine ∧ Q (.int z.length) H)
theorem call_lenA : CallR X (.builtin "len") (rLen X.K) := by
  refine CallR.or (fun pins s σ H xs us Q I r h => ?_) call_len_str
  obtain ⟨p, ys, e, hq, q⟩ := h
  have hz : ys.length ≤ 16777216 := by
    rcases hq with h | h
    · obtain ⟨_, _, _, z⟩ := I.list h
      rwa [PySem.sizeLine_eq] at z
    · obtain ⟨_, _, _, z⟩ := I.tuple h
      rwa [PySem.sizeLine_eq] at z
  exact call_len_seq pins s σ H xs us Q I r ⟨p, ys, e, hq, q hz⟩
def rMaxA (K : PySem.W.Frag) : List V → Hp → VK → Prop := fun xs H Q => (∃ i j, xs = [.int i, .int j] ∧ Q (.int (if j > i then j else i)) H) ∨ rMax K xs H Q
def rMinA (K : PySem.W.Frag) : List V → Hp → VK → Prop := fun xs H Q => (∃ i j, xs = [.int i, .int j] ∧ Q (.int (if j < i then j else i)) H) ∨ rMin K xs H Q
theorem call_maxA (hc : X.calm = true) : CallR X (.builtin "max") (rMaxA X.K) := CallR.or (call_max2 hc) (cr_max hc)
theorem call_minA (hc : X.calm = true) : CallR X (.builtin "min") (rMinA X.K) := CallR.or (call_min2 hc) (cr_min hc)
def rAbs : List V → Hp → VK → Prop := fun xs H Q => ∃ i, xs = [.int i] ∧ Q (.int (if i < 0 then -i else i)) H
theorem call_absA : CallR X (.builtin "abs") rAbs := call_abs
def rInt1 : List V → Hp → VK → Prop := fun xs H Q => (∃ i, xs = [.int i] ∧ Q (.int i) H) ∨ ∃ k, xs = [.bl k] ∧ Q (.int (if k then 1 else 0)) H
theorem call_intA : CallR X (.type "int") rInt1 := call_int1
def rListOf (K : PySem.W.Frag) : List V → Hp → VK → Prop := fun xs H Q => ∃ p ys, xs = [.ref p] ∧ (SqL K H p ys ∨ SqT K H p ys) ∧ ∀ l, H l = none → Q (.ref l) (upd H l (.lst ys))
theorem call_listA : CallR X (.type "list") (rListOf X.K) := call_list_of
def rTupOf (K : PySem.W.Frag) : List V → Hp → VK → Prop := fun xs H Q => ∃ p ys, xs = [.ref p] ∧ ((SqL K H p ys ∧ ∀ l, H l = none → Q (.ref l) (upd H l (.tup ys))) ∨ (SqT K H p ys ∧ Q (.ref p) H))
theorem call_tupA : CallR X (.type "tuple") (rTupOf X.K) := call_tuple_of
def rSlAll (K : PySem.W.Frag) : V → Option Int → Option Int → Hp → VK → Prop := fun x lo hi H Q => rSlL K x lo hi H Q ∨ (rSlA K x lo hi H Q ∨ rSlS x lo hi H Q)
theorem sl_all : SlR X (rSlAll X.K) := SlR.or sl_list (SlR.or sl_tupA sl_str)
end
/-! ## the rules again, the written part K named -/
section
variable {X : Cx} {K : PySem.W.Frag}
theorem kop_add (h : X.K = K) : OpR X (binaryOp .Add) (rAddA K) := by subst h; exact op_addA
theorem kop_eq (h : X.K = K) (hu : X.A.units + 64 < cLine) : OpR X (compareOp .Eq) (rEqA K) := by subst h; exact op_eqA hu
theorem kop_ne (h : X.K = K) (hu : X.A.units + 64 < cLine) : OpR X (compareOp .NotEq) (rNeA K) := by subst h; exact op_neA hu
theorem kix (h : X.K = K) : IxR X (rIx K) := by subst h; exact ix_seq
theorem ksl (h : X.K = K) : SlR X (rSlAll K) := by subst h; exact sl_all
theorem kc_len (h : X.K = K) : CallR X (.builtin "len") (rLen K) := by subst h; exact call_lenA
theorem kc_max (h : X.K = K) (hc : X.calm = true) : CallR X (.builtin "max") (rMaxA K) := by subst h; exact call_maxA hc
theorem kc_min (h : X.K = K) (hc : X.calm = true) : CallR X (.builtin "min") (rMinA K) := by subst h; exact call_minA hc
theorem kc_sum (h : X.K = K) (hc : X.calm = true) : CallR X (.builtin "sum") (rSum K) := by subst h; exact cr_sum hc
theorem kc_list (h : X.K = K) : CallR X (.type "list") (rListOf K) := by subst h; exact call_listA
theorem kc_tup (h : X.K = K) : CallR X (.type "tuple") (rTupOf K) := by subst h; exact call_tupA
theorem kc_isi (h : X.K = K) : CallR X (.builtin "isinstance") (fun xs H Q => rIsi K xs H Q ∨ rIsiT K xs H Q) := by subst h; exact CallR.or call_isi call_isiT
theorem kpg_tup {es : List Expr} {k : Nat} {t : TGs} {n : Nat} {pos : Pos} (hK : X.K = K) (hc : X.calm = true) (h : PGs X es t)
    (hn : (assignEach es X.env).length = n := by rfl) (hst : (assignEach es X.env).findIdx? (·.1) = none := by rfl) : PG X (.Tuple es k pos) (gTup K n t) := by subst hK; exact pg_tup hc h hn hst
theorem kpi_list {tg l : Expr} {tl : TE} (h : X.K = K) (hl : PE X l tl) : PI X tg l (iList K tl) := by subst h; exact pi_list hl
theorem kpi_tup {tg l : Expr} {tl : TE} (h : X.K = K) (hl : PE X l tl) : PI X tg l (iTup K tl) := by subst h; exact pi_tup hl
theorem kpe_bm {o e : Expr} {es : List Expr} {to : TE} {t : TA} {name : Str} {apos cpos : Pos} {T id : String} {r : V → List V → Hp → VK → Prop} (hK : X.K = K) (pa : PlainAttrs T) (slot : Slot T name id) (hty : typeOf (.builtin id) = pure (.type "method_descriptor")) (hm : MtR X id r) (ho : PE X o to) (ha : PA X (e :: es) t)
    (hbase : attributeBase o name X.env (eval o X.env) = eval o X.env := by rfl)
    (hfew : ((backTo cpos (starEach (e :: es) X.env)).all (fun x => !x.1) && (backToKw cpos (keywordEach [] X.env)).all (fun x => x.1.isSome)
      && decide ((e :: es).length + ([] : List Keyword).length + (if ([] : List Keyword).isEmpty then 0 else 1) < 30)) = true := by rfl)
    (hline : (apos.endLine == cpos.line) = true := by rfl) (hs : starEach (e :: es) X.env = (false, eval e X.env) :: starEach es X.env := by rfl) (hplain : (backTo cpos (starEach es X.env)).any (·.1) = false := by rfl) :
    PE X (.Call (.Attribute o name apos) (e :: es) [] cpos) (tBM K T r to t) := by subst hK; exact pe_bm pa slot hty hm ho ha hbase hfew hline hs hplain
/-- a module's constant -/
structure Cn (mg : Str → Option Value) (x : Str) (i : Int) : Prop where
  ex : ∃ t, mg x = some (.int i t)
theorem pe_cn {x : Str} {i : Int} {pos : Pos} (h : Cn X.mg x i) (hg : Gl X x) (hd : (x == ("__debug__" : Str)) = false := by decide) : PE X (.Name x pos) (tC (.int i)) := by
  obtain ⟨t, e⟩ := h.ex
  exact pe_glob hg e ⟨t, rfl⟩ hd
end
/-- an expression, its wish stated between -/
def tMid (t : TE) : TE := fun σ H Q => ∃ Q', t σ H Q' ∧ ∀ v H', Q' v H' → Q v H'
theorem pe_mid {X : Cx} {e : Expr} {t : TE} (h : PE X e t) : PE X e (tMid t) := by
  refine ⟨fun pins s σ H Q I q => ?_⟩
  obtain ⟨Q', h1, h2⟩ := q
  exact thn (h.run pins s σ H Q' I h1) fun u s' ⟨v, H', I', r, z⟩ => ⟨v, H', I', r, h2 _ _ z⟩
theorem r_mid {t : TE} {σ : L2.St} {H : Hp} {Q : VK} (Q' : VK) (h : t σ H Q') (k : ∀ v H', Q' v H' → Q v H') : tMid t σ H Q := ⟨Q', h, k⟩
/-- a block, cut behind its first statement -/
def tCut (t u : TS) : TS := fun D σ H => ∃ Mid : L2.St → Hp → Prop, t ⟨Mid, D.rt, D.bk, D.ct⟩ σ H ∧ ∀ σ' H', Mid σ' H' → u D σ' H'
theorem pss_cut {X : Cx} {st : Stmt} {rest : List Stmt} {t u : TS} (h1 : PS X st t) (h2 : PSs X rest u) : PSs X (st :: rest) (tCut t u) := by
  refine ⟨fun pins s σ H D I h => ?_⟩
  obtain ⟨Mid, h, k⟩ := h
  have p : PS X st (fun D' σ' H' => D' = ⟨u D, D.rt, D.bk, D.ct⟩ ∧ t ⟨Mid, D.rt, D.bk, D.ct⟩ σ' H') := ⟨fun pins s σ H D' I q => by
    obtain ⟨rfl, q⟩ := q
    refine thn (h1.run pins s σ H _ I q) fun f s' z => ?_
    cases f with
    | next => obtain ⟨σ', H', I', m⟩ := z; exact ⟨σ', H', I', k _ _ m⟩
    | cont => exact z
    | brk => exact z
    | ret v => exact z⟩
  exact (pss_cons p h2).run pins s σ H D I ⟨rfl, h⟩
/-! ## reading: names, constants -/
section
variable {K : PySem.W.Frag} {σ : L2.St} {H : Hp} {Q : VK}
theorem r_c {v : V} (k : Q v H) : tC v σ H Q := k
theorem r_var {i : Nat} {v : V} (h : σ[i]? = some (some v)) (k : Q v H) : tVar i σ H Q := ⟨v, h, k⟩
variable {a0 a1 a2 a3 a4 a5 a6 a7 a8 a9 a10 a11 a12 a13 a14 a15 a16 a17 a18 a19 : Option V} {v : V} {r : L2.St}
theorem r_v0 (k : Q v H) : tVar 0 (some v :: r) H Q := ⟨v, rfl, k⟩
theorem r_g0 {z : Option V} {G : L2.St → Hp → Prop} (k : G (some v :: r) H) : gName 0 v (z :: r) H G := k
theorem r_v1 {a0 : Option V} (k : Q v H) : tVar 1 (a0 :: some v :: r) H Q := ⟨v, rfl, k⟩
theorem r_g1 {a0 : Option V} {z : Option V} {G : L2.St → Hp → Prop} (k : G (a0 :: some v :: r) H) : gName 1 v (a0 :: z :: r) H G := k
theorem r_v2 {a0 a1 : Option V} (k : Q v H) : tVar 2 (a0 :: a1 :: some v :: r) H Q := ⟨v, rfl, k⟩
theorem r_g2 {a0 a1 : Option V} {z : Option V} {G : L2.St → Hp → Prop} (k : G (a0 :: a1 :: some v :: r) H) : gName 2 v (a0 :: a1 :: z :: r) H G := k
theorem r_v3 {a0 a1 a2 : Option V} (k : Q v H) : tVar 3 (a0 :: a1 :: a2 :: some v :: r) H Q := ⟨v, rfl, k⟩
theorem r_g3 {a0 a1 a2 : Option V} {z : Option V} {G : L2.St → Hp → Prop} (k : G (a0 :: a1 :: a2 :: some v :: r) H) : gName 3 v (a0 :: a1 :: a2 :: z :: r) H G := k
theorem r_v4 {a0 a1 a2 a3 : Option V} (k : Q v H) : tVar 4 (a0 :: a1 :: a2 :: a3 :: some v :: r) H Q := ⟨v, rfl, k⟩
theorem r_g4 {a0 a1 a2 a3 : Option V} {z : Option V} {G : L2.St → Hp → Prop} (k : G (a0 :: a1 :: a2 :: a3 :: some v :: r) H) : gName 4 v (a0 :: a1 :: a2 :: a3 :: z :: r) H G := k
theorem r_v5 {a0 a1 a2 a3 a4 : Option V} (k : Q v H) : tVar 5 (a0 :: a1 :: a2 :: a3 :: a4 :: some v :: r) H Q := ⟨v, rfl, k⟩
theorem r_g5 {a0 a1 a2 a3 a4 : Option V} {z : Option V} {G : L2.St → Hp → Prop} (k : G (a0 :: a1 :: a2 :: a3 :: a4 :: some v :: r) H) : gName 5 v (a0 :: a1 :: a2 :: a3 :: a4 :: z :: r) H G := k
theorem r_v6 {a0 a1 a2 a3 a4 a5 : Option V} (k : Q v H) : tVar 6 (a0 :: a1 :: a2 :: a3 :: a4 :: a5 :: some v :: r) H Q := ⟨v, rfl, k⟩
theorem r_g6 {a0 a1 a2 a3 a4 a5 : Option V} {z : Option V} {G : L2.St → Hp → Prop} (k : G (a0 :: a1 :: a2 :: a3 :: a4 :: a5 :: some v :: r) H) : gName 6 v (a0 :: a1 :: a2 :: a3 :: a4 :: a5 :: z :: r) H G := k
theorem r_v7 {a0 a1 a2 a3 a4 a5 a6 : Option V} (k : Q v H) : tVar 7 (a0 :: a1 :: a2 :: a3 :: a4 :: a5 :: a6 :: some v :: r) H Q := ⟨v, rfl, k⟩
theorem r_g7 {a0 a1 a2 a3 a4 a5 a6 : Option V} {z : Option V} {G : L2.St → Hp → Prop} (k : G (a0 :: a1 :: a2 :: a3 :: a4 :: a5 :: a6 :: some v :: r) H) : gName 7 v (a0 :: a1 :: a2 :: a3 :: a4 :: a5 :: a6 :: z :: r) H G := k
theorem r_v8 {a0 a1 a2 a3 a4 a5 a6 a7 : Option V} (k : Q v H) : tVar 8 (a0 :: a1 :: a2 :: a3 :: a4 :: a5 :: a6 :: a7 :: some v :: r) H Q := ⟨v, rfl, k⟩
theorem r_g8 {a0 a1 a2 a3 a4 a5 a6 a7 : Option V} {z : Option V} {G : L2.St → Hp → Prop} (k : G (a0 :: a1 :: a2 :: a3 :: a4 :: a5 :: a6 :: a7 :: some v :: r) H) : gName 8 v (a0 :: a1 :: a2 :: a3 :: a4 :: a5 :: a6 :: a7 :: z :: r) H G := k
theorem r_v9 {a0 a1 a2 a3 a4 a5 a6 a7 a8 : Option V} (k : Q v H) : tVar 9 (a0 :: a1 :: a2 :: a3 :: a4 :: a5 :: a6 :: a7 :: a8 :: some v :: r) H Q := ⟨v, rfl, k⟩
theorem r_g9 {a0 a1 a2 a3 a4 a5 a6 a7 a8 : Option V} {z : Option V} {G : L2.St → Hp → Prop} (k : G (a0 :: a1 :: a2 :: a3 :: a4 :: a5 :: a6 :: a7 :: a8 :: some v :: r) H) : gName 9 v (a0 :: a1 :: a2 :: a3 :: a4 :: a5 :: a6 :: a7 :: a8 :: z :: r) H G := k
theorem r_v10 {a0 a1 a2 a3 a4 a5 a6 a7 a8 a9 : Option V} (k : Q v H) : tVar 10 (a0 :: a1 :: a2 :: a3 :: a4 :: a5 :: a6 :: a7 :: a8 :: a9 :: some v :: r) H Q := ⟨v, rfl, k⟩
theorem r_g10 {a0 a1 a2 a3 a4 a5 a6 a7 a8 a9 : Option V} {z : Option V} {G : L2.St → Hp → Prop} (k : G (a0 :: a1 :: a2 :: a3 :: a4 :: a5 :: a6 :: a7 :: a8 :: a9 :: some v :: r) H) : gName 10 v (a0 :: a1 :: a2 :: a3 :: a4 :: a5 :: a6 :: a7 :: a8 :: a9 :: z :: r) H G := k
theorem r_v11 {a0 a1 a2 a3 a4 a5 a6 a7 a8 a9 a10 : Option V} (k : Q v H) : tVar 11 (a0 :: a1 :: a2 :: a3 :: a4 :: a5 :: a6 :: a7 :: a8 :: a9 :: a10 :: some v :: r) H Q := ⟨v, rfl, k⟩
theorem r_g11 {a0 a1 a2 a3 a4 a5 a6 a7 a8 a9 a10 : Option V} {z : Option V} {G : L2.St → Hp → Prop} (k : G (a0 :: a1 :: a2 :: a3 :: a4 :: a5 :: a6 :: a7 :: a8 :: a9 :: a10 :: some v :: r) H) : gName 11 v (a0 :: a1 :: a2 :: a3 :: a4 :: a5 :: a6 :: a7 :: a8 :: a9 :: a10 :: z :: r) H G := k
theorem r_v12 {a0 a1 a2 a3 a4 a5 a6 a7 a8 a9 a10 a11 : Option V} (k : Q v H) : tVar 12 (a0 :: a1 :: a2 :: a3 :: a4 :: a5 :: a6 :: a7 :: a8 :: a9 :: a10 :: a11 :: some v :: r) H Q := ⟨v, rfl, k⟩
theorem r_g12 {a0 a1 a2 a3 a4 a5 a6 a7 a8 a9 a10 a11 : Option V} {z : Option V} {G : L2.St → Hp → Prop} (k : G (a0 :: a1 :: a2 :: a3 :: a4 :: a5 :: a6 :: a7 :: a8 :: a9 :: a10 :: a11 :: some v :: r) H) : gName 12 v (a0 :: a1 :: a2 :: a3 :: a4 :: a5 :: a6 :: a7 :: a8 :: a9 :: a10 :: a11 :: z :: r) H G := k
theorem r_v13 {a0 a1 a2 a3 a4 a5 a6 a7 a8 a9 a10 a11 a12 : Option V} (k : Q v H) : tVar 13 (a0 :: a1 :: a2 :: a3 :: a4 :: a5 :: a6 :: a7 :: a8 :: a9 :: a10 :: a11 :: a12 :: some v :: r) H Q := ⟨v, rfl, k⟩
theorem r_g13 {a0 a1 a2 a3 a4 a5 a6 a7 a8 a9 a10 a11 a12 : Option V} {z : Option V} {G : L2.St → Hp → Prop} (k : G (a0 :: a1 :: a2 :: a3 :: a4 :: a5 :: a6 :: a7 :: a8 :: a9 :: a10 :: a11 :: a12 :: some v :: r) H) : gName 13 v (a0 :: a1 :: a2 :: a3 :: a4 :: a5 :: a6 :: a7 :: a8 :: a9 :: a10 :: a11 :: a12 :: z :: r) H G := k
theorem r_v14 {a0 a1 a2 a3 a4 a5 a6 a7 a8 a9 a10 a11 a12 a13 : Option V} (k : Q v H) : tVar 14 (a0 :: a1 :: a2 :: a3 :: a4 :: a5 :: a6 :: a7 :: a8 :: a9 :: a10 :: a11 :: a12 :: a13 :: some v :: r) H Q := ⟨v, rfl, k⟩
theorem r_g14 {a0 a1 a2 a3 a4 a5 a6 a7 a8 a9 a10 a11 a12 a13 : Option V} {z : Option V} {G : L2.St → Hp → Prop} (k : G (a0 :: a1 :: a2 :: a3 :: a4 :: a5 :: a6 :: a7 :: a8 :: a9 :: a10 :: a11 :: a12 :: a13 :: some v :: r) H) : gName 14 v (a0 :: a1 :: a2 :: a3 :: a4 :: a5 :: a6 :: a7 :: a8 :: a9 :: a10 :: a11 :: a12 :: a13 :: z :: r) H G := k
theorem r_v15 {a0 a1 a2 a3 a4 a5 a6 a7 a8 a9 a10 a11 a12 a13 a14 : Option V} (k : Q v H) : tVar 15 (a0 :: a1 :: a2 :: a3 :: a4 :: a5 :: a6 :: a7 :: a8 :: a9 :: a10 :: a11 :: a12 :: a13 :: a14 :: some v :: r) H Q := ⟨v, rfl, k⟩
theorem r_g15 {a0 a1 a2 a3 a4 a5 a6 a7 a8 a9 a10 a11 a12 a13 a14 : Option V} {z : Option V} {G : L2.St → Hp → Prop} (k : G (a0 :: a1 :: a2 :: a3 :: a4 :: a5 :: a6 :: a7 :: a8 :: a9 :: a10 :: a11 :: a12 :: a13 :: a14 :: some v :: r) H) : gName 15 v (a0 :: a1 :: a2 :: a3 :: a4 :: a5 :: a6 :: a7 :: a8 :: a9 :: a10 :: a11 :: a12 :: a13 :: a14 :: z :: r) H G := k
theorem r_v16 {a0 a1 a2 a3 a4 a5 a6 a7 a8 a9 a10 a11 a12 a13 a14 a15 : Option V} (k : Q v H) : tVar 16 (a0 :: a1 :: a2 :: a3 :: a4 :: a5 :: a6 :: a7 :: a8 :: a9 :: a10 :: a11 :: a12 :: a13 :: a14 :: a15 :: some v :: r) H Q := ⟨v, rfl, k⟩
theorem r_g16 {a0 a1 a2 a3 a4 a5 a6 a7 a8 a9 a10 a11 a12 a13 a14 a15 : Option V} {z : Option V} {G : L2.St → Hp → Prop} (k : G (a0 :: a1 :: a2 :: a3 :: a4 :: a5 :: a6 :: a7 :: a8 :: a9 :: a10 :: a11 :: a12 :: a13 :: a14 :: a15 :: some v :: r) H) : gName 16 v (a0 :: a1 :: a2 :: a3 :: a4 :: a5 :: a6 :: a7 :: a8 :: a9 :: a10 :: a11 :: a12 :: a13 :: a14 :: a15 :: z :: r) H G := k
theorem r_v17 {a0 a1 a2 a3 a4 a5 a6 a7 a8 a9 a10 a11 a12 a13 a14 a15 a16 : Option V} (k : Q v H) : tVar 17 (a0 :: a1 :: a2 :: a3 :: a4 :: a5 :: a6 :: a7 :: a8 :: a9 :: a10 :: a11 :: a12 :: a13 :: a14 :: a15 :: a16 :: some v :: r) H Q := ⟨v, rfl, k⟩
theorem r_g17 {a0 a1 a2 a3 a4 a5 a6 a7 a8 a9 a10 a11 a12 a13 a14 a15 a16 : Option V} {z : Option V} {G : L2.St → Hp → Prop} (k : G (a0 :: a1 :: a2 :: a3 :: a4 :: a5 :: a6 :: a7 :: a8 :: a9 :: a10 :: a11 :: a12 :: a13 :: a14 :: a15 :: a16 :: some v :: r) H) : gName 17 v (a0 :: a1 :: a2 :: a3 :: a4 :: a5 :: a6 :: a7 :: a8 :: a9 :: a10 :: a11 :: a12 :: a13 :: a14 :: a15 :: a16 :: z :: r) H G := k
theorem r_v18 {a0 a1 a2 a3 a4 a5 a6 a7 a8 a9 a10 a11 a12 a13 a14 a15 a16 a17 : Option V} (k : Q v H) : tVar 18 (a0 :: a1 :: a2 :: a3 :: a4 :: a5 :: a6 :: a7 :: a8 :: a9 :: a10 :: a11 :: a12 :: a13 :: a14 :: a15 :: a16 :: a17 :: some v :: r) H Q := ⟨v, rfl, k⟩
theorem r_g18 {a0 a1 a2 a3 a4 a5 a6 a7 a8 a9 a10 a11 a12 a13 a14 a15 a16 a17 : Option V} {z : Option V} {G : L2.St → Hp → Prop} (k : G (a0 :: a1 :: a2 :: a3 :: a4 :: a5 :: a6 :: a7 :: a8 :: a9 :: a10 :: a11 :: a12 :: a13 :: a14 :: a15 :: a16 :: a17 :: some v :: r) H) : gName 18 v (a0 :: a1 :: a2 :: a3 :: a4 :: a5 :: a6 :: a7 :: a8 :: a9 :: a10 :: a11 :: a12 :: a13 :: a14 :: a15 :: a16 :: a17 :: z :: r) H G := k
theorem r_v19 {a0 a1 a2 a3 a4 a5 a6 a7 a8 a9 a10 a11 a12 a13 a14 a15 a16 a17 a18 : Option V} (k : Q v H) : tVar 19 (a0 :: a1 :: a2 :: a3 :: a4 :: a5 :: a6 :: a7 :: a8 :: a9 :: a10 :: a11 :: a12 :: a13 :: a14 :: a15 :: a16 :: a17 :: a18 :: some v :: r) H Q := ⟨v, rfl, k⟩
theorem r_g19 {a0 a1 a2 a3 a4 a5 a6 a7 a8 a9 a10 a11 a12 a13 a14 a15 a16 a17 a18 : Option V} {z : Option V} {G : L2.St → Hp → Prop} (k : G (a0 :: a1 :: a2 :: a3 :: a4 :: a5 :: a6 :: a7 :: a8 :: a9 :: a10 :: a11 :: a12 :: a13 :: a14 :: a15 :: a16 :: a17 :: a18 :: some v :: r) H) : gName 19 v (a0 :: a1 :: a2 :: a3 :: a4 :: a5 :: a6 :: a7 :: a8 :: a9 :: a10 :: a11 :: a12 :: a13 :: a14 :: a15 :: a16 :: a17 :: a18 :: z :: r) H G := k
theorem r_v20 {a0 a1 a2 a3 a4 a5 a6 a7 a8 a9 a10 a11 a12 a13 a14 a15 a16 a17 a18 a19 : Option V} (k : Q v H) : tVar 20 (a0 :: a1 :: a2 :: a3 :: a4 :: a5 :: a6 :: a7 :: a8 :: a9 :: a10 :: a11 :: a12 :: a13 :: a14 :: a15 :: a16 :: a17 :: a18 :: a19 :: some v :: r) H Q := ⟨v, rfl, k⟩
theorem r_g20 {a0 a1 a2 a3 a4 a5 a6 a7 a8 a9 a10 a11 a12 a13 a14 a15 a16 a17 a18 a19 : Option V} {z : Option V} {G : L2.St → Hp → Prop} (k : G (a0 :: a1 :: a2 :: a3 :: a4 :: a5 :: a6 :: a7 :: a8 :: a9 :: a10 :: a11 :: a12 :: a13 :: a14 :: a15 :: a16 :: a17 :: a18 :: a19 :: some v :: r) H) : gName 20 v (a0 :: a1 :: a2 :: a3 :: a4 :: a5 :: a6 :: a7 :: a8 :: a9 :: a10 :: a11 :: a12 :: a13 :: a14 :: a15 :: a16 :: a17 :: a18 :: a19 :: z :: r) H G := k
theorem r_v21 {a0 a1 a2 a3 a4 a5 a6 a7 a8 a9 a10 a11 a12 a13 a14 a15 a16 a17 a18 a19 a20 : Option V} (k : Q v H) : tVar 21 (a0 :: a1 :: a2 :: a3 :: a4 :: a5 :: a6 :: a7 :: a8 :: a9 :: a10 :: a11 :: a12 :: a13 :: a14 :: a15 :: a16 :: a17 :: a18 :: a19 :: a20 :: some v :: r) H Q := ⟨v, rfl, k⟩
theorem r_g21 {a0 a1 a2 a3 a4 a5 a6 a7 a8 a9 a10 a11 a12 a13 a14 a15 a16 a17 a18 a19 a20 : Option V} {z : Option V} {G : L2.St → Hp → Prop} (k : G (a0 :: a1 :: a2 :: a3 :: a4 :: a5 :: a6 :: a7 :: a8 :: a9 :: a10 :: a11 :: a12 :: a13 :: a14 :: a15 :: a16 :: a17 :: a18 :: a19 :: a20 :: some v :: r) H) : gName 21 v (a0 :: a1 :: a2 :: a3 :: a4 :: a5 :: a6 :: a7 :: a8 :: a9 :: a10 :: a11 :: a12 :: a13 :: a14 :: a15 :: a16 :: a17 :: a18 :: a19 :: a20 :: z :: r) H G := k
theorem r_v22 {a0 a1 a2 a3 a4 a5 a6 a7 a8 a9 a10 a11 a12 a13 a14 a15 a16 a17 a18 a19 a20 a21 : Option V} (k : Q v H) : tVar 22 (a0 :: a1 :: a2 :: a3 :: a4 :: a5 :: a6 :: a7 :: a8 :: a9 :: a10 :: a11 :: a12 :: a13 :: a14 :: a15 :: a16 :: a17 :: a18 :: a19 :: a20 :: a21 :: some v :: r) H Q := ⟨v, rfl, k⟩
theorem r_g22 {a0 a1 a2 a3 a4 a5 a6 a7 a8 a9 a10 a11 a12 a13 a14 a15 a16 a17 a18 a19 a20 a21 : Option V} {z : Option V} {G : L2.St → Hp → Prop} (k : G (a0 :: a1 :: a2 :: a3 :: a4 :: a5 :: a6 :: a7 :: a8 :: a9 :: a10 :: a11 :: a12 :: a13 :: a14 :: a15 :: a16 :: a17 :: a18 :: a19 :: a20 :: a21 :: some v :: r) H) : gName 22 v (a0 :: a1 :: a2 :: a3 :: a4 :: a5 :: a6 :: a7 :: a8 :: a9 :: a10 :: a11 :: a12 :: a13 :: a14 :: a15 :: a16 :: a17 :: a18 :: a19 :: a20 :: a21 :: z :: r) H G := k
theorem r_v23 {a0 a1 a2 a3 a4 a5 a6 a7 a8 a9 a10 a11 a12 a13 a14 a15 a16 a17 a18 a19 a20 a21 a22 : Option V} (k : Q v H) : tVar 23 (a0 :: a1 :: a2 :: a3 :: a4 :: a5 :: a6 :: a7 :: a8 :: a9 :: a10 :: a11 :: a12 :: a13 :: a14 :: a15 :: a16 :: a17 :: a18 :: a19 :: a20 :: a21 :: a22 :: some v :: r) H Q := ⟨v, rfl, k⟩
theorem r_g23 {a0 a1 a2 a3 a4 a5 a6 a7 a8 a9 a10 a11 a12 a13 a14 a15 a16 a17 a18 a19 a20 a21 a22 : Option V} {z : Option V} {G : L2.St → Hp → Prop} (k : G (a0 :: a1 :: a2 :: a3 :: a4 :: a5 :: a6 :: a7 :: a8 :: a9 :: a10 :: a11 :: a12 :: a13 :: a14 :: a15 :: a16 :: a17 :: a18 :: a19 :: a20 :: a21 :: a22 :: some v :: r) H) : gName 23 v (a0 :: a1 :: a2 :: a3 :: a4 :: a5 :: a6 :: a7 :: a8 :: a9 :: a10 :: a11 :: a12 :: a13 :: a14 :: a15 :: a16 :: a17 :: a18 :: a19 :: a20 :: a21 :: a22 :: z :: r) H G := k
/-! ## reading: structure -/
theorem r_op {r : R2} {ta tb : TE} (k : ta σ H fun x H1 => tb σ H1 fun y H2 => r x y H2 Q) : tOp r ta tb σ H Q := k
theorem r_un {r : V → Hp → VK → Prop} {ta : TE} (k : ta σ H fun x H1 => r x H1 Q) : tUn r ta σ H Q := k
theorem r_chain {r r' : R2} {ta tb tc : TE} (k : ta σ H fun x H1 => tb σ H1 fun y H2 => r x y H2 fun z H3 => ∃ k, z = .bl k ∧ (if k = true then tc σ H3 fun w' H4 => r' y w' H4 Q else Q (.bl false) H3)) : tChain r r' ta tb tc σ H Q := k
theorem r_nil {Q : List V → Hp → Prop} (k : Q [] H) : tNil σ H Q := k
theorem r_cons {Q : List V → Hp → Prop} {ta : TE} {tr : TA} (k : ta σ H fun x H1 => tr σ H1 fun xs H2 => Q (x :: xs) H2) : tCons ta tr σ H Q := k
theorem r_cB {r : List V → Hp → VK → Prop} {t : TA} (k : t σ H fun vs H1 => r vs H1 Q) : tCB r t σ H Q := k
theorem r_call {sp : Sp} {E : XK} {t : TA} (k : t σ H fun vs H1 => sp vs H1 Q E) : tCall sp [] E t σ H Q := by
  have e : (fun (vs : List V) H1 => sp (vs ++ []) H1 Q E) = fun vs H1 => sp vs H1 Q E := by
    funext vs H1
    rw [List.append_nil]
  show t σ H fun vs H1 => sp (vs ++ []) H1 Q E
  rw [e]
  exact k
theorem r_tup {t : TA} (k : t σ H fun xs H1 => xs.length ≤ sizeLine ∧ ∀ p, H1 p = none → Q (.ref p) (upd H1 p (.tup xs))) : tTup t σ H Q := k
theorem r_lst {t : TA} (k : t σ H fun xs H1 => xs.length ≤ sizeLine ∧ ∀ p, H1 p = none → Q (.ref p) (upd H1 p (.lst xs))) : tLst t σ H Q := k
theorem r_test {t : TE} {Q : Bool → Hp → Prop} (k : t σ H fun x H' => ∃ k, x = .bl k ∧ Q k H') : tTest t σ H Q := k
theorem r_B {t : TE} {Q : Bool → Hp → Prop} (k : t σ H fun x H' => ∃ k, x = .bl k ∧ Q k H') : tB t σ H Q := k
theorem r_bl {b : Bool} {P : Bool → Prop} (k : P b) : ∃ c, V.bl b = .bl c ∧ P c := ⟨b, rfl, k⟩
theorem r_and {t u : TT} {Q : Bool → Hp → Prop} (k : t σ H fun c H1 => if c = true then u σ H1 Q else Q false H1) : tAnd t u σ H Q := k
theorem r_or {t u : TT} {Q : Bool → Hp → Prop} (k : t σ H fun c H1 => if c = true then Q true H1 else u σ H1 Q) : tOr t u σ H Q := k
theorem r_not {t : TT} {Q : Bool → Hp → Prop} (k : t σ H fun c H1 => Q (!c) H1) : tNot t σ H Q := k
theorem r_andV {ta tb : TE} (k : ta σ H fun x H1 => ∃ c, x = .bl c ∧ if c = true then tb σ H1 Q else Q (.bl false) H1) : tAndV ta tb σ H Q := k
theorem r_orV {ta tb : TE} (k : ta σ H fun x H1 => ∃ c, x = .bl c ∧ if c = true then Q (.bl true) H1 else tb σ H1 Q) : tOrV ta tb σ H Q := k
theorem r_notV {ta : TE} (k : ta σ H fun x H1 => ∃ c, x = .bl c ∧ Q (.bl (!c)) H1) : tNotV ta σ H Q := k
theorem r_if {t : TT} {ta tb : TE} (k : t σ H fun c H1 => if c = true then ta σ H1 Q else tb σ H1 Q) : tIf t ta tb σ H Q := k
theorem r_sl {rr : V → Option Int → Option Int → Hp → VK → Prop} {te : TE} {tl th : TO} (k : te σ H fun x H1 => tl σ H1 fun l H2 => th σ H2 fun u H3 => rr x l u H3 Q) : tSl rr te tl th σ H Q := k
theorem r_noP {Q : Option Int → Hp → Prop} (k : Q none H) : tNoPart σ H Q := k
theorem r_part {t : TE} {Q : Option Int → Hp → Prop} (k : t σ H fun x H1 => ∃ i, x = .int i ∧ Q (some i) H1) : tPart t σ H Q := k
theorem r_partI {i : Int} {P : Int → Prop} (k : P i) : ∃ j, V.int i = .int j ∧ P j := ⟨i, rfl, k⟩
theorem r_bm {T : String} {rr : V → List V → Hp → VK → Prop} {to : TE} {t : TA} (k : to σ H fun x H1 => tyV K T x H1 ∧ t σ H1 fun xs H2 => rr x xs H2 Q) : tBM K T rr to t σ H Q := k
theorem r_bm0 {T : String} {rr : V → List V → Hp → VK → Prop} {to : TE} (k : to σ H fun x H1 => tyV K T x H1 ∧ rr x [] H1 Q) : tBM0 K T rr to σ H Q := k
/-! ### statements -/
variable {nn bb cc : L2.St → Hp → Prop} {rr : VK}
theorem r_seq {t u : TS} (k : t ⟨u ⟨nn, rr, bb, cc⟩, rr, bb, cc⟩ σ H) : tSeq t u ⟨nn, rr, bb, cc⟩ σ H := k
theorem r_cut {t u : TS} (Mid : L2.St → Hp → Prop) (k : t ⟨Mid, rr, bb, cc⟩ σ H) (k2 : ∀ σ' H', Mid σ' H' → u ⟨nn, rr, bb, cc⟩ σ' H') : tCut t u ⟨nn, rr, bb, cc⟩ σ H := ⟨Mid, k, k2⟩
theorem r_next (k : nn σ H) : tNext ⟨nn, rr, bb, cc⟩ σ H := k
theorem r_break (k : bb σ H) : tBreak ⟨nn, rr, bb, cc⟩ σ H := k
theorem r_cont (k : cc σ H) : tCont ⟨nn, rr, bb, cc⟩ σ H := k
theorem r_drop {te : TE} (k : te σ H fun _ H1 => nn σ H1) : tDrop te ⟨nn, rr, bb, cc⟩ σ H := k
theorem r_ret {te : TE} (k : te σ H rr) : tRet te ⟨nn, rr, bb, cc⟩ σ H := k
theorem r_retN (k : rr .non H) : tRetN ⟨nn, rr, bb, cc⟩ σ H := k
theorem r_ifS {c : TT} {t u : TS} (k : c σ H fun b H1 => if b = true then t ⟨nn, rr, bb, cc⟩ σ H1 else u ⟨nn, rr, bb, cc⟩ σ H1) : tIfS c t u ⟨nn, rr, bb, cc⟩ σ H := k
theorem r_asg {te : TE} {g : TG} (k : te σ H fun x H1 => g x σ H1 nn) : tAsg te g ⟨nn, rr, bb, cc⟩ σ H := k
def ForW (J : It) (g : TG) (tb : TS) (D : Ends) (σ : L2.St) (H1 : Hp) : Prop := ∃ W : Nat → Nat → L2.St → Hp → Prop, (∃ m, W 0 m σ H1) ∧ ∀ i m σ H, W i m σ H →
  (J.stop i H ∧ D.nx σ H) ∨ (J.go i H ∧ ∃ N : L2.St → Hp → Prop, (∀ σ' H', N σ' H' → ∃ m', m' < m ∧ W (i + 1) m' σ' H') ∧ ∀ x H', J.yld i H x H' → g x σ H' fun σ2 H2 => tb { D with nx := N, ct := N, bk := D.nx } σ2 H2)
theorem r_for {wi : TI} {g : TG} {tb : TS} (k : wi σ H fun J H1 => ForW J g tb ⟨nn, rr, bb, cc⟩ σ H1) : tFor wi g tb ⟨nn, rr, bb, cc⟩ σ H := k
theorem fw_list {a : Addr} {xs : List V} {g : TG} {tb : TS} (Pv : Nat → L2.St → Hp → Prop) (h0 : Pv 0 σ H) (hl : ∀ i σ H, i ≤ xs.length → Pv i σ H → SqL K H a xs)
    (hs : ∀ i x σ H, xs[i]? = some x → Pv i σ H → g x σ H fun σ2 H2 => tb ⟨Pv (i + 1), rr, nn, Pv (i + 1)⟩ σ2 H2) (hd : ∀ σ H, Pv xs.length σ H → nn σ H) : ForW (Itl K a) g tb ⟨nn, rr, bb, cc⟩ σ H := for_list Pv h0 hl hs hd
theorem fw_tup {a : Addr} {xs : List V} {g : TG} {tb : TS} (Pv : Nat → L2.St → Hp → Prop) (h0 : Pv 0 σ H) (hl : ∀ i σ H, i ≤ xs.length → Pv i σ H → SqT K H a xs)
    (hs : ∀ i x σ H, xs[i]? = some x → Pv i σ H → g x σ H fun σ2 H2 => tb ⟨Pv (i + 1), rr, nn, Pv (i + 1)⟩ σ2 H2) (hd : ∀ σ H, Pv xs.length σ H → nn σ H) : ForW (Itt K a) g tb ⟨nn, rr, bb, cc⟩ σ H := for_tup Pv h0 hl hs hd
theorem fw_range {lo : Int} {n : Nat} {g : TG} {tb : TS} (Pv : Nat → L2.St → Hp → Prop) (h0 : Pv 0 σ H)
    (hs : ∀ i σ H, i < n → Pv i σ H → g (.int (lo + i)) σ H fun σ2 H2 => tb ⟨Pv (i + 1), rr, nn, Pv (i + 1)⟩ σ2 H2) (hd : ∀ σ H, Pv n σ H → nn σ H) : ForW (Itr lo n) g tb ⟨nn, rr, bb, cc⟩ σ H := for_range Pv h0 hs hd
theorem r_iList {tl : TE} {R : It → Hp → Prop} (k : tl σ H fun x H1 => ∃ a, x = .ref a ∧ (∃ xs, SqL K H1 a xs) ∧ R (Itl K a) H1) : iList K tl σ H R := k
theorem r_iRng1 {ta : TA} {R : It → Hp → Prop} (k : ta σ H fun vs H1 => ∃ j : Int, vs = [.int j] ∧ -(2 ^ 62) ≤ j ∧ j < 2 ^ 62 ∧ R (Itr 0 j.toNat) H1) : iRng1 ta σ H R := k
theorem r_iRng2 {ta : TA} {R : It → Hp → Prop} (k : ta σ H fun vs H1 => ∃ i j : Int, vs = [.int i, .int j] ∧ (-(2 ^ 62) ≤ i ∧ i < 2 ^ 62 ∧ -(2 ^ 62) ≤ j ∧ j < 2 ^ 62) ∧ R (Itr i (j - i).toNat) H1) : iRng2 ta σ H R := k
/-! ### targets -/
variable {G : L2.St → Hp → Prop} {x : V}
theorem r_gTup {n : Nat} {t : TGs} {a : Addr} {xs : List V} (h : SqT K H a xs) (hl : xs.length = n) (k : t xs σ H G) : gTup K n t (.ref a) σ H G := ⟨a, xs, rfl, h, hl, k⟩
theorem r_gCons {t : TG} {u : TGs} {xs : List V} (k : t x σ H fun σ' H' => u xs σ' H' G) : gCons t u (x :: xs) σ H G := ⟨x, xs, rfl, k⟩
theorem r_gNil (k : G σ H) : gNil [] σ H G := ⟨rfl, k⟩
theorem r_gSub {to ti : TE} {t : TSet} (k : to σ H fun o H1 => ti σ H1 fun i H2 => t o i x H2 fun H3 => G σ H3) : gSub to ti t x σ H G := k
theorem r_setL {p : Addr} {xs : List V} {i : Int} {j : Nat} {G : Hp → Prop} (h : H p = some (.lst xs)) (e : ixN xs.length i = some j) (k : G (upd H p (.lst (xs.set j x)))) : rSetL (.ref p) (.int i) x H G := ⟨p, xs, i, j, rfl, rfl, h, e, k⟩
/-! ### values -/
theorem r_I0 {g : Int → Int → V} {i j : Int} (k : Q (g i j) H) : rI0 g (.int i) (.int j) H Q := ⟨i, j, rfl, rfl, k⟩
theorem r_I {C : Int → Int → Prop} {g : Int → Int → V} {i j : Int} (c : C i j) (k : Q (g i j) H) : rI C g (.int i) (.int j) H Q := ⟨i, j, rfl, rfl, c, k⟩
theorem r_U {g : Int → V} {i : Int} (k : Q (g i) H) : rU g (.int i) H Q := ⟨i, rfl, k⟩
theorem r_addI {i j : Int} (k : Q (.int (i + j)) H) : rAddA K (.int i) (.int j) H Q := .inl ⟨i, j, rfl, rfl, k⟩
theorem r_addL {l b : Addr} {xs zs : List V} (h1 : H l = some (.lst xs)) (h2 : H b = some (.lst zs)) (hl : xs.length + zs.length ≤ sizeLine) (k : ∀ p, H p = none → Q (.ref p) (upd H p (.lst (xs ++ zs)))) : rAddA K (.ref l) (.ref b) H Q := .inr (.inr (.inl ⟨l, b, xs, zs, rfl, rfl, h1, h2, hl, k⟩))
theorem r_eqI {i j : Int} (k : Q (.bl (decide (i = j))) H) : rEqA K (.int i) (.int j) H Q := .inl ⟨rfl, by
  have e : decide (V.int i = V.int j) = decide (i = j) := by by_cases h : i = j <;> simp [h]
  rw [e]
  exact k⟩
theorem r_neI {i j : Int} (k : Q (.bl (!decide (i = j))) H) : rNeA K (.int i) (.int j) H Q := .inl ⟨rfl, by
  have e : decide (V.int i = V.int j) = decide (i = j) := by by_cases h : i = j <;> simp [h]
  rw [e]
  exact k⟩
theorem r_eqB {i j : Bool} (k : Q (.bl (decide (i = j))) H) : rEqA K (.bl i) (.bl j) H Q := .inl ⟨rfl, by
  have e : decide (V.bl i = V.bl j) = decide (i = j) := by by_cases h : i = j <;> simp [h]
  rw [e]
  exact k⟩
theorem r_neB {i j : Bool} (k : Q (.bl (!decide (i = j))) H) : rNeA K (.bl i) (.bl j) H Q := .inl ⟨rfl, by
  have e : decide (V.bl i = V.bl j) = decide (i = j) := by by_cases h : i = j <;> simp [h]
  rw [e]
  exact k⟩
theorem r_ix {p : Addr} {xs : List V} {i : Int} {v : V} (h : SqL K H p xs ∨ SqT K H p xs) (e : atI xs i = some v) (k : Q v H) : rIx K (.ref p) (.int i) H Q := by
  rcases h with h | h
  · exact .inl ⟨p, xs, i, v, rfl, rfl, h, e, k⟩
  · exact .inr (.inl ⟨p, xs, i, v, rfl, rfl, h, e, k⟩)
theorem r_lenS {p : Addr} {ys : List V} (h : SqL K H p ys ∨ SqT K H p ys) (k : ys.length ≤ 16777216 → Q (.int ys.length) H) : rLen K [.ref p] H Q := .inl ⟨p, ys, rfl, h, k⟩
theorem r_max2 {i j : Int} (k : Q (.int (max i j)) H) : rMaxA K [.int i, .int j] H Q := .inl ⟨i, j, rfl, by
  have e : (if j > i then j else i) = max i j := by rw [Int.max_def]; split <;> split <;> omega
  rw [e]
  exact k⟩
theorem r_min2 {i j : Int} (k : Q (.int (min i j)) H) : rMinA K [.int i, .int j] H Q := .inl ⟨i, j, rfl, by
  have e : (if j < i then j else i) = min i j := by rw [Int.min_def]; split <;> split <;> omega
  rw [e]
  exact k⟩
theorem r_maxL {p : Addr} {ns : List Int} (h : SqL K H p (ns.map V.int)) (h0 : 0 < ns.length) (k : ∀ m, m ∈ ns → (∀ y, y ∈ ns → y ≤ m) → Q (.int m) H) : rMaxA K [.ref p] H Q := .inr ⟨p, ns, rfl, h, h0, k⟩
theorem r_minL {p : Addr} {ns : List Int} (h : SqL K H p (ns.map V.int)) (h0 : 0 < ns.length) (k : ∀ m, m ∈ ns → (∀ y, y ∈ ns → m ≤ y) → Q (.int m) H) : rMinA K [.ref p] H Q := .inr ⟨p, ns, rfl, h, h0, k⟩
theorem r_abs {i : Int} (k : Q (.int i.natAbs) H) : rAbs [.int i] H Q := ⟨i, rfl, by
  have e : (if i < 0 then -i else i) = (i.natAbs : Int) := by split <;> omega
  rw [e]
  exact k⟩
theorem r_intI {i : Int} (k : Q (.int i) H) : rInt1 [.int i] H Q := .inl ⟨i, rfl, k⟩
theorem r_intB {b : Bool} (k : Q (.int (if b then 1 else 0)) H) : rInt1 [.bl b] H Q := .inr ⟨b, rfl, k⟩
theorem r_listOf {p : Addr} {ys : List V} (h : SqL K H p ys ∨ SqT K H p ys) (k : ∀ l, H l = none → Q (.ref l) (upd H l (.lst ys))) : rListOf K [.ref p] H Q := ⟨p, ys, rfl, h, k⟩
theorem r_tupT {p : Addr} {ys : List V} (h : SqT K H p ys) (k : Q (.ref p) H) : rTupOf K [.ref p] H Q := ⟨p, ys, rfl, .inr ⟨h, k⟩⟩
theorem r_tupL {p : Addr} {ys : List V} (h : SqL K H p ys) (k : ∀ l, H l = none → Q (.ref l) (upd H l (.tup ys))) : rTupOf K [.ref p] H Q := ⟨p, ys, rfl, .inl ⟨h, k⟩⟩
theorem r_slL {p : Addr} {xs : List V} {lo hi : Option Int} (h : SqL K H p xs) (k : ∀ l, H l = none → Q (.ref l) (upd H l (.lst (cutV xs lo hi)))) : rSlAll K (.ref p) lo hi H Q := .inl ⟨p, xs, rfl, h, k⟩
theorem r_app {l : Addr} {xs : List V} {y : V} (h : H l = some (.lst xs)) (hz : xs.length < sizeLine) (k : Q .non (upd H l (.lst (xs ++ [y])))) : rAppend (.ref l) [y] H Q := ⟨l, xs, y, rfl, rfl, h, hz, k⟩
theorem r_tyL {p : Addr} {xs : List V} (h : H p = some (.lst xs)) : tyV K "list" (.ref p) H := .inl ⟨rfl, _, SqL.of h⟩
theorem r_eqD {x y : V} {d : PyData} (h1 : Dp K H x d) (h2 : Dp K H y d) (hs : SeqAt.shaped d = true) (k : Q (.bl true) H) : rEqA K x y H Q := .inr ⟨d, d, h1, h2, hs, hs, by
  rw [SeqAt.eqv_refl d (SeqAt.canLay_of_shaped hs)]
  exact k⟩
theorem r_neD {x y : V} {d : PyData} (h1 : Dp K H x d) (h2 : Dp K H y d) (hs : SeqAt.shaped d = true) (k : Q (.bl false) H) : rNeA K x y H Q := .inr ⟨d, d, h1, h2, hs, hs, by
  rw [SeqAt.eqv_refl d (SeqAt.canLay_of_shaped hs)]
  exact k⟩
end
/-! ## tests -/
theorem iteD {c A B : Prop} [Decidable c] (h1 : c → A) (h2 : ¬ c → B) : if decide c = true then A else B := by
  by_cases h : c
  · rw [if_pos (decide_eq_true h)]
    exact h1 h
  · rw [if_neg (by simpa using h)]
    exact h2 h
theorem iteN {c A B : Prop} [Decidable c] (h1 : ¬ c → A) (h2 : c → B) : if (!decide c) = true then A else B := by
  by_cases h : c
  · rw [if_neg (by simpa using h)]
    exact h2 h
  · rw [if_pos (by simpa using h)]
    exact h1 h
theorem iteDT {c A B : Prop} [Decidable c] (hc : c) (h1 : A) : if decide c = true then A else B := iteD (fun _ => h1) fun h => absurd hc h
theorem iteDF {c A B : Prop} [Decidable c] (hc : ¬ c) (h1 : B) : if decide c = true then A else B := iteD (fun h => absurd h hc) fun _ => h1
theorem iteNT {c A B : Prop} [Decidable c] (hc : ¬ c) (h1 : A) : if (!decide c) = true then A else B := iteN (fun _ => h1) fun h => absurd h hc
theorem iteNF {c A B : Prop} [Decidable c] (hc : c) (h1 : B) : if (!decide c) = true then A else B := iteN (fun h => absurd hc h) fun _ => h1
/-! ## heaps -/
section
variable {H H' H1 H2 : Hp}
theorem at_new {p g : Addr} {o u : HO} (np : H p = none) (h : H g = some o) : upd H p u g = some o := by
  rw [upd_ne (ne_of_none h np)]
  exact h
theorem at_wr {p g : Addr} {o u : HO} (hne : g ≠ p) (h : H g = some o) : upd H p u g = some o := by
  rw [upd_ne hne]
  exact h
theorem same_new {p : Addr} {u : HO} (np : H p = none) : Same H (upd H p u) := fun _ _ h => at_new np h
end
/-! ## frames: all stays but the place of the draws -/
/-- not the list that the draws turn -/
def NotSt (o : HO) : Prop := ∀ (a : Addr) (i m r : Int), o ≠ .lst [.ref a, .int i, .int m, .int r]
theorem nst_tup {xs : List V} : NotSt (.tup xs) := fun _ _ _ _ h => nomatch h
theorem nst_frz {o : Obj} {u : HO} : NotSt (.frz o u) := fun _ _ _ _ h => nomatch h
theorem nst_ins {C dx : Addr} {fs : List (Str × V)} : NotSt (.ins C dx fs) := fun _ _ _ _ h => nomatch h
theorem nst_own {x : Addr} : NotSt (.own x) := fun _ _ _ _ h => nomatch h
theorem nst_nil : NotSt (.lst []) := fun _ _ _ _ h => by cases h
theorem nst_int {i : Int} {r : List V} : NotSt (.lst (.int i :: r)) := fun _ _ _ _ h => by cases h
theorem nst_cons {a b : Addr} {r : List V} : NotSt (.lst (.ref a :: .ref b :: r)) := fun _ _ _ _ h => by cases h
theorem nst_ints {ns : List Int} : NotSt (.lst (ns.map V.int)) := fun _ _ _ _ h => by
  cases ns with
  | nil => cases h
  | cons a r => cases h
theorem nst_refs {as : List Addr} : NotSt (.lst (as.map V.ref)) := fun _ _ _ _ h => by
  match as, h with
  | [], h => cases h
  | [_], h => cases h
  | _ :: _ :: _, h => cases h
def Fr (H H' : Hp) : Prop := ∀ b o, H b = some o → NotSt o → H' b = some o
section
variable {K : PySem.W.Frag} {H H' H1 H2 : Hp}
theorem Fr.refl (H : Hp) : Fr H H := fun _ _ h _ => h
theorem Fr.trans (a : Fr H H1) (b : Fr H1 H2) : Fr H H2 := fun c o h n => b c o (a c o h n) n
theorem Fr.same (a : Fr H H1) (b : Same H1 H2) : Fr H H2 := fun c o h n => b c o (a c o h n)
theorem Fr.of (a : Same H H1) : Fr H H1 := fun c o h _ => a c o h
theorem fr_at {g : Addr} {o : HO} (R : Fr H H') (h : H g = some o) (n : NotSt o) : H' g = some o := R g o h n
theorem same_at {g : Addr} {o : HO} (R : Same H H') (h : H g = some o) : H' g = some o := R g o h
theorem same_sq {a : Addr} {xs : List V} (R : Same H H') (h : SqL K H a xs) : SqL K H' a xs := R.seq h
theorem fr_sq {a : Addr} {ns : List Int} (R : Fr H H') (h : SqL K H a (ns.map V.int)) : SqL K H' a (ns.map V.int) := by
  rcases h with (h | ⟨o, h⟩) | h
  · exact .inl (.inl (R _ _ h nst_ints))
  · exact .inl (.inr ⟨o, R _ _ h nst_frz⟩)
  · exact .inr h
theorem sq_new {p a : Addr} {u : HO} {xs : List V} (np : H p = none) (h : SqL K H a xs) : SqL K (upd H p u) a xs := (same_new np).seq h
theorem fr_new {p : Addr} {u : HO} (np : H1 p = none) (h : Fr H H1) : Fr H (upd H1 p u) := fun b o e n => at_new np (h b o e n)
theorem sm_new {p : Addr} {u : HO} (np : H1 p = none) (h : Same H H1) : Same H (upd H1 p u) := fun b o e => at_new np (h b o e)
theorem Same.free {p : Addr} (h : Same H H1) (n : H1 p = none) : H p = none := by
  cases e : H p with
  | none => rfl
  | some o => rw [h p o e] at n; cases n
theorem r_pow {Q : VK} {i j : Int} (c : 0 ≤ j ∧ j ≤ 1000000 ∧ i.natAbs < 2 ^ 64) (k : Q (.int (i ^ j.toNat)) H) : rI CPow (fun i j => .int (i ^ j.toNat)) (.int i) (.int j) H Q := ⟨i, j, rfl, rfl, c, k⟩
theorem r_dec {Q : VK} {p : Prop} [Decidable p] {a : Hp} (k : Q (.bl (decide p)) a) : Q (.bl (decide p)) a := k
end
theorem map_at {α : Type} {f : α → V} {l : List α} {i : Nat} {y : V} (h : (l.map f)[i]? = some y) : ∃ z, l[i]? = some z ∧ y = f z := by
  rw [List.getElem?_map] at h
  cases e : l[i]? with
  | none => rw [e] at h; cases h
  | some z => rw [e] at h; exact ⟨z, rfl, (Option.some.inj h).symm⟩
theorem r_start {T : L2.St → Hp → Prop} {σ σ' : L2.St} {H : Hp} (e : σ = σ') (k : T σ' H) : T σ H := e ▸ k
theorem len_ok {n : Nat} (h : Nat.ble n 1000 = true) : n ≤ sizeLine := Nat.le_of_lt (small1000 (Nat.le_of_ble_eq_true h))
theorem r_lay {xs : List V} {R : Prop} (h : xs.length ≤ sizeLine) (k : R) : xs.length ≤ sizeLine ∧ R := ⟨h, k⟩
theorem r_setA {H : Hp} {p : Addr} {xs ys : List V} {i : Int} {j : Nat} {x : V} {G : Hp → Prop} (h : H p = some (.lst xs)) (e : ixN xs.length i = some j) (hy : xs.set j x = ys) (k : ∀ H', H' p = some (.lst ys) → (∀ b o, b ≠ p → H b = some o → H' b = some o) → G H') : rSetL (.ref p) (.int i) x H G :=
  r_setL h e (by rw [hy]; exact k _ upd_same fun b o n q => at_wr n q)
theorem r_appA {H : Hp} {Q : VK} {l : Addr} {xs : List V} {y : V} (h : H l = some (.lst xs)) (hz : xs.length < sizeLine) (k : ∀ H', H' l = some (.lst (xs ++ [y])) → (∀ b o, b ≠ l → H b = some o → H' b = some o) → Q .non H') : rAppend (.ref l) [y] H Q :=
  r_app h hz (k _ upd_same fun b o n q => at_wr n q)
theorem pickI {v : Int} (ns : List Int) (h0 : 0 ≤ v) (h1 : v < ns.length) : ∃ w, atI (ns.map V.int) v = some (.int w) ∧ w ∈ ns := by
  have h : v.toNat < ns.length := by omega
  exact ⟨ns[v.toNat], at_of (j := v.toNat) (by omega) (by rw [List.getElem?_map, List.getElem?_eq_getElem h]; rfl), List.getElem_mem h⟩
theorem pickN {v : Int} {n : Nat} (ns : List Int) (h0 : 0 ≤ v) (h1 : v < n) (h2 : n ≤ ns.length) : ∃ w, atI (ns.map V.int) v = some (.int w) ∧ w ∈ ns.take n := by
  have h : v.toNat < ns.length := by omega
  refine ⟨ns[v.toNat], at_of (j := v.toNat) (by omega) (by rw [List.getElem?_map, List.getElem?_eq_getElem h]; rfl), ?_⟩
  have h3 : v.toNat < (ns.take n).length := by rw [List.length_take]; omega
  have e : (ns.take n)[v.toNat] = ns[v.toNat] := List.getElem_take
  rw [← e]
  exact List.getElem_mem h3
theorem pick2 {v : Int} (a b : Int) (h0 : 0 ≤ v) (h1 : v < 2) : ∃ w, atI [V.int a, V.int b] v = some (.int w) ∧ (v = 0 ∧ w = a ∨ v = 1 ∧ w = b) := by
  have : v = 0 ∨ v = 1 := by omega
  rcases this with rfl | rfl
  · exact ⟨a, rfl, .inl ⟨rfl, rfl⟩⟩
  · exact ⟨b, rfl, .inr ⟨rfl, rfl⟩⟩
theorem pick3 {v : Int} (a b c : Int) (h0 : 0 ≤ v) (h1 : v < 3) : ∃ w, atI [V.int a, V.int b, V.int c] v = some (.int w) ∧ (v = 0 ∧ w = a ∨ v = 1 ∧ w = b ∨ v = 2 ∧ w = c) := by
  have : v = 0 ∨ v = 1 ∨ v = 2 := by omega
  rcases this with rfl | rfl | rfl
  · exact ⟨a, rfl, .inl ⟨rfl, rfl⟩⟩
  · exact ⟨b, rfl, .inr (.inl ⟨rfl, rfl⟩)⟩
  · exact ⟨c, rfl, .inr (.inr ⟨rfl, rfl⟩)⟩
theorem pick4 {v : Int} (a b c d : Int) (h0 : 0 ≤ v) (h1 : v < 4) : ∃ w, atI [V.int a, V.int b, V.int c, V.int d] v = some (.int w) ∧ (v = 0 ∧ w = a ∨ v = 1 ∧ w = b ∨ v = 2 ∧ w = c ∨ v = 3 ∧ w = d) := by
  have : v = 0 ∨ v = 1 ∨ v = 2 ∨ v = 3 := by omega
  rcases this with rfl | rfl | rfl | rfl
  · exact ⟨a, rfl, .inl ⟨rfl, rfl⟩⟩
  · exact ⟨b, rfl, .inr (.inl ⟨rfl, rfl⟩)⟩
  · exact ⟨c, rfl, .inr (.inr (.inl ⟨rfl, rfl⟩))⟩
  · exact ⟨d, rfl, .inr (.inr (.inr ⟨rfl, rfl⟩))⟩
theorem at_neg1 {xs : List V} {n : Nat} {v : V} (hl : xs.length = n + 1) (h : xs[n]? = some v) : atI xs (-1) = some v := by
  have e : ixN xs.length (-1) = some n := by
    unfold ixN
    rw [hl, if_neg (by decide), if_pos (by omega)]
    have : (-1 + ((n + 1 : Nat) : Int)).toNat = n := by omega
    rw [this]
  unfold atI
  rw [e]
  exact h
/-! ## comprehensions -/
def LcW (J : It) (g : TG) (tt : TT) (te : TE) (vs : List Nat) (σ : L2.St) (Q : VK) (D : Addr) (H1 : Hp) : Prop := ∃ W : Nat → Nat → Hp → Prop, (∃ m, W 0 m (upd H1 D (.lst []))) ∧ ∀ i m H, W i m H →
  (J.stop i H ∧ Q (.ref D) H) ∨ (J.go i H ∧ ∃ Nx : Hp → Prop, (∀ H', Nx H' → ∃ m', m' < m ∧ W (i + 1) m' H') ∧ ∀ x H', J.yld i H x H' → g x (wipe σ vs) H' fun σ2 H2 => wipe σ2 vs = wipe σ vs ∧ tt σ2 H2 fun b H3 =>
    if b = true then te σ2 H3 fun y H4 => ∃ acc, H4 D = some (.lst acc) ∧ acc.length < sizeLine ∧ Nx (upd H4 D (.lst (acc ++ [y]))) else Nx H3)
theorem r_lc {wi : TI} {g : TG} {tt : TT} {te : TE} {vs : List Nat} {σ : L2.St} {H : Hp} {Q : VK} (k : wi σ H fun J H1 => ∀ D, H1 D = none → LcW J g tt te vs σ Q D H1) : tLc wi g tt te vs σ H Q := k
theorem r_tYes {σ : L2.St} {H : Hp} {Q : Bool → Hp → Prop} (k : Q true H) : tYes σ H Q := k
section
variable {g : TG} {tt : TT} {te : TE} {vs : List Nat} {σ σw : L2.St} {Q : VK} {D : Addr} {H1 : Hp}
theorem lcw_range {lo : Int} {n : Nat} (Pv : Nat → Hp → Prop) (hw : wipe σ vs = σw) (h0 : Pv 0 (upd H1 D (.lst [])))
    (hs : ∀ i H, i < n → Pv i H → g (.int (lo + i)) σw H fun σ2 H2 => wipe σ2 vs = σw ∧ tt σ2 H2 fun b H3 =>
      if b = true then te σ2 H3 fun y H4 => ∃ acc, H4 D = some (.lst acc) ∧ acc.length < sizeLine ∧ Pv (i + 1) (upd H4 D (.lst (acc ++ [y]))) else Pv (i + 1) H3) (hd : ∀ H, Pv n H → Q (.ref D) H) : LcW (Itr lo n) g tt te vs σ Q D H1 := by
  subst hw
  exact lc_range Pv h0 hs hd
theorem lcw_list {K : PySem.W.Frag} {a : Addr} {xs : List V} (Pv : Nat → Hp → Prop) (hw : wipe σ vs = σw) (h0 : Pv 0 (upd H1 D (.lst []))) (hl : ∀ i H, i ≤ xs.length → Pv i H → SqL K H a xs)
    (hs : ∀ i x H, xs[i]? = some x → Pv i H → g x σw H fun σ2 H2 => wipe σ2 vs = σw ∧ tt σ2 H2 fun b H3 =>
      if b = true then te σ2 H3 fun y H4 => ∃ acc, H4 D = some (.lst acc) ∧ acc.length < sizeLine ∧ Pv (i + 1) (upd H4 D (.lst (acc ++ [y]))) else Pv (i + 1) H3) (hd : ∀ H, Pv xs.length H → Q (.ref D) H) : LcW (Itl K a) g tt te vs σ Q D H1 := by
  subst hw
  exact lc_list Pv h0 hl hs hd
end
/-- what the tail of a comprehension's turn asks, the heap behind it a letter -/
theorem lc_put {D : Addr} {acc : List V} {y : V} {H4 : Hp} {Nx : Hp → Prop} (h : H4 D = some (.lst acc)) (hz : acc.length < sizeLine) (k : ∀ H5, H5 D = some (.lst (acc ++ [y])) → (∀ b o, b ≠ D → H4 b = some o → H5 b = some o) → Nx H5) :
    ∃ acc, H4 D = some (.lst acc) ∧ acc.length < sizeLine ∧ Nx (upd H4 D (.lst (acc ++ [y]))) := ⟨acc, h, hz, k _ upd_same fun b o n q => at_wr n q⟩
/-! ## data in the heap -/
mutual
inductive Is (H : Hp) : V → PyData → Prop
  | non : Is H .non .none
  | bl (b : Bool) : Is H (.bl b) (.bool b)
  | int (i : Int) : Is H (.int i) (.int i)
  | str (x : Str) : Is H (.str x) (.str x)
  | lst {a : Addr} {xs : List V} {ds : List PyData} : H a = some (.lst xs) → IsAll H xs ds → Is H (.ref a) (.list ds)
  | tup {a : Addr} {xs : List V} {ds : List PyData} : H a = some (.tup xs) → IsAll H xs ds → Is H (.ref a) (.tuple ds)
inductive IsAll (H : Hp) : List V → List PyData → Prop
  | nil : IsAll H [] []
  | cons {v : V} {vs : List V} {d : PyData} {ds : List PyData} : Is H v d → IsAll H vs ds → IsAll H (v :: vs) (d :: ds)
end
mutual
theorem Is.dp {K : PySem.W.Frag} {H : Hp} : ∀ (d : PyData) (v : V), Is H v d → Dp K H v d
  | .none, _, h => by cases h; exact .non
  | .bool b, _, h => by cases h; exact .bl b
  | .int i, _, h => by cases h; exact .int i
  | .str x, _, h => by cases h; exact .str x
  | .list ds, _, h => by
    cases h with
    | lst a b => exact .lst (SqL.of a) (IsAll.dp ds _ b)
  | .tuple ds, _, h => by
    cases h with
    | tup a b => exact .tup (SqT.of a) (IsAll.dp ds _ b)
  | .dict _, _, h => by cases h
theorem IsAll.dp {K : PySem.W.Frag} {H : Hp} : ∀ (ds : List PyData) (vs : List V), IsAll H vs ds → DpAll K H vs ds
  | [], _, h => by cases h; exact .nil
  | d :: ds, _, h => by
    cases h with
    | cons a b => exact .cons (Is.dp d _ a) (IsAll.dp ds _ b)
end
mutual
theorem Is.mono {H H' : Hp} (R : Same H H') : ∀ (d : PyData) (v : V), Is H v d → Is H' v d
  | .none, _, h => by cases h; exact .non
  | .bool b, _, h => by cases h; exact .bl b
  | .int i, _, h => by cases h; exact .int i
  | .str x, _, h => by cases h; exact .str x
  | .list ds, _, h => by
    cases h with
    | lst a b => exact .lst (R _ _ a) (IsAll.mono R ds _ b)
  | .tuple ds, _, h => by
    cases h with
    | tup a b => exact .tup (R _ _ a) (IsAll.mono R ds _ b)
  | .dict _, _, h => by cases h
theorem IsAll.mono {H H' : Hp} (R : Same H H') : ∀ (ds : List PyData) (vs : List V), IsAll H vs ds → IsAll H' vs ds
  | [], _, h => by cases h; exact .nil
  | d :: ds, _, h => by
    cases h with
    | cons a b => exact .cons (Is.mono R d _ a) (IsAll.mono R ds _ b)
end
theorem IsAll.len {H : Hp} : ∀ {ds : List PyData} {vs : List V}, IsAll H vs ds → vs.length = ds.length
  | [], _, h => by cases h; rfl
  | d :: ds, _, h => by
    cases h with
    | cons a b =>
      show _ + 1 = _ + 1
      rw [IsAll.len b]
theorem IsAll.get {H : Hp} : ∀ {ds : List PyData} {vs : List V} {i : Nat}, IsAll H vs ds → i < ds.length → ∃ v d, vs[i]? = some v ∧ ds[i]? = some d ∧ Is H v d
  | [], _, _, _, h2 => by simp at h2
  | d :: ds, _, 0, h, _ => by
    cases h with
    | cons a b => exact ⟨_, d, rfl, rfl, a⟩
  | d :: ds, _, i + 1, h, h2 => by
    cases h with
    | cons a b =>
      obtain ⟨v, e, h1, h3, h4⟩ := IsAll.get (i := i) b (by simpa using h2)
      exact ⟨v, e, by simpa using h1, by simpa using h3, h4⟩
theorem IsAll.snoc {H : Hp} {v : V} {d : PyData} (h2 : Is H v d) : ∀ {ds : List PyData} {vs : List V}, IsAll H vs ds → IsAll H (vs ++ [v]) (ds ++ [d])
  | [], _, h => by cases h; exact .cons h2 .nil
  | e :: ds, _, h => by
    cases h with
    | cons a b => exact .cons a (IsAll.snoc h2 b)
theorem IsAll.ints {H : Hp} : ∀ ns : List Int, IsAll H (ns.map V.int) (ns.map PyData.int)
  | [] => .nil
  | n :: r => .cons (.int n) (IsAll.ints r)
/-- a pair of ints as data -/
def dPair (x : Int × Int) : PyData := .tuple [.int x.1, .int x.2]
theorem Is.pair {H : Hp} {a : Addr} {x : Int × Int} (h : H a = some (.tup [.int x.1, .int x.2])) : Is H (.ref a) (dPair x) := .tup h (.cons (.int _) (.cons (.int _) .nil))
def dInts (ns : List Int) : PyData := .list (ns.map PyData.int)
theorem Is.ints {H : Hp} {a : Addr} {ns : List Int} (h : H a = some (.lst (ns.map V.int))) : Is H (.ref a) (dInts ns) := .lst h (.ints ns)
/-- flat enough, and without dicts -/
def Fl (n : Nat) (d : PyData) : Prop := d.canLay0 = true ∧ d.depth ≤ n
theorem Fl.shaped {n : Nat} {d : PyData} (h : Fl n d) (hn : n ≤ 64) : SeqAt.shaped d = true := by
  unfold SeqAt.shaped
  rw [h.1]
  exact decide_eq_true (Nat.le_trans h.2 hn)
theorem fl_all {n : Nat} : ∀ {ds : List PyData}, (∀ d ∈ ds, Fl n d) → PyData.canLayAll0 ds = true ∧ PyData.depthAll ds ≤ n
  | [], _ => ⟨rfl, Nat.zero_le _⟩
  | d :: ds, h => by
    obtain ⟨a, b⟩ := fl_all (ds := ds) fun e he => h e (List.mem_cons_of_mem _ he)
    obtain ⟨c, e⟩ := h d List.mem_cons_self
    refine ⟨?_, ?_⟩
    · rw [PyData.canLayAll0, c, a]
      rfl
    · rw [PyData.depthAll]
      omega
theorem Fl.list {n : Nat} {ds : List PyData} (h : ∀ d ∈ ds, Fl n d) : Fl (n + 1) (.list ds) := by
  obtain ⟨a, b⟩ := fl_all h
  exact ⟨by rw [PyData.canLay0]; exact a, by rw [PyData.depth]; omega⟩
theorem Fl.tuple {n : Nat} {ds : List PyData} (h : ∀ d ∈ ds, Fl n d) : Fl (n + 1) (.tuple ds) := by
  obtain ⟨a, b⟩ := fl_all h
  exact ⟨by rw [PyData.canLay0]; exact a, by rw [PyData.depth]; omega⟩
theorem Fl.int (n : Nat) (i : Int) : Fl n (.int i) := ⟨by rw [PyData.canLay0], by rw [PyData.depth]; omega⟩
theorem Fl.bl (n : Nat) (i : Bool) : Fl n (.bool i) := ⟨by rw [PyData.canLay0], by rw [PyData.depth]; omega⟩
theorem Fl.non (n : Nat) : Fl n .none := ⟨by rw [PyData.canLay0], by rw [PyData.depth]; omega⟩
theorem Fl.pair (n : Nat) (x : Int × Int) : Fl (n + 1) (dPair x) := Fl.tuple fun d h => by
  simp at h
  rcases h with rfl | rfl <;> exact Fl.int _ _
theorem Fl.ints (n : Nat) (ns : List Int) : Fl (n + 1) (dInts ns) := Fl.list fun d h => by
  obtain ⟨i, _, rfl⟩ := List.mem_map.mp h
  exact Fl.int _ _
theorem Fl.pairs (n : Nat) (xs : List (Int × Int)) : Fl (n + 2) (.list (xs.map dPair)) := Fl.list fun d h => by
  obtain ⟨i, _, rfl⟩ := List.mem_map.mp h
  exact Fl.pair _ _
theorem Fl.mono {n m : Nat} {d : PyData} (h : Fl n d) (k : n ≤ m) : Fl m d := ⟨h.1, Nat.le_trans h.2 k⟩
theorem r_eqIs {K : PySem.W.Frag} {H : Hp} {Q : VK} {x y : V} {d : PyData} {n : Nat} (h1 : Is H x d) (h2 : Is H y d) (f : Fl n d) (k : Q (.bl true) H) (hn : n ≤ 64 := by decide) : rEqA K x y H Q := r_eqD (Is.dp d x h1) (Is.dp d y h2) (f.shaped hn) k
theorem r_neIs {K : PySem.W.Frag} {H : Hp} {Q : VK} {x y : V} {d : PyData} {n : Nat} (h1 : Is H x d) (h2 : Is H y d) (f : Fl n d) (k : Q (.bl false) H) (hn : n ≤ 64 := by decide) : rNeA K x y H Q := r_neD (Is.dp d x h1) (Is.dp d y h2) (f.shaped hn) k
/-! ## isinstance -/
def rIsiA (K : PySem.W.Frag) : List V → Hp → VK → Prop := fun xs H Q => rIsi K xs H Q ∨ rIsiT K xs H Q
/-- the class of a datum -/
def tyD : PyData → String
  | .none => "NoneType"
  | .bool _ => "bool"
  | .int _ => "int"
  | .str _ => "str"
  | .list _ => "list"
  | .tuple _ => "tuple"
  | .dict _ => "dict"
theorem Is.ty {K : PySem.W.Frag} {H : Hp} {v : V} {d : PyData} (h : Is H v d) : TyX K H v (.type (tyD d)) := by
  cases h with
  | non => exact .base .non
  | bl b => exact .base (.bl b)
  | int i => exact .base (.int i)
  | str x => exact .base (.str x)
  | lst a b => exact .base (.lst a)
  | tup a b => exact .base (.tup a)
theorem r_isi {K : PySem.W.Frag} {H : Hp} {Q : VK} {v : V} {T c : String} {b : Bool} (ty : TyX K H v (.type T)) (e : kitB T c = some b) (k : Q (.bl b) H) : rIsiA K [v, .ty c] H Q := .inl ⟨v, .ty c, .type T, .type c, b, rfl, .ty c, ty, kit_ty e, k⟩
theorem r_isi2 {K : PySem.W.Frag} {H : Hp} {Q : VK} {v : V} {t : Addr} {T c1 c2 : String} {b1 b2 : Bool} (ht : H t = some (.tup [.ty c1, .ty c2])) (ty : TyX K H v (.type T)) (e1 : kitB T c1 = some b1) (e2 : kitB T c2 = some b2) (k : Q (.bl (b1 || b2)) H) : rIsiA K [v, .ref t] H Q := by
  refine .inr ⟨v, t, [.ty c1, .ty c2], .type T, [.type c1, .type c2], b1 || b2, rfl, ht, .cons (.ty c1) (.cons (.ty c2) .nil), ty, ?_, k⟩
  refine kitAny_cons (kit_ty e1) (r := b1 || b2) (fun h => ?_) fun h => by rw [h]; rfl
  subst h
  refine kitAny_cons (kit_ty e2) (r := false || b2) (fun h => ?_) fun h => by rw [h]; rfl
  subst h
  exact kitAny_nil
theorem kcc_isi {X : Cx} {K : PySem.W.Frag} (h : X.K = K) : CallR X (.builtin "isinstance") (rIsiA K) := by subst h; exact CallR.or call_isi call_isiT
/-- where drawing stands -/
structure St (H : Hp) (st a : Addr) : Prop where
  ex : ∃ i m r : Int, H st = some (.lst [.ref a, .int i, .int m, .int r]) ∧ 0 ≤ i ∧ 0 ≤ m ∧ m < 2147483647 ∧ 0 ≤ r
theorem fr_st {H : Hp} {st : Addr} {a : Addr} {i m r : Int} {o : HO} (h : H st = some (.lst [.ref a, .int i, .int m, .int r])) : Fr H (upd H st o) := fun b u e n => by
  rw [upd_ne (fun q => by subst q; rw [h] at e; cases e; exact n _ _ _ _ rfl)]
  exact e
theorem St.same {H H' : Hp} {st a : Addr} (s : St H st a) (R : Same H H') : St H' st a := by
  obtain ⟨i, m, r, h, q⟩ := s.ex
  exact ⟨i, m, r, R _ _ h, q⟩
theorem St.new {H : Hp} {st a p : Addr} {u : HO} (s : St H st a) (np : H p = none) : St (upd H p u) st a := s.same (same_new np)
theorem St.ne {H : Hp} {st a p : Addr} {o : HO} (s : St H st a) (h : H p = some o) (n : NotSt o) : st ≠ p := by
  obtain ⟨i, m, r, e, q⟩ := s.ex
  exact ne_of e h fun z => n _ _ _ _ z.symm
theorem St.wr {H : Hp} {st a p : Addr} {o u : HO} (s : St H st a) (h : H p = some o) (n : NotSt o) : St (upd H p u) st a := by
  have ne := s.ne h n
  obtain ⟨i, m, r, e, q⟩ := s.ex
  exact ⟨i, m, r, by rw [upd_ne ne]; exact e, q⟩
theorem kpi_enum {X : Cx} {K : PySem.W.Frag} {e : Expr} {ta : TA} {p pos tpos : Pos} {elts : List Expr} {kk : Nat} (hK : X.K = K) (hg : Gl X "enumerate") (hm : X.mg "enumerate" = none) (ha : PA X [e] ta) (hs : starEach [e] X.env = [(false, eval e X.env)] := by rfl) :
    PI X (.Tuple elts kk tpos) (.Call (.Name "enumerate" p) [e] [] pos) (iEnum K ta) := by subst hK; exact pi_enum hg hm ha hs
theorem r_iEnum {K : PySem.W.Frag} {σ : L2.St} {H : Hp} {ta : TA} {R : It → Hp → Prop} (k : ta σ H fun vs H1 => ∃ a xs, vs = [.ref a] ∧ SqL K H1 a xs ∧ R (Ite K a) H1) : iEnum K ta σ H R := k
theorem fw_enum {K : PySem.W.Frag} {σ : L2.St} {H : Hp} {nn bb cc : L2.St → Hp → Prop} {rr : VK} {a : Addr} {xs : List V} {g : TG} {tb : TS} (Pv : Nat → L2.St → Hp → Prop) (h0 : Pv 0 σ H) (hl : ∀ i σ H, i ≤ xs.length → Pv i σ H → SqL K H a xs)
    (hs : ∀ i x σ H T, xs[i]? = some x → Pv i σ H → H T = none → g (.ref T) σ (upd H T (.tup [.int (i : Nat), x])) fun σ2 H2 => tb ⟨Pv (i + 1), rr, nn, Pv (i + 1)⟩ σ2 H2) (hd : ∀ σ H, Pv xs.length σ H → nn σ H) : ForW (Ite K a) g tb ⟨nn, rr, bb, cc⟩ σ H := by
  refine for_it (walk_enum (xs := xs)) Pv h0 hl (fun i x σ H H' hi p y => ?_) hd
  obtain ⟨T, u, v, rfl, nT, rfl, e1, e2⟩ := y
  cases e1
  exact hs i v σ H T e2 p nT
/-- == of two pairs of ints -/
theorem eqv_pair (x y : Int × Int) : PyData.eqv (dPair x) (dPair y) = decide (x = y) := by
  unfold dPair
  simp only [PyData.eqv, PyData.eqvAll, Bool.and_true]
  by_cases h : x = y
  · subst h
    simp
  · have : ¬ (x.1 = y.1 ∧ x.2 = y.2) := fun z => h (Prod.ext z.1 z.2)
    rw [decide_eq_false h]
    simp only [Bool.and_eq_false_iff, beq_eq_false_iff_ne]
    by_cases h1 : x.1 = y.1
    · exact .inr fun h2 => this ⟨h1, h2⟩
    · exact .inl h1
theorem r_eqPair {K : PySem.W.Frag} {H : Hp} {Q : VK} {a b : Addr} {x y : Int × Int} (h1 : H a = some (.tup [.int x.1, .int x.2])) (h2 : H b = some (.tup [.int y.1, .int y.2])) (k : Q (.bl (decide (x = y))) H) : rEqA K (.ref a) (.ref b) H Q :=
  .inr ⟨dPair x, dPair y, Is.dp _ _ (Is.pair h1), Is.dp _ _ (Is.pair h2), (Fl.pair 0 x).shaped (by decide), (Fl.pair 0 y).shaped (by decide), by rw [eqv_pair]; exact k⟩
theorem r_nePair {K : PySem.W.Frag} {H : Hp} {Q : VK} {a b : Addr} {x y : Int × Int} (h1 : H a = some (.tup [.int x.1, .int x.2])) (h2 : H b = some (.tup [.int y.1, .int y.2])) (k : Q (.bl (!decide (x = y))) H) : rNeA K (.ref a) (.ref b) H Q :=
  .inr ⟨dPair x, dPair y, Is.dp _ _ (Is.pair h1), Is.dp _ _ (Is.pair h2), (Fl.pair 0 x).shaped (by decide), (Fl.pair 0 y).shaped (by decide), by rw [eqv_pair]; exact k⟩
theorem r_sum {K : PySem.W.Frag} {H : Hp} {Q : VK} {a : Addr} {ns : List Int} (h : SqL K H a (ns.map V.int)) (k : Q (.int ns.sum) H) : rSum K [.ref a] H Q := ⟨a, ns, rfl, h, k⟩
theorem r_neSelf {K : PySem.W.Frag} {H : Hp} {Q : VK} {v : V} (h : v = .non ∨ ∃ i, v = .int i) (k : Q (.bl false) H) : rNeA K v v H Q := by
  rcases h with rfl | ⟨i, rfl⟩
  · exact .inl ⟨rfl, by rw [decide_eq_true rfl]; exact k⟩
  · exact r_neI (by rw [decide_eq_true rfl]; exact k)
theorem r_neNil {K : PySem.W.Frag} {H : Hp} {Q : VK} {a b : Addr} {ns : List Int} (h : H a = some (.lst (ns.map V.int))) (h2 : H b = some (.lst [])) (k : Q (.bl (!decide (ns = []))) H) : rNeA K (.ref a) (.ref b) H Q := by
  refine .inr ⟨dInts ns, .list [], Is.dp _ _ (Is.ints h), Is.dp _ _ (.lst h2 .nil), (Fl.ints 0 ns).shaped (by decide), (Fl.list (n := 0) (ds := []) (by simp)).shaped (by decide), ?_⟩
  have e : PyData.eqv (dInts ns) (.list []) = decide (ns = []) := by
    cases ns with
    | nil => simp [dInts, PyData.eqv, PyData.eqvAll]
    | cons n r => simp [dInts, PyData.eqv, PyData.eqvAll]
  rw [e]
  exact k
theorem cut_take {α : Type} (f : α → V) (ms : List α) {v : Int} (h0 : 0 ≤ v) : cutV (ms.map f) none (some v) = (ms.take v.toNat).map f := by
  obtain ⟨n, rfl⟩ : ∃ n : Nat, v = (n : Int) := ⟨v.toNat, by omega⟩
  unfold cutV
  rw [HT.sIx_nat, HT.sIx_none, List.drop_zero, Nat.sub_zero, Int.toNat_natCast, List.map_take]
  by_cases h : n ≤ (ms.map f).length
  · rw [Nat.min_eq_left h]
  · rw [Nat.min_eq_right (by omega), List.take_of_length_le (Nat.le_refl _), List.take_of_length_le (by omega)]
theorem cut_drop {α : Type} (f : α → V) (ms : List α) {v : Int} (h0 : 0 ≤ v) : cutV (ms.map f) (some v) none = (ms.drop v.toNat).map f := by
  obtain ⟨n, rfl⟩ : ∃ n : Nat, v = (n : Int) := ⟨v.toNat, by omega⟩
  unfold cutV
  rw [HT.sIx_nat, HT.sIx_none, Int.toNat_natCast, List.map_drop]
  by_cases h : n ≤ (ms.map f).length
  · rw [Nat.min_eq_left h, List.take_of_length_le (by rw [List.length_drop]; omega)]
  · rw [Nat.min_eq_right (by omega), Nat.sub_self, List.take_zero, List.drop_of_length_le (by omega)]
end Rd

/-! ## macros -/
local macro_rules | `(tactic| walk_at "nst") => `(tactic| first
  | exact Rd.nst_tup | exact Rd.nst_ints | exact Rd.nst_refs | exact Rd.nst_nil | exact Rd.nst_int | exact Rd.nst_cons | exact Rd.nst_frz | exact Rd.nst_ins | exact Rd.nst_own | assumption
  | (intro a i m r h; simp at h; done) | (intro a i m r h; cases h; done))
local macro_rules | `(tactic| walk_at "hp") => `(tactic| first
  | with_reducible assumption
  | with_reducible exact L2.upd_same
  | ((with_reducible refine' Rd.at_new ?hnp ?hup); (case hnp => with_reducible assumption); (case hup => walk_at "hp"))
  | ((with_reducible refine' Rd.same_at ?hsm ?hup); (case hsm => with_reducible assumption); (case hup => walk_at "hp"))
  | ((with_reducible refine' Rd.fr_at ?hsm ?hup ?hns); (case hsm => with_reducible assumption); (case hup => walk_at "hp"); (case hns => walk_at "nst"))
  | ((with_reducible refine' Rd.at_wr ?hne ?hup); (case hup => walk_at "hp"); (case hne => first | with_reducible assumption | (with_reducible refine' Ne.symm ?hne2; with_reducible assumption))))
local macro_rules | `(tactic| walk_at "sq") => `(tactic| first
  | with_reducible assumption
  | ((with_reducible refine' Rd.same_sq ?hsm ?hup); (case hsm => with_reducible assumption); (case hup => walk_at "sq"))
  | ((with_reducible refine' Rd.fr_sq ?hsm ?hup); (case hsm => with_reducible assumption); (case hup => walk_at "sq"))
  | ((with_reducible refine' Rd.sq_new ?hnp ?hup); (case hnp => with_reducible assumption); (case hup => walk_at "sq"))
  | ((with_reducible refine' L2.SqL.of ?hup); (case hup => walk_at "hp"))
  | ((with_reducible refine' L2.SqT.of ?hup); (case hup => walk_at "hp"))
  | ((with_reducible refine' Or.inl ?hup); (case hup => walk_at "sq"))
  | ((with_reducible refine' Or.inr ?hup); (case hup => walk_at "sq")))
local macro_rules | `(tactic| walk_at "ss") => `(tactic| first
  | with_reducible assumption
  | ((with_reducible refine' Rd.St.new ?hup ?hnp); (case hnp => with_reducible assumption); (case hup => walk_at "ss"))
  | ((with_reducible refine' Rd.St.same ?hup ?hsm); (case hsm => with_reducible assumption); (case hup => walk_at "ss")))
local macro_rules | `(tactic| walk_at "fr") => `(tactic| first
  | with_reducible assumption
  | with_reducible exact Rd.Fr.refl _
  | with_reducible exact L2.Same.refl _
  | ((with_reducible refine' Rd.fr_new ?hnp ?hup); (case hnp => first | with_reducible assumption | walk_at "no"); (case hup => walk_at "fr"))
  | ((with_reducible refine' Rd.sm_new ?hnp ?hup); (case hnp => first | with_reducible assumption | walk_at "no"); (case hup => walk_at "fr"))
  | ((with_reducible refine' Rd.Fr.trans ?hup ?hsm); (case hsm => with_reducible assumption); (case hup => walk_at "fr"))
  | ((with_reducible refine' Rd.Fr.same ?hup ?hsm); (case hsm => with_reducible assumption); (case hup => walk_at "fr"))
  | ((with_reducible refine' L2.Same.trans ?hup ?hsm); (case hsm => with_reducible assumption); (case hup => walk_at "fr")))
/-- one step -/
local macro_rules | `(tactic| walk_at "go1") => `(tactic| first
  | with_reducible refine Rd.r_v0 ?_ | with_reducible refine Rd.r_v1 ?_ | with_reducible refine Rd.r_v2 ?_ | with_reducible refine Rd.r_v3 ?_ | with_reducible refine Rd.r_v4 ?_ | with_reducible refine Rd.r_v5 ?_
  | with_reducible refine Rd.r_c ?_ | with_reducible refine Rd.r_op ?_ | with_reducible refine Rd.r_cons ?_ | with_reducible refine Rd.r_nil ?_
  | with_reducible refine Rd.r_I0 ?_ | with_reducible refine Rd.r_addI ?_ | with_reducible refine Rd.r_eqI ?_ | with_reducible refine Rd.r_neI ?_ | with_reducible refine Rd.r_eqB ?_ | with_reducible refine Rd.r_neB ?_
  | with_reducible refine Rd.r_seq ?_ | with_reducible refine Rd.r_asg ?_
  | with_reducible refine Rd.r_g0 ?_ | with_reducible refine Rd.r_g1 ?_ | with_reducible refine Rd.r_g2 ?_ | with_reducible refine Rd.r_g3 ?_ | with_reducible refine Rd.r_g4 ?_ | with_reducible refine Rd.r_g5 ?_
  | with_reducible refine Rd.r_ret ?_ | with_reducible refine Rd.r_retN ?_ | with_reducible refine Rd.r_ifS ?_ | with_reducible refine Rd.r_next ?_ | with_reducible refine Rd.r_drop ?_ | with_reducible refine Rd.r_break ?_ | with_reducible refine Rd.r_cont ?_
  | with_reducible refine Rd.r_test ?_ | with_reducible refine Rd.r_B ?_ | with_reducible refine Rd.r_bl ?_ | with_reducible refine Rd.r_and ?_ | with_reducible refine Rd.r_or ?_ | with_reducible refine Rd.r_not ?_
  | with_reducible refine Rd.r_andV ?_ | with_reducible refine Rd.r_orV ?_ | with_reducible refine Rd.r_notV ?_ | with_reducible refine Rd.r_if ?_ | with_reducible refine Rd.r_chain ?_ | with_reducible refine Rd.r_un ?_ | with_reducible refine Rd.r_U ?_
  | with_reducible refine Rd.r_cB ?_ | with_reducible refine Rd.r_call ?_ | with_reducible refine Rd.r_tup ?_ | with_reducible refine Rd.r_lst ?_
  | with_reducible refine Rd.r_sl ?_ | with_reducible refine Rd.r_noP ?_ | with_reducible refine Rd.r_part ?_ | with_reducible refine Rd.r_partI ?_ | with_reducible refine Rd.r_bm ?_ | with_reducible refine Rd.r_bm0 ?_
  | with_reducible refine Rd.r_for ?_ | with_reducible refine Rd.r_iList ?_ | with_reducible refine Rd.r_iRng1 ?_ | with_reducible refine Rd.r_iRng2 ?_ | with_reducible refine Rd.r_iEnum ?_
  | with_reducible refine Rd.r_lc ?_ | with_reducible refine Rd.r_tYes ?_
  | with_reducible refine Rd.r_max2 ?_ | with_reducible refine Rd.r_min2 ?_ | with_reducible refine Rd.r_abs ?_ | with_reducible refine Rd.r_intI ?_ | with_reducible refine Rd.r_intB ?_
  | with_reducible refine Rd.r_gCons ?_ | with_reducible refine Rd.r_gNil ?_ | with_reducible refine Rd.r_gSub ?_
  | ((with_reducible refine' Rd.r_ix ?hsq ?hat ?hk); (case hsq => walk_at "sq"); (case hat => first | rfl | assumption))
  | ((with_reducible refine' Rd.r_gTup ?hsq ?hat ?hk); (case hsq => walk_at "sq"); (case hat => rfl))
  | ((with_reducible refine' Rd.r_lenS ?hsq ?hk); (case hsq => walk_at "sq"); (intro hlenS))
  | ((with_reducible refine' Rd.r_lay ?hlen ?hk); (case hlen => exact Rd.len_ok rfl))
  | ((with_reducible refine' Rd.r_pow ?hpo ?hk); (case hpo => decide))
  | with_reducible refine Rd.r_v6 ?_ | with_reducible refine Rd.r_v7 ?_ | with_reducible refine Rd.r_v8 ?_ | with_reducible refine Rd.r_v9 ?_ | with_reducible refine Rd.r_v10 ?_ | with_reducible refine Rd.r_v11 ?_ | with_reducible refine Rd.r_v12 ?_ | with_reducible refine Rd.r_v13 ?_ | with_reducible refine Rd.r_v14 ?_ | with_reducible refine Rd.r_v15 ?_ | with_reducible refine Rd.r_v16 ?_ | with_reducible refine Rd.r_v17 ?_ | with_reducible refine Rd.r_v18 ?_ | with_reducible refine Rd.r_v19 ?_ | with_reducible refine Rd.r_v20 ?_ | with_reducible refine Rd.r_v21 ?_
  | with_reducible refine Rd.r_g6 ?_ | with_reducible refine Rd.r_g7 ?_ | with_reducible refine Rd.r_g8 ?_ | with_reducible refine Rd.r_g9 ?_ | with_reducible refine Rd.r_g10 ?_ | with_reducible refine Rd.r_g11 ?_ | with_reducible refine Rd.r_g12 ?_ | with_reducible refine Rd.r_g13 ?_ | with_reducible refine Rd.r_g14 ?_ | with_reducible refine Rd.r_g15 ?_ | with_reducible refine Rd.r_g16 ?_ | with_reducible refine Rd.r_g17 ?_ | with_reducible refine Rd.r_g18 ?_ | with_reducible refine Rd.r_g19 ?_ | with_reducible refine Rd.r_g20 ?_ | with_reducible refine Rd.r_g21 ?_)
local macro_rules | `(tactic| walk_at "go") => `(tactic| repeat walk_at "go1")

namespace Rd
open PySem L2
def top (i : Nat) : Stmt := PySem.Challenge.pw_stepgear_k12_asked_again.main.body.getD i (.Pass ⟨0, 0, 0, 0⟩)
abbrev s_need_gear : Stmt := top 11
theorem sc_need_gear : FnScope ["gear", "around", "play"] ["gear"] (defScope s_need_gear) := ⟨rfl, rfl, rfl, by decide +kernel, rfl, by decide +kernel, by decide +kernel⟩
theorem bo_need_gear : BindOk "need_gear" s_need_gear ["gear"] := fun _ _ _ _ _ _ us hl => match us, hl with | [_], _ => rfl
abbrev s_need_standing : Stmt := top 12
theorem sc_need_standing : FnScope ["gear", "standing", "motor", "shaft"] ["gear", "standing"] (defScope s_need_standing) := ⟨rfl, rfl, rfl, by decide +kernel, rfl, by decide +kernel, by decide +kernel⟩
theorem bo_need_standing : BindOk "need_standing" s_need_standing ["gear", "standing"] := fun _ _ _ _ _ _ us hl => match us, hl with | [_, _], _ => rfl
abbrev s_need_moves : Stmt := top 13
theorem sc_need_moves : FnScope ["moves"] ["moves"] (defScope s_need_moves) := ⟨rfl, rfl, rfl, by decide +kernel, rfl, by decide +kernel, by decide +kernel⟩
theorem bo_need_moves : BindOk "need_moves" s_need_moves ["moves"] := fun _ _ _ _ _ _ us hl => match us, hl with | [_], _ => rfl
abbrev s_behind : Stmt := top 14
theorem sc_behind : FnScope ["gear", "standing", "steps", "motor"] ["gear", "standing", "steps"] (defScope s_behind) := ⟨rfl, rfl, rfl, by decide +kernel, rfl, by decide +kernel, by decide +kernel⟩
theorem bo_behind : BindOk "behind" s_behind ["gear", "standing", "steps"] := fun _ _ _ _ _ _ us hl => match us, hl with | [_, _, _], _ => rfl
abbrev s_all_behind : Stmt := top 15
theorem sc_all_behind : FnScope ["gear", "standing", "moves", "found", "steps"] ["gear", "standing", "moves"] (defScope s_all_behind) := ⟨rfl, rfl, rfl, by decide +kernel, rfl, by decide +kernel, by decide +kernel⟩
theorem bo_all_behind : BindOk "all_behind" s_all_behind ["gear", "standing", "moves"] := fun _ _ _ _ _ _ us hl => match us, hl with | [_, _, _], _ => rfl
abbrev s_trail : Stmt := top 16
theorem sc_trail : FnScope ["gear", "standing", "moves"] ["gear", "standing", "moves"] (defScope s_trail) := ⟨rfl, rfl, rfl, by decide +kernel, rfl, by decide +kernel, by decide +kernel⟩
theorem bo_trail : BindOk "trail" s_trail ["gear", "standing", "moves"] := fun _ _ _ _ _ _ us hl => match us, hl with | [_, _, _], _ => rfl
abbrev s_stands : Stmt := top 17
theorem sc_stands : FnScope ["gear", "standing", "moves"] ["gear", "standing", "moves"] (defScope s_stands) := ⟨rfl, rfl, rfl, by decide +kernel, rfl, by decide +kernel, by decide +kernel⟩
theorem bo_stands : BindOk "stands" s_stands ["gear", "standing", "moves"] := fun _ _ _ _ _ _ us hl => match us, hl with | [_, _, _], _ => rfl
abbrev s_need_marks : Stmt := top 20
theorem sc_need_marks : FnScope ["gear", "marks", "good", "mark"] ["gear", "marks"] (defScope s_need_marks) := ⟨rfl, rfl, rfl, by decide +kernel, rfl, by decide +kernel, by decide +kernel⟩
theorem bo_need_marks : BindOk "need_marks" s_need_marks ["gear", "marks"] := fun _ _ _ _ _ _ us hl => match us, hl with | [_, _], _ => rfl
abbrev s_sure : Stmt := top 21
theorem sc_sure : FnScope ["gear", "marks", "around", "ways", "least", "k"] ["gear", "marks"] (defScope s_sure) := ⟨rfl, rfl, rfl, by decide +kernel, rfl, by decide +kernel, by decide +kernel⟩
theorem bo_sure : BindOk "sure" s_sure ["gear", "marks"] := fun _ _ _ _ _ _ us hl => match us, hl with | [_, _], _ => rfl
abbrev s_both_ends : Stmt := top 23
theorem sc_both_ends : FnScope ["gear", "moves", "low", "high"] ["gear", "moves"] (defScope s_both_ends) := ⟨rfl, rfl, rfl, by decide +kernel, rfl, by decide +kernel, by decide +kernel⟩
theorem bo_both_ends : BindOk "both_ends" s_both_ends ["gear", "moves"] := fun _ _ _ _ _ _ us hl => match us, hl with | [_, _], _ => rfl
abbrev s_known : Stmt := top 24
theorem sc_known : FnScope ["gear", "moves", "low", "high"] ["gear", "moves"] (defScope s_known) := ⟨rfl, rfl, rfl, by decide +kernel, rfl, by decide +kernel, by decide +kernel⟩
theorem bo_known : BindOk "known" s_known ["gear", "moves"] := fun _ _ _ _ _ _ us hl => match us, hl with | [_, _], _ => rfl
abbrev s_settled : Stmt := top 25
theorem sc_settled : FnScope ["gear", "moves", "number", "low", "high"] ["gear", "moves"] (defScope s_settled) := ⟨rfl, rfl, rfl, by decide +kernel, rfl, by decide +kernel, by decide +kernel⟩
theorem bo_settled : BindOk "settled" s_settled ["gear", "moves"] := fun _ _ _ _ _ _ us hl => match us, hl with | [_, _], _ => rfl
abbrev s_word_of : Stmt := top 29
theorem sc_word_of : FnScope ["steps"] ["steps"] (defScope s_word_of) := ⟨rfl, rfl, rfl, by decide +kernel, rfl, by decide +kernel, by decide +kernel⟩
theorem bo_word_of : BindOk "word_of" s_word_of ["steps"] := fun _ _ _ _ _ _ us hl => match us, hl with | [_], _ => rfl
abbrev s_written : Stmt := top 30
theorem sc_written : FnScope ["moves", "steps"] ["moves"] (defScope s_written) := ⟨rfl, rfl, rfl, by decide +kernel, rfl, by decide +kernel, by decide +kernel⟩
theorem bo_written : BindOk "written" s_written ["moves"] := fun _ _ _ _ _ _ us hl => match us, hl with | [_], _ => rfl
abbrev s_steps_of : Stmt := top 31
theorem sc_steps_of : FnScope ["word", "size", "sign"] ["word"] (defScope s_steps_of) := ⟨rfl, rfl, rfl, by decide +kernel, rfl, by decide +kernel, by decide +kernel⟩
theorem bo_steps_of : BindOk "steps_of" s_steps_of ["word"] := fun _ _ _ _ _ _ us hl => match us, hl with | [_], _ => rfl
abbrev s_read_moves : Stmt := top 32
theorem sc_read_moves : FnScope ["text", "found", "place", "word", "steps"] ["text"] (defScope s_read_moves) := ⟨rfl, rfl, rfl, by decide +kernel, rfl, by decide +kernel, by decide +kernel⟩
theorem bo_read_moves : BindOk "read_moves" s_read_moves ["text"] := fun _ _ _ _ _ _ us hl => match us, hl with | [_], _ => rfl
abbrev s_need_goals : Stmt := top 36
theorem sc_need_goals : FnScope ["gear", "standing", "goals", "most", "goal"] ["gear", "standing", "goals", "most"] (defScope s_need_goals) := ⟨rfl, rfl, rfl, by decide +kernel, rfl, by decide +kernel, by decide +kernel⟩
theorem bo_need_goals : BindOk "need_goals" s_need_goals ["gear", "standing", "goals", "most"] := fun _ _ _ _ _ _ us hl => match us, hl with | [_, _, _, _], _ => rfl
abbrev s_choices : Stmt := top 37
theorem sc_choices : FnScope ["gear", "standing", "goal", "around", "play", "motor", "shaft", "far"] ["gear", "standing", "goal"] (defScope s_choices) := ⟨rfl, rfl, rfl, by decide +kernel, rfl, by decide +kernel, by decide +kernel⟩
theorem bo_choices : BindOk "choices" s_choices ["gear", "standing", "goal"] := fun _ _ _ _ _ _ us hl => match us, hl with | [_, _, _], _ => rfl
abbrev s_to : Stmt := top 38
theorem sc_to : FnScope ["gear", "standing", "goal"] ["gear", "standing", "goal"] (defScope s_to) := ⟨rfl, rfl, rfl, by decide +kernel, rfl, by decide +kernel, by decide +kernel⟩
theorem bo_to : BindOk "to" s_to ["gear", "standing", "goal"] := fun _ _ _ _ _ _ us hl => match us, hl with | [_, _, _], _ => rfl
abbrev s_best_path : Stmt := top 39
theorem sc_best_path : FnScope ["gear", "standing", "goals", "found", "steps", "size", "rest", "least", "row"] ["gear", "standing", "goals"] (defScope s_best_path) := ⟨rfl, rfl, rfl, by decide +kernel, rfl, by decide +kernel, by decide +kernel⟩
theorem bo_best_path : BindOk "best_path" s_best_path ["gear", "standing", "goals"] := fun _ _ _ _ _ _ us hl => match us, hl with | [_, _, _], _ => rfl
abbrev s_path : Stmt := top 40
theorem sc_path : FnScope ["gear", "standing", "goals"] ["gear", "standing", "goals"] (defScope s_path) := ⟨rfl, rfl, rfl, by decide +kernel, rfl, by decide +kernel, by decide +kernel⟩
theorem bo_path : BindOk "path" s_path ["gear", "standing", "goals"] := fun _ _ _ _ _ _ us hl => match us, hl with | [_, _, _], _ => rfl
abbrev s_all_orders : Stmt := top 41
theorem sc_all_orders : FnScope ["places", "found", "k", "rest"] ["places"] (defScope s_all_orders) := ⟨rfl, rfl, rfl, by decide +kernel, rfl, by decide +kernel, by decide +kernel⟩
theorem bo_all_orders : BindOk "all_orders" s_all_orders ["places"] := fun _ _ _ _ _ _ us hl => match us, hl with | [_], _ => rfl
abbrev s_tour : Stmt := top 42
theorem sc_tour : FnScope ["gear", "standing", "goals", "found", "order", "k"] ["gear", "standing", "goals"] (defScope s_tour) := ⟨rfl, rfl, rfl, by decide +kernel, rfl, by decide +kernel, by decide +kernel⟩
theorem bo_tour : BindOk "tour" s_tour ["gear", "standing", "goals"] := fun _ _ _ _ _ _ us hl => match us, hl with | [_, _, _], _ => rfl
abbrev s_law_start : Stmt := top 44
theorem sc_law_start : FnScope ["_law_script", "_law_mixed", "_law_cell"] ["_law_script"] (defScope s_law_start) := ⟨rfl, rfl, rfl, by decide +kernel, rfl, by decide +kernel, by decide +kernel⟩
theorem bo_law_start : BindOk "_law_start" s_law_start ["_law_script"] := fun _ _ _ _ _ _ us hl => match us, hl with | [_], _ => rfl
abbrev s_law_drawn : Stmt := top 45
theorem sc_law_drawn : FnScope ["_law_state", "_law_many", "_law_found", "_law_cell"] ["_law_state", "_law_many"] (defScope s_law_drawn) := ⟨rfl, rfl, rfl, by decide +kernel, rfl, by decide +kernel, by decide +kernel⟩
theorem bo_law_drawn : BindOk "_law_drawn" s_law_drawn ["_law_state", "_law_many"] := fun _ _ _ _ _ _ us hl => match us, hl with | [_, _], _ => rfl
abbrev s_law_same : Stmt := top 46
theorem sc_law_same : FnScope ["_law_found", "_law_due", "_law_k"] ["_law_found", "_law_due"] (defScope s_law_same) := ⟨rfl, rfl, rfl, by decide +kernel, rfl, by decide +kernel, by decide +kernel⟩
theorem bo_law_same : BindOk "_law_same" s_law_same ["_law_found", "_law_due"] := fun _ _ _ _ _ _ us hl => match us, hl with | [_, _], _ => rfl
abbrev s_law_gear : Stmt := top 47
theorem sc_law_gear : FnScope ["_law_state", "_law_small", "_law_sorts", "_law_around", "_law_play"] ["_law_state", "_law_small"] (defScope s_law_gear) := ⟨rfl, rfl, rfl, by decide +kernel, rfl, by decide +kernel, by decide +kernel⟩
theorem bo_law_gear : BindOk "_law_gear" s_law_gear ["_law_state", "_law_small"] := fun _ _ _ _ _ _ us hl => match us, hl with | [_, _], _ => rfl
abbrev s_law_standing : Stmt := top 48
theorem sc_law_standing : FnScope ["_law_state", "_law_gear_here", "_law_far", "_law_motor"] ["_law_state", "_law_gear_here"] (defScope s_law_standing) := ⟨rfl, rfl, rfl, by decide +kernel, rfl, by decide +kernel, by decide +kernel⟩
theorem bo_law_standing : BindOk "_law_standing" s_law_standing ["_law_state", "_law_gear_here"] := fun _ _ _ _ _ _ us hl => match us, hl with | [_, _], _ => rfl
abbrev s_law_moves : Stmt := top 49
theorem sc_law_moves : FnScope ["_law_state", "_law_gear_here", "_law_most", "_law_found", "_law_k", "_law_size"] ["_law_state", "_law_gear_here", "_law_most"] (defScope s_law_moves) := ⟨rfl, rfl, rfl, by decide +kernel, rfl, by decide +kernel, by decide +kernel⟩
theorem bo_law_moves : BindOk "_law_moves" s_law_moves ["_law_state", "_law_gear_here", "_law_most"] := fun _ _ _ _ _ _ us hl => match us, hl with | [_, _, _], _ => rfl
abbrev s_law_behind : Stmt := top 50
theorem sc_law_behind : FnScope ["_law_gear_here", "_law_standing_here", "_law_steps", "_law_motor", "_law_shaft", "_law_free"] ["_law_gear_here", "_law_standing_here", "_law_steps"] (defScope s_law_behind) := ⟨rfl, rfl, rfl, by decide +kernel, rfl, by decide +kernel, by decide +kernel⟩
theorem bo_law_behind : BindOk "_law_behind" s_law_behind ["_law_gear_here", "_law_standing_here", "_law_steps"] := fun _ _ _ _ _ _ us hl => match us, hl with | [_, _, _], _ => rfl
abbrev s_law_marks : Stmt := top 51
theorem sc_law_marks : FnScope ["_law_state", "_law_gear_here", "_law_some", "_law_k"] ["_law_state", "_law_gear_here"] (defScope s_law_marks) := ⟨rfl, rfl, rfl, by decide +kernel, rfl, by decide +kernel, by decide +kernel⟩
theorem bo_law_marks : BindOk "_law_marks" s_law_marks ["_law_state", "_law_gear_here"] := fun _ _ _ _ _ _ us hl => match us, hl with | [_, _], _ => rfl
abbrev s_law_nearest : Stmt := top 52
theorem sc_law_nearest : FnScope ["_law_gear_here", "_law_shaft", "_law_mark", "_law_up"] ["_law_gear_here", "_law_shaft", "_law_mark"] (defScope s_law_nearest) := ⟨rfl, rfl, rfl, by decide +kernel, rfl, by decide +kernel, by decide +kernel⟩
theorem bo_law_nearest : BindOk "_law_nearest" s_law_nearest ["_law_gear_here", "_law_shaft", "_law_mark"] := fun _ _ _ _ _ _ us hl => match us, hl with | [_, _, _], _ => rfl
abbrev s_law_answer : Stmt := top 53
theorem sc_law_answer : FnScope ["_law_way", "_law_case", "_law_gear_here", "_law_standing_here", "_law_moves_here", "_law_goals", "_law_marks_here", "_law_goal"] ["_law_way", "_law_case"] (defScope s_law_answer) := ⟨rfl, rfl, rfl, by decide +kernel, rfl, by decide +kernel, by decide +kernel⟩
theorem bo_law_answer : BindOk "_law_answer" s_law_answer ["_law_way", "_law_case"] := fun _ _ _ _ _ _ us hl => match us, hl with | [_, _], _ => rfl
abbrev s_law_copied : Stmt := top 54
theorem sc_law_copied : FnScope ["_law_told", "_law_one"] ["_law_told"] (defScope s_law_copied) := ⟨rfl, rfl, rfl, by decide +kernel, rfl, by decide +kernel, by decide +kernel⟩
theorem bo_law_copied : BindOk "_law_copied" s_law_copied ["_law_told"] := fun _ _ _ _ _ _ us hl => match us, hl with | [_], _ => rfl
abbrev s_law : Stmt := top 55
theorem sc_law : FnScope ["_law_script", "_law_state", "_law_cases", "_law_k", "_law_gear_here", "_law_goals", "_law_first", "_law_kept", "_law_turn", "_law_way", "_law_told", "_law_one", "_law_case", "_law_goal"] ["_law_script"] (defScope s_law) := ⟨rfl, rfl, rfl, by decide +kernel, rfl, by decide +kernel, by decide +kernel⟩
theorem bo_law : BindOk "law" s_law ["_law_script"] := fun _ _ _ _ _ _ us hl => match us, hl with | [_], _ => rfl
abbrev s_BadText_init : Stmt := inClass (top 7) 0
theorem sc_BadText_init : FnScope ["self", "place"] ["self", "place"] (defScope s_BadText_init) := ⟨rfl, rfl, rfl, by decide +kernel, rfl, by decide +kernel, by decide +kernel⟩
end Rd

/-! ## list(zip(l1, l2)) -/
namespace ZpL
open PySem PySem.Spec PyProof.Rows
open Sem (wp)
def ZipO (h : Heap) (z TI TO : Addr) (f0 : Value) (f1 : Bool) : Prop :=
  h.get? z = some { cls := .type "zip", dict := none, data := .fields #[f0, .bool f1, .bool false, .ref TI, .ref TO], slots := #[] }
section
variable {prog : Program} {w : World} {A : Around} {E : Value → Shared → Prop} {s : Shared}
/-- the next pair where the last one is held elsewhere -/
theorem next_out {z TI TO i1 i2 l1 l2 T : Addr} {f1 : Bool} {oT : Obj} {k1 k2 : Nat} {xs ys : Array Value} {x y : Value} {Q : Value → Shared → Prop} (D : ZipApart z TI TO i1 i2 l1 l2)
    (hz : ZipO s.heap z TI TO (rawInt T) f1) (hT : s.heap.get? T = some oT) (hTI : IsPair s.heap TI (.ref i1) (.ref i2))
    (h1 : s.heap.IsListIter i1 l1 k1) (h2 : s.heap.IsListIter i2 l2 k2) (hl1 : s.heap.IsList l1 xs) (hl2 : s.heap.IsList l2 ys) (hx : xs[k1]? = some x) (hy : ys[k2]? = some y)
    (hQ : ∀ h', ZipO h' z TI TO (rawInt T) true → h'.IsListIter i1 l1 (k1 + 1) → h'.IsListIter i2 l2 (k2 + 1) → IsPair h' s.heap.objs.size x y → h'.objs.size = s.heap.objs.size + 1 →
      (∀ c o, c ≠ z → c ≠ i1 → c ≠ i2 → s.heap.get? c = some o → h'.get? c = some o) → Q (.ref s.heap.objs.size) { s with heap := h' }) :
    wpAny (model prog w) A (Builtin.«zip.__next__» ⟨[.ref z], []⟩) (fun fin s' => ∃ v, fin = .done (.ret v) ∧ Q v s') E s := by
  show wpAny _ _ (field (.ref z) 2 >>= _) _ _ _
  refine wpAny_bind (wpAny_field hz rfl (x := .bool false) rfl ?_)
  show wpAny _ _ (field (.ref z) 3 >>= _) _ _ _
  refine wpAny_bind (wpAny_field hz rfl (x := .ref TI) rfl ?_)
  refine wpAny_bind (wpAny_seqItems hTI rfl ?_)
  show wpAny _ _ (Builtin.SmallTypes.ownedTupleIsFree (.ref z) >>= _) _ _ _
  refine wpAny_bind ?_
  unfold Builtin.SmallTypes.ownedTupleIsFree
  refine wpAny_bind (wpAny_field hz rfl (x := rawInt T) rfl ?_)
  show wpAny _ _ (loadIfAlive (Int.toNat (T : Int)) >>= _) _ _ _
  refine wpAny_bind (PySem.W.kdx_alive (a := T) hT ?_)
  show wpAny _ _ (field (.ref z) 1 >>= _) _ _ _
  refine wpAny_bind (wpAny_field hz rfl (x := .bool f1) rfl ?_)
  refine wpAny_mono (Q := fun a s' => a = false ∧ ∃ h₁, s' = { s with heap := h₁ } ∧ ZipO h₁ z TI TO (rawInt T) true ∧ h₁.objs.size = s.heap.objs.size ∧ ∀ c o, c ≠ z → s.heap.get? c = some o → h₁.get? c = some o) ?_ (fun a s' hq => ?_) (fun _ _ x => x)
  · cases f1 with
    | true => exact wpAny_pure ⟨rfl, s.heap, rfl, hz, rfl, fun c o _ e => e⟩
    | false =>
      show wpAny _ _ (setField (.ref z) 1 (.bool true) >>= _) _ _ _
      refine wpAny_bind (wpAny_setField_rec hz (by simp) fun h₁ hz₁ hs₁ => ?_)
      exact wpAny_pure ⟨rfl, h₁, rfl, hz₁, hs₁.1, fun c o n e => hs₁.extBut _ _ n e⟩
  · obtain ⟨rfl, h₁, rfl, hz₁, z₁, k₁⟩ := hq
    simp only [List.forIn_toArray, List.forIn_cons, List.forIn_nil, Bool.false_eq_true, if_false]
    refine wpAny_bind (wpAny_bind (wpAny_bind (wpAny_holding ?_)))
    show wpAny _ _ (Builtin.SmallTypes.nextOf (.ref i1) >>= _) _ _ _
    refine wpAny_bind (wpAny_nextOf_list_item (h1.at fun o e => k₁ _ o D.i1z e) (hl1.at fun o e => k₁ _ o D.l1z e) hx fun h₂ h1₂ hs₂ => wpAny_pure ?_)
    refine wpAny_pure ?_
    refine wpAny_bind (wpAny_bind (wpAny_holding ?_))
    show wpAny _ _ (Builtin.SmallTypes.nextOf (.ref i2) >>= _) _ _ _
    have h2₂ : h₂.IsListIter i2 l2 k2 := (h2.at fun o e => k₁ _ o D.i2z e).extBut hs₂.extBut D.i12.symm
    have hl2₂ : h₂.IsList l2 ys := (hl2.at fun o e => k₁ _ o D.l2z e).extBut hs₂.extBut D.l2i1
    refine wpAny_bind (wpAny_nextOf_list_item h2₂ hl2₂ hy fun h₃ h2₃ hs₃ => wpAny_pure ?_)
    refine wpAny_pure (wpAny_pure ?_)
    show wpAny _ _ (newTuple [x, y] >>= _) _ _ _
    refine wpAny_bind (wpAny_newTuple ?_)
    have z₃ : h₃.objs.size = s.heap.objs.size := by rw [hs₃.1, hs₂.1, z₁]
    have k₃ : ∀ c o, c ≠ z → c ≠ i1 → c ≠ i2 → s.heap.get? c = some o → h₃.get? c = some o := fun c o n1 n2 n3 e => hs₃.extBut _ _ n3 (hs₂.extBut _ _ n2 (k₁ _ _ n1 e))
    have hz₃ : ZipO h₃ z TI TO (rawInt T) true := hs₃.extBut _ _ D.i2z.symm (hs₂.extBut _ _ D.i1z.symm hz₁)
    have h1₃ : h₃.IsListIter i1 l1 (k1 + 1) := h1₂.extBut hs₃.extBut D.i12
    have up : ∀ c o, h₃.get? c = some o → (h₃.push { cls := .type "tuple", data := .seq #[x, y] }).get? c = some o := fun c o e => Heap.get?_push_of_some _ e
    refine wpAny_pure ⟨_, rfl, ?_⟩
    show Q (.ref h₃.objs.size) _
    have q := hQ (h₃.push { cls := .type "tuple", data := .seq #[x, y] }) (up _ _ hz₃) (h1₃.at fun o e => up _ o e) (h2₃.at fun o e => up _ o e) (by
      have e := Heap.get?_push_size h₃ (o := { cls := .type "tuple", data := .seq #[x, y] }) rfl
      rw [z₃] at e
      exact e) (by rw [Heap.size_push, z₃]) fun c o n1 n2 n3 e => up _ _ (k₃ c o n1 n2 n3 e)
    rw [z₃]
    exact q
/-- the end where the last pair is held elsewhere -/
theorem end_out {z TI TO i1 i2 l1 l2 T : Addr} {f1 : Bool} {oT : Obj} {k1 : Nat} {xs : Array Value} {Q : Fin → Shared → Prop} (hh : A.handled = none) (D : ZipApart z TI TO i1 i2 l1 l2)
    (hz : ZipO s.heap z TI TO (rawInt T) f1) (hT : s.heap.get? T = some oT) (hTI : IsPair s.heap TI (.ref i1) (.ref i2))
    (h1 : s.heap.IsListIter i1 l1 k1) (hl1 : s.heap.IsList l1 xs) (hx : xs[k1]? = none)
    (hE : ∀ h' e, (∀ c o, c ≠ z → c ≠ i1 → s.heap.get? c = some o → h'.get? c = some o) → (∃ o, h'.get? e = some o ∧ o.cls = .type "StopIteration") → E (.ref e) { s with heap := h' }) :
    wpAny (model prog w) A (Builtin.«zip.__next__» ⟨[.ref z], []⟩) Q E s := by
  show wpAny _ _ (field (.ref z) 2 >>= _) _ _ _
  refine wpAny_bind (wpAny_field hz rfl (x := .bool false) rfl ?_)
  show wpAny _ _ (field (.ref z) 3 >>= _) _ _ _
  refine wpAny_bind (wpAny_field hz rfl (x := .ref TI) rfl ?_)
  refine wpAny_bind (wpAny_seqItems hTI rfl ?_)
  show wpAny _ _ (Builtin.SmallTypes.ownedTupleIsFree (.ref z) >>= _) _ _ _
  refine wpAny_bind ?_
  unfold Builtin.SmallTypes.ownedTupleIsFree
  refine wpAny_bind (wpAny_field hz rfl (x := rawInt T) rfl ?_)
  show wpAny _ _ (loadIfAlive (Int.toNat (T : Int)) >>= _) _ _ _
  refine wpAny_bind (PySem.W.kdx_alive (a := T) hT ?_)
  show wpAny _ _ (field (.ref z) 1 >>= _) _ _ _
  refine wpAny_bind (wpAny_field hz rfl (x := .bool f1) rfl ?_)
  refine wpAny_mono (Q := fun a s' => a = false ∧ ∃ h₁, s' = { s with heap := h₁ } ∧ ZipO h₁ z TI TO (rawInt T) true ∧ h₁.objs.size = s.heap.objs.size ∧ ∀ c o, c ≠ z → s.heap.get? c = some o → h₁.get? c = some o) ?_ (fun a s' hq => ?_) (fun _ _ x => x)
  · cases f1 with
    | true => exact wpAny_pure ⟨rfl, s.heap, rfl, hz, rfl, fun c o _ e => e⟩
    | false =>
      show wpAny _ _ (setField (.ref z) 1 (.bool true) >>= _) _ _ _
      refine wpAny_bind (wpAny_setField_rec hz (by simp) fun h₁ hz₁ hs₁ => ?_)
      exact wpAny_pure ⟨rfl, h₁, rfl, hz₁, hs₁.1, fun c o n e => hs₁.extBut _ _ n e⟩
  · obtain ⟨rfl, h₁, rfl, hz₁, z₁, k₁⟩ := hq
    simp only [List.forIn_toArray, List.forIn_cons, List.forIn_nil, Bool.false_eq_true, if_false]
    refine wpAny_bind (wpAny_bind (wpAny_bind (wpAny_holding ?_)))
    show wpAny _ _ (Builtin.SmallTypes.nextOf (.ref i1) >>= _) _ _ _
    refine wpAny_bind (wpAny_nextOf_list_end hh (h1.at fun o e => k₁ _ o D.i1z e) (hl1.at fun o e => k₁ _ o D.l1z e) hx fun h₂ e hs₂ he => ?_)
    exact hE h₂ e (fun c o n1 n2 e => hs₂ _ _ n2 (k₁ _ _ n1 e)) he
theorem pyNext_out {z TI TO i1 i2 l1 l2 T : Addr} {f1 : Bool} {oT : Obj} {k1 k2 : Nat} {xs ys : Array Value} {x y : Value} {Q : Option Value → Shared → Prop} (D : ZipApart z TI TO i1 i2 l1 l2)
    (hz : ZipO s.heap z TI TO (rawInt T) f1) (hT : s.heap.get? T = some oT) (hTI : IsPair s.heap TI (.ref i1) (.ref i2))
    (h1 : s.heap.IsListIter i1 l1 k1) (h2 : s.heap.IsListIter i2 l2 k2) (hl1 : s.heap.IsList l1 xs) (hl2 : s.heap.IsList l2 ys) (hx : xs[k1]? = some x) (hy : ys[k2]? = some y)
    (hQ : ∀ h', ZipO h' z TI TO (rawInt T) true → h'.IsListIter i1 l1 (k1 + 1) → h'.IsListIter i2 l2 (k2 + 1) → IsPair h' s.heap.objs.size x y → h'.objs.size = s.heap.objs.size + 1 →
      (∀ c o, c ≠ z → c ≠ i1 → c ≠ i2 → s.heap.get? c = some o → h'.get? c = some o) → Q (some (.ref s.heap.objs.size)) { s with heap := h' }) :
    wpAny (model prog w) A (pyNext (.ref z)) Q E s := by
  have hT' : s.TypeIs (.ref z) "zip" := ⟨_, hz, rfl⟩
  unfold pyNext
  exact wpAny_bind (wpAny_attempt (wpAny_callSpecial?_slot (name := Str.ofString "__next__") hT' F.slot_zip_next
    (wpAny_call_entry F.slot_zip_next hT' F.entry_zip_next
      (next_out D hz hT hTI h1 h2 hl1 hl2 hx hy fun h' a1 a2 a3 a4 a5 a6 => wpAny_pure (hQ h' a1 a2 a3 a4 a5 a6)) (F.args_zip_next_1 _))))
theorem pyNext_end {z TI TO i1 i2 l1 l2 T : Addr} {f1 : Bool} {oT : Obj} {k1 : Nat} {xs : Array Value} {Q : Option Value → Shared → Prop} (hh : A.handled = none) (D : ZipApart z TI TO i1 i2 l1 l2)
    (hz : ZipO s.heap z TI TO (rawInt T) f1) (hT : s.heap.get? T = some oT) (hTI : IsPair s.heap TI (.ref i1) (.ref i2))
    (h1 : s.heap.IsListIter i1 l1 k1) (hl1 : s.heap.IsList l1 xs) (hx : xs[k1]? = none)
    (hQ : ∀ h', (∀ c o, c ≠ z → c ≠ i1 → s.heap.get? c = some o → h'.get? c = some o) → Q none { s with heap := h' }) : wpAny (model prog w) A (pyNext (.ref z)) Q E s := by
  have hT' : s.TypeIs (.ref z) "zip" := ⟨_, hz, rfl⟩
  unfold pyNext
  refine wpAny_bind (wpAny_attempt (wpAny_callSpecial?_slot (name := Str.ofString "__next__") hT' F.slot_zip_next
    (wpAny_call_entry F.slot_zip_next hT' F.entry_zip_next (end_out hh D hz hT hTI h1 hl1 hx fun h' e hk he => ?_) (F.args_zip_next_1 _))))
  obtain ⟨o, ho, hc⟩ := he
  refine wpAny_bind (wpAny_isInstance (T := "StopIteration") (b := true) ⟨o, ho, hc⟩ isSubtype_stop ?_)
  exact wpAny_pure (hQ _ hk)
/-- the iterator behind i pairs, while the list at S is filled -/
structure ZSt (h : Heap) (z TI TO i1 i2 l1 l2 : Addr) (xs ys : Array Value) (i : Nat) (S : Addr) : Prop where
  ti : IsPair h TI (.ref i1) (.ref i2)
  it1 : h.IsListIter i1 l1 i
  it2 : h.IsListIter i2 l2 i
  ls1 : h.IsList l1 xs
  ls2 : h.IsList l2 ys
  zip : (i = 0 ∧ ZipO h z TI TO .none false ∧ ∃ a b, IsPair h TO a b) ∨ ∃ (T : Addr) (f1 : Bool) (oT : Obj), ZipO h z TI TO (rawInt T) f1 ∧ h.get? T = some oT ∧ T ≠ z ∧ T ≠ i1 ∧ T ≠ i2 ∧ T ≠ S
theorem ZSt.keep {h h' : Heap} {z TI TO i1 i2 l1 l2 S : Addr} {xs ys : Array Value} {i : Nat} (x : ZSt h z TI TO i1 i2 l1 l2 xs ys i S) (hk : ∀ b o, b ≠ S → h.get? b = some o → h'.get? b = some o)
    (n : z ≠ S ∧ TI ≠ S ∧ TO ≠ S ∧ i1 ≠ S ∧ i2 ≠ S ∧ l1 ≠ S ∧ l2 ≠ S) : ZSt h' z TI TO i1 i2 l1 l2 xs ys i S := by
  obtain ⟨n1, n2, n3, n4, n5, n6, n7⟩ := n
  refine ⟨hk _ _ n2 x.ti, x.it1.at fun o e => hk _ o n4 e, x.it2.at fun o e => hk _ o n5 e, x.ls1.at fun o e => hk _ o n6 e, x.ls2.at fun o e => hk _ o n7 e, ?_⟩
  rcases x.zip with ⟨e, a, b, c, d⟩ | ⟨T, f1, oT, a, b, c, d, e, f⟩
  · exact .inl ⟨e, hk _ _ n1 a, b, c, hk _ _ n3 d⟩
  · exact .inr ⟨T, f1, oT, hk _ _ n1 a, hk _ _ f b, c, d, e, f⟩
theorem zst_item {z TI TO i1 i2 l1 l2 S : Addr} {xs ys : Array Value} {i : Nat} {x y : Value} {Q : Option Value → Shared → Prop} (D : ZipApart z TI TO i1 i2 l1 l2) (hst : ZSt s.heap z TI TO i1 i2 l1 l2 xs ys i S) (hS : S < s.heap.objs.size)
    (hx : xs[i]? = some x) (hy : ys[i]? = some y)
    (hQ : ∀ h', ZSt h' z TI TO i1 i2 l1 l2 xs ys (i + 1) S → IsPair h' s.heap.objs.size x y → h'.objs.size = s.heap.objs.size + 1 →
      (∀ c o, c ≠ z → c ≠ TO → c ≠ i1 → c ≠ i2 → s.heap.get? c = some o → h'.get? c = some o) → Q (some (.ref s.heap.objs.size)) { s with heap := h' }) :
    wpAny (model prog w) A (pyNext (.ref z)) Q E s := by
  have lt : ∀ {c o}, s.heap.get? c = some o → s.heap.objs.size ≠ c := fun e => Nat.ne_of_gt (Heap.lt_size e)
  have l1' : s.heap.objs.size ≠ i1 := by obtain ⟨_, e, _⟩ := hst.it1; exact lt e
  have l2' : s.heap.objs.size ≠ i2 := by obtain ⟨_, e, _⟩ := hst.it2; exact lt e
  rcases hst.zip with ⟨e, a, b, c, d⟩ | ⟨T, f1, oT, a, b, c, d, e, f⟩
  · refine wpAny_pyNext_zip_item D a hst.ti d hst.it1 hst.it2 hst.ls1 hst.ls2 hx hy fun h' q1 q2 q3 q4 q5 q6 q7 => ?_
    refine hQ h' ⟨q7 _ _ D.TIz D.TITO D.TIi1 D.TIi2 hst.ti, q3, q4, hst.ls1.at fun o e => q7 _ o D.l1z D.l1TO D.l1i1 D.l1i2 e, hst.ls2.at fun o e => q7 _ o D.l2z D.l2TO D.l2i1 D.l2i2 e, ?_⟩ q5 q6 q7
    exact .inr ⟨_, false, _, q1, q5, lt a, l1', l2', Nat.ne_of_gt hS⟩
  · refine pyNext_out D a b hst.ti hst.it1 hst.it2 hst.ls1 hst.ls2 hx hy fun h' q1 q3 q4 q5 q6 q7 => ?_
    refine hQ h' ⟨q7 _ _ D.TIz D.TIi1 D.TIi2 hst.ti, q3, q4, hst.ls1.at fun o e => q7 _ o D.l1z D.l1i1 D.l1i2 e, hst.ls2.at fun o e => q7 _ o D.l2z D.l2i1 D.l2i2 e, ?_⟩ q5 q6 fun c o n1 _ n3 n4 e => q7 c o n1 n3 n4 e
    exact .inr ⟨T, true, oT, q1, q7 _ _ c d e b, c, d, e, f⟩
/-- the pairs that are made: new, rising, above lo -/
structure ZG (xs ys : Array Value) (lo : Addr) (h : Heap) (as : List Addr) : Prop where
  rise : as.Pairwise (· < ·)
  above : ∀ a ∈ as, lo < a
  pairs : ∀ (j : Nat) (a : Addr), as[j]? = some a → ∃ x y, xs[j]? = some x ∧ ys[j]? = some y ∧ IsPair h a x y
theorem ZG.there {xs ys : Array Value} {lo : Addr} {h : Heap} {as : List Addr} (g : ZG xs ys lo h as) {a : Addr} (ha : a ∈ as) : a < h.objs.size := by
  obtain ⟨j, hj⟩ := List.mem_iff_getElem?.mp ha
  obtain ⟨_, _, _, _, e⟩ := g.pairs j a hj
  exact Heap.lt_size e
end
section
variable {prog : Program} {w : World} {A : Around} {s : Shared} {R : Result → Shared → Prop}
theorem loop {z TI TO i1 i2 l1 l2 S : Addr} {xs ys : Array Value} (hh : A.handled = none) (D : ZipApart z TI TO i1 i2 l1 l2) (hxy : xs.size = ys.size) (hn0 : 0 < xs.size) (hn : xs.size ≤ sizeLine)
    (n : z ≠ S ∧ TI ≠ S ∧ TO ≠ S ∧ i1 ≠ S ∧ i2 ≠ S ∧ l1 ≠ S ∧ l2 ≠ S) (hlow : z < S ∧ TO < S ∧ i1 < S ∧ i2 < S) (res : Value) {h₁ : Heap}
    (hR : ∀ h' tk acc c as, (∀ b o, b ≠ S → b ≠ z → b ≠ TO → b ≠ i1 → b ≠ i2 → h₁.get? b = some o → h'.get? b = some o) → h'.get? S = some { cls := .type "list", dict := none, data := .seq acc c, slots := #[] } → as.length = xs.size → ZG xs ys S h' as →
      acc.toList = as.map Value.ref → R (.ok (.ret res)) { s with heap := h', toks := tk }) :
    ∀ (k i : Nat) (h : Heap) (tk c : Nat) (acc : Array Value) (as : List Addr), xs.size - i = k → i ≤ xs.size → ZSt h z TI TO i1 i2 l1 l2 xs ys i S → (∀ b o, b ≠ S → b ≠ z → b ≠ TO → b ≠ i1 → b ≠ i2 → h₁.get? b = some o → h.get? b = some o) →
      h.get? S = some { cls := .type "list", dict := none, data := .seq acc c, slots := #[] } → acc.toList = as.map Value.ref → as.length = i → ZG xs ys S h as →
      codeAny (model prog w) A (.builtin "list.extend.loop" ⟨[.ref S, .ref z, res], []⟩) R { s with heap := h, toks := tk } := by
  obtain ⟨n1, n2, n3, n4, n5, n6, n7⟩ := id n
  intro k
  induction k with
  | zero =>
    intro i h tk c acc as hk hi hst hkeep hS hacc hal hG
    have hin : i = xs.size := by omega
    refine codeAny_builtin PySem.F.entry_extend_loop ?_
    rw [Around.under_plainId PySem.F.plain_extend_loop _]
    show wpAny _ A.in1 (pyNext (.ref z) >>= _) _ _ _
    rcases hst.zip with ⟨e, _⟩ | ⟨T, f1, oT, a, b, _, _, _, _⟩
    · omega
    refine wpAny_bind (pyNext_end (s := { s with heap := h, toks := tk }) (A := A.in1) hh D a b hst.ti hst.it1 hst.ls1 (Array.getElem?_eq_none (by omega)) fun h' he => ?_)
    refine wpAny_pure (hR h' tk acc c as (fun b o q1 q2 q3 q4 q5 e => he b o q2 q4 (hkeep b o q1 q2 q3 q4 q5 e)) (he S _ (Ne.symm n1) (Ne.symm n4) hS) (by omega) ⟨hG.rise, hG.above, fun j a hj => ?_⟩ hacc)
    obtain ⟨x, y, e1, e2, e3⟩ := hG.pairs j a hj
    have hb := hG.above a (List.mem_of_getElem? hj)
    exact ⟨x, y, e1, e2, he a _ (Nat.ne_of_gt (Nat.lt_trans hlow.1 hb)) (Nat.ne_of_gt (Nat.lt_trans hlow.2.2.1 hb)) e3⟩
  | succ k ih =>
    intro i h tk c acc as hk hi hst hkeep hS hacc hal hG
    have hlt : i < xs.size := by omega
    obtain ⟨x, hx⟩ : ∃ p, xs[i]? = some p := ⟨xs[i], Array.getElem?_eq_getElem hlt⟩
    obtain ⟨y, hy⟩ : ∃ p, ys[i]? = some p := ⟨ys[i], Array.getElem?_eq_getElem (by omega)⟩
    have hsz : acc.size = i := by rw [← Array.length_toList, hacc, List.length_map, hal]
    have hSl : S < h.objs.size := Heap.lt_size hS
    refine codeAny_builtin PySem.F.entry_extend_loop ?_
    rw [Around.under_plainId PySem.F.plain_extend_loop _]
    show wpAny _ A.in1 (pyNext (.ref z) >>= _) _ _ _
    refine wpAny_bind (zst_item (s := { s with heap := h, toks := tk }) (S := S) D hst hSl hx hy fun h' hst' ht hz hkp => ?_)
    dsimp only at ht hz hkp ⊢
    have hS' := hkp S _ (Ne.symm n1) (Ne.symm n3) (Ne.symm n4) (Ne.symm n5) hS
    have up : ∀ b o, b ≠ S → h'.get? b = some o → (h'.update S (Obj.mapSeq (·.push (Value.ref h.objs.size)))).get? b = some o := fun b o hb e => (Heap.get?_update_other _ _ (Ne.symm hb)).trans e
    show wpAny _ A.in1 (updateSeq S (·.push (Value.ref h.objs.size)) >>= _) _ _ _
    refine wpAny_bind ?_
    refine wpAny_updateSeq hS' rfl (wpAny_pure ⟨plainId_quiet PySem.F.plain_extend_loop _, ih (i + 1) _ tk _ (acc.push (Value.ref h.objs.size)) (as ++ [h.objs.size]) (by omega) hlt (hst'.keep up n)
      (fun b o q1 q2 q3 q4 q5 e => up b o q1 (hkp b o q2 q3 q4 q5 (hkeep b o q1 q2 q3 q4 q5 e))) (Heap.get?_update_self _ hS' rfl) (by rw [Array.toList_push, hacc, List.map_append]; rfl) (by rw [List.length_append, hal]; rfl) ⟨?_, ?_, ?_⟩⟩) (by rw [hsz]; omega) (by show (acc.push (Value.ref h.objs.size)).size ≤ sizeLine + 1; rw [Array.size_push, hsz]; omega)
    · refine List.pairwise_append.mpr ⟨hG.rise, List.pairwise_singleton _ _, fun a ha b hb => ?_⟩
      rw [List.mem_singleton.mp hb]
      exact hG.there ha
    · intro a ha
      rcases List.mem_append.mp ha with ha | ha
      · exact hG.above a ha
      · rw [List.mem_singleton.mp ha]; exact hSl
    · intro j b hj
      rcases Nat.lt_trichotomy j as.length with h1 | h1 | h1
      · rw [List.getElem?_append_left h1] at hj
        obtain ⟨x', y', e1, e2, e3⟩ := hG.pairs j b hj
        have hb := hG.above b (List.mem_of_getElem? hj)
        exact ⟨x', y', e1, e2, up b _ (Nat.ne_of_gt hb) (hkp b _ (Nat.ne_of_gt (Nat.lt_trans hlow.1 hb)) (Nat.ne_of_gt (Nat.lt_trans hlow.2.1 hb)) (Nat.ne_of_gt (Nat.lt_trans hlow.2.2.1 hb)) (Nat.ne_of_gt (Nat.lt_trans hlow.2.2.2 hb)) e3)⟩
      · subst h1
        have hb : h.objs.size = b := by simpa using hj
        subst hb
        exact ⟨x, y, by rw [hal]; exact hx, by rw [hal]; exact hy, up _ _ (Nat.ne_of_gt hSl) ht⟩
      · have hnone : (as ++ [h.objs.size])[j]? = none := List.getElem?_eq_none (by rw [List.length_append, List.length_singleton]; omega)
        rw [hnone] at hj; cases hj
end
theorem zip_len : typeLookup (.type "zip") "__len__" = pure none := by rw [typeLookup_type, builtinLookup_eq_fast]; kernel_rfl
theorem zip_hint : typeLookup (.type "zip") "__length_hint__" = pure none := by rw [typeLookup_type, builtinLookup_eq_fast]; kernel_rfl
section
variable {prog : Program} {w : World} {A : Around} {E : Value → Shared → Prop} {s : Shared}
theorem hint {r : Addr} (hT : s.TypeIs (.ref r) "zip") {Q : Bool → Shared → Prop} (h : Q true s) : wpAny (model prog w) A (Builtin.List.listLengthHint (.ref r)) Q E s := by
  unfold Builtin.List.listLengthHint
  refine wpAny_bind (wpAny_specialOf hT zip_len ?_)
  refine wpAny_bind (wpAny_specialOf hT zip_hint ?_)
  exact wpAny_pure h
end
section
variable {prog : Program} {w : World} {A : Around} {E : Value → Shared → Prop} {s : Shared} {z TI TO i1 i2 l1 l2 : Addr} {xs ys : Array Value}
theorem extend {R : Result → Shared → Prop} {S : Addr} (hh : A.handled = none) (D : ZipApart z TI TO i1 i2 l1 l2) (hxy : xs.size = ys.size) (hn0 : 0 < xs.size) (hn : xs.size ≤ sizeLine)
    (n : z ≠ S ∧ TI ≠ S ∧ TO ≠ S ∧ i1 ≠ S ∧ i2 ≠ S ∧ l1 ≠ S ∧ l2 ≠ S) (hlow : z < S ∧ TO < S ∧ i1 < S ∧ i2 < S) (res : Value) (c₀ : Nat) (hz : ZipO s.heap z TI TO .none false)
    (hst : ZSt s.heap z TI TO i1 i2 l1 l2 xs ys 0 S) (hS : s.heap.get? S = some { cls := .type "list", data := .seq #[] c₀ })
    (hR : ∀ h' tk acc c as, (∀ b o, b ≠ S → b ≠ z → b ≠ TO → b ≠ i1 → b ≠ i2 → s.heap.get? b = some o → h'.get? b = some o) → h'.get? S = some { cls := .type "list", dict := none, data := .seq acc c, slots := #[] } → as.length = xs.size → ZG xs ys S h' as →
      acc.toList = as.map Value.ref → R (.ok (.ret res)) { s with heap := h', toks := tk }) :
    wpAny (model prog w) A.in1 (Builtin.List.listExtendWith (.ref S) (.ref z) res)
      (fun fin s' => match fin with | .done f => R (.ok f) s' | .again c' => c'.quiet = true ∧ codeAny (model prog w) A c' R s') (fun e s' => R (.error e) s') s := by
  have hT : s.TypeIs (.ref z) "zip" := ⟨_, hz, rfl⟩
  have key : ∀ (h : Heap) (c₁ tk : Nat), (∀ b o, b ≠ S → s.heap.get? b = some o → h.get? b = some o) → h.get? S = some { cls := .type "list", data := .seq #[] c₁ } →
      codeAny (model prog w) A (.builtin "list.extend.loop" ⟨[.ref S, .ref z, res], []⟩) R { s with heap := h, toks := tk } := by
    intro h c₁ tk hk hS₁
    refine loop (s := s) (h₁ := s.heap) hh D hxy hn0 hn n hlow res hR xs.size 0 h tk c₁ #[] [] (Nat.sub_zero _) (Nat.zero_le _) (hst.keep hk n) (fun b o q _ _ _ _ e => hk b o q e) hS₁ rfl rfl
      ⟨List.Pairwise.nil, (fun _ ha => nomatch ha), (fun j a hj => by simp at hj)⟩
  unfold Builtin.List.listExtendWith
  refine wpAny_bind (wpAny_typeOf (T := "zip") hT ?_)
  have h1 : Builtin.List.listSameRef (.ref S) (.ref z) = false := by simp [Builtin.List.listSameRef, Ne.symm n.1]
  have h2 : (Value.type "zip" == Value.type "list") = false := by decide
  have h3 : (Value.type "zip" == Value.type "tuple") = false := by decide
  simp only [h1, h2, h3, Bool.or_false, Bool.false_eq_true, if_false]
  refine wpAny_bind (wpAny_pyIter_zip hz ?_)
  refine wpAny_bind (wpAny_holding (hint hT ?_))
  refine wpAny_ite_split (fun _ => ?_) (fun _ => wpAny_pure ⟨plainId_quiet PySem.F.plain_extend_loop _, key _ c₀ _ (fun b o _ e => e) hS⟩)
  refine wpAny_bind (wpAny_rule ?_)
  refine wpAny_bind ?_
  show wpAny _ _ (updateSeq S (·.push .none) >>= fun _ => updateSeq S (·.pop)) _ _ _
  refine wpAny_bind (wpAny_updateSeq hS rfl ?_)
  have hS₂ := Heap.get?_update_self (Obj.mapSeq (·.push Value.none)) hS rfl
  refine wpAny_updateSeq (hz := by seq_fits) hS₂ rfl ?_
  have hS₃ := Heap.get?_update_self (Obj.mapSeq (·.pop)) hS₂ rfl
  refine wpAny_pure ⟨plainId_quiet PySem.F.plain_extend_loop _, key _ _ _ (fun b o hb e => ?_) hS₃⟩
  exact (Heap.get?_update_other _ _ (Ne.symm hb)).trans ((Heap.get?_update_other _ _ (Ne.symm hb)).trans e)
theorem init {R : Result → Shared → Prop} {S : Addr} (hh : A.handled = none) (D : ZipApart z TI TO i1 i2 l1 l2) (hxy : xs.size = ys.size) (hn0 : 0 < xs.size) (hn : xs.size ≤ sizeLine)
    (n : z ≠ S ∧ TI ≠ S ∧ TO ≠ S ∧ i1 ≠ S ∧ i2 ≠ S ∧ l1 ≠ S ∧ l2 ≠ S) (hlow : z < S ∧ TO < S ∧ i1 < S ∧ i2 < S) (hz : ZipO s.heap z TI TO .none false)
    (hst : ZSt s.heap z TI TO i1 i2 l1 l2 xs ys 0 S) (hS : s.heap.get? S = some { cls := .type "list", data := .seq #[] })
    (hR : ∀ h' tk acc c as, (∀ b o, b ≠ S → b ≠ z → b ≠ TO → b ≠ i1 → b ≠ i2 → s.heap.get? b = some o → h'.get? b = some o) → h'.get? S = some { cls := .type "list", dict := none, data := .seq acc c, slots := #[] } → as.length = xs.size → ZG xs ys S h' as →
      acc.toList = as.map Value.ref → R (.ok (.ret .none)) { s with heap := h', toks := tk }) :
    wpAny (model prog w) A.in1 (Builtin.«list.__init__» ⟨[.ref S, .ref z], []⟩)
      (fun fin s' => match fin with | .done f => R (.ok f) s' | .again c' => c'.quiet = true ∧ codeAny (model prog w) A c' R s') (fun e s' => R (.error e) s') s := by
  show wpAny _ _ (do let old ← Builtin.List.listItems (.ref S); Builtin.List.listUpdate (.ref S) (fun _ => #[]); letGo old.toList.reverse; Builtin.List.listExtendWith (.ref S) (.ref z) .none) _ _ s
  refine wpAny_bind ?_
  unfold Builtin.List.listItems
  refine wpAny_bind (wpAny_seqItems hS rfl (wpAny_pure ?_))
  show wpAny _ _ (updateSeq S (fun _ => #[]) >>= fun _ => letGo (#[] : Array Value).toList.reverse >>= fun _ => Builtin.List.listExtendWith (.ref S) (.ref z) .none) _ _ s
  refine wpAny_bind (wpAny_updateSeq hS rfl ?_)
  have hS₂ := Heap.get?_update_self (Obj.mapSeq (fun _ => (#[] : Array Value))) hS rfl
  have oth : ∀ b o, b ≠ S → s.heap.get? b = some o → (s.heap.update S (Obj.mapSeq (fun _ => (#[] : Array Value)))).get? b = some o :=
    fun b o hb e => (Heap.get?_update_other _ _ (Ne.symm hb)).trans e
  refine wpAny_bind (wpAny_letGo ?_)
  exact extend hh D hxy hn0 hn n hlow .none _ (oth _ _ n.1 hz) (hst.keep oth n) hS₂ (fun h' tk acc c as hk hS' hl hG hacc => hR h' tk acc c as (fun b o q1 q2 q3 q4 q5 e => hk b o q1 q2 q3 q4 q5 (oth b o q1 e)) hS' hl hG hacc)
theorem call_list_zip {Q : Value → Shared → Prop} (hh : A.handled = none) (D : ZipApart z TI TO i1 i2 l1 l2) (hxy : xs.size = ys.size) (hn0 : 0 < xs.size) (hn : xs.size ≤ sizeLine) (hz : ZipO s.heap z TI TO .none false)
    (hst : ∀ S, s.heap.objs.size ≤ S → ZSt s.heap z TI TO i1 i2 l1 l2 xs ys 0 S)
    (hQ : ∀ h' tk acc c as, (∀ b o, b ≠ z → b ≠ TO → b ≠ i1 → b ≠ i2 → s.heap.get? b = some o → h'.get? b = some o) → h'.get? s.heap.objs.size = some { cls := .type "list", dict := none, data := .seq acc c, slots := #[] } → as.length = xs.size → ZG xs ys s.heap.objs.size h' as →
      acc.toList = as.map Value.ref → Q (.ref s.heap.objs.size) { s with heap := h', toks := tk }) :
    wpAny (model prog w) A (call (.type "list") [.ref z]) Q E s := by
  refine PySem.callType_codes (Q₁ := fun obj s₁ => obj = .ref s.heap.objs.size ∧ s₁ = { s with heap := s.heap.push { cls := .type "list", data := .seq #[] } }) PySem.F.called_list (PySem.F.typeCall_list_1 _) PySem.F.entry_list_init
    (code_list_new _ ⟨rfl, rfl⟩) fun obj s₁ h₁ => ?_
  obtain ⟨rfl, rfl⟩ := h₁
  have hS : (s.heap.push { cls := .type "list", data := .seq #[] }).get? s.heap.objs.size = some { cls := .type "list", data := .seq #[] } := Heap.get?_push_size _ rfl
  have st := hst s.heap.objs.size (Nat.le_refl _)
  have lz : z < s.heap.objs.size := Heap.lt_size hz
  have lTI : TI < s.heap.objs.size := Heap.lt_size st.ti
  have li1 : i1 < s.heap.objs.size := by obtain ⟨_, e, _⟩ := st.it1; exact Heap.lt_size e
  have li2 : i2 < s.heap.objs.size := by obtain ⟨_, e, _⟩ := st.it2; exact Heap.lt_size e
  have ll1 : l1 < s.heap.objs.size := by obtain ⟨_, e, _⟩ := st.ls1; exact Heap.lt_size e
  have ll2 : l2 < s.heap.objs.size := by obtain ⟨_, e, _⟩ := st.ls2; exact Heap.lt_size e
  have lTO : TO < s.heap.objs.size := by
    rcases st.zip with ⟨_, _, a, b, e⟩ | ⟨T, f1, oT, a, _⟩
    · exact Heap.lt_size e
    · have a' := hz.symm.trans a
      cases a'
  have up : ∀ b o, b ≠ s.heap.objs.size → s.heap.get? b = some o → (s.heap.push { cls := .type "list", data := .seq #[] }).get? b = some o := fun b o _ e => Heap.get?_push_of_some _ e
  have n := (⟨Nat.ne_of_lt lz, Nat.ne_of_lt lTI, Nat.ne_of_lt lTO, Nat.ne_of_lt li1, Nat.ne_of_lt li2, Nat.ne_of_lt ll1, Nat.ne_of_lt ll2⟩ : z ≠ s.heap.objs.size ∧ TI ≠ s.heap.objs.size ∧ TO ≠ s.heap.objs.size ∧ i1 ≠ s.heap.objs.size ∧ i2 ≠ s.heap.objs.size ∧ l1 ≠ s.heap.objs.size ∧ l2 ≠ s.heap.objs.size)
  refine ⟨⟨_, hS, rfl⟩, PySem.F.args_list_init_2 _ _, init (A := A.in1) hh D hxy hn0 hn n ⟨lz, lTO, li1, li2⟩ (Heap.get?_push_of_some _ hz) (st.keep up n) hS (fun h' tk acc c as hk hS' hl hG hacc => ?_)⟩
  exact ⟨rfl, hQ h' tk acc c as (fun b o q1 q2 q3 q4 e => hk b o (Nat.ne_of_lt (Heap.lt_size e)) q1 q2 q3 q4 (Heap.get?_push_of_some _ e)) hS' hl hG hacc⟩
end
end ZpL
namespace Rd
open PySem PySem.Spec PyProof.Rows L2
/-- pairs laid at their addresses -/
def putP : Hp → List Addr → List (V × V) → Hp
  | H, a :: as, p :: ps => putP (upd H a (.tup [p.1, p.2])) as ps
  | H, _, _ => H
theorem putP_off {b : Addr} : ∀ (as : List Addr) (ps : List (V × V)) (H : Hp), b ∉ as → putP H as ps b = H b
  | [], _, _, _ => rfl
  | _ :: _, [], _, _ => rfl
  | a :: as, p :: ps, H, h => by
    show putP (upd H a (.tup [p.1, p.2])) as ps b = H b
    rw [putP_off as ps _ (fun z => h (List.mem_cons_of_mem _ z)), upd_ne (fun z => h (by rw [z]; exact List.mem_cons_self))]
theorem putP_at : ∀ (as : List Addr) (ps : List (V × V)) (H : Hp), as.length = ps.length → as.Nodup → ∀ (i : Nat) (a : Addr) (p : V × V), as[i]? = some a → ps[i]? = some p → putP H as ps a = some (.tup [p.1, p.2])
  | [], _, _, _, _, _, _, _, h1, _ => by simp at h1
  | _ :: _, [], _, _, _, _, _, _, _, h2 => by simp at h2
  | a :: as, q :: ps, H, h, hn, i, b, p, h1, h2 => by
    have hn' := List.nodup_cons.mp hn
    show putP (upd H a (.tup [q.1, q.2])) as ps b = _
    cases i with
    | zero =>
      cases h1
      cases h2
      rw [putP_off as ps _ hn'.1, upd_same]
    | succ i => exact putP_at as ps _ (Nat.succ.inj h) hn'.2 i b p (by simpa using h1) (by simpa using h2)
/-- what list(zip(..)) tells of two lists of one length, not empty -/
def rListZip (K : PySem.W.Frag) : V → V → Hp → VK → Prop := fun x y H Q => ∃ (l1 l2 : Addr) (xs ys : List V), x = .ref l1 ∧ y = .ref l2 ∧ SqL K H l1 xs ∧ SqL K H l2 ys ∧ xs.length = ys.length ∧ 0 < xs.length ∧
  ∀ (H' : Hp) (p : Addr) (ts : List Addr), Same H H' → H p = none → H' p = some (.lst (ts.map V.ref)) → ts.length = xs.length →
    (∀ (i : Nat) (t : Addr) (u v : V), ts[i]? = some t → xs[i]? = some u → ys[i]? = some v → H' t = some (.tup [u, v])) → Q (.ref p) H'
def tListZip (K : PySem.W.Frag) (ta tb : TE) : TE := fun σ H Q => ta σ H fun x H1 => tb σ H1 fun y H2 => rListZip K x y H2 Q
theorem r_listZip {K : PySem.W.Frag} {ta tb : TE} {σ : L2.St} {H : Hp} {Q : VK} (k : ta σ H fun x H1 => tb σ H1 fun y H2 => rListZip K x y H2 Q) : tListZip K ta tb σ H Q := k
section
variable {X : Cx} {e e2 : Expr} {ta tb : TE} {p p2 cpos pos : Pos}
theorem zip_laid {pins : List (Addr × Obj)} {σ : L2.St} {H : Hp} {s : Shared} {h' : Heap} {tk : Nat} {xs ys : List V} {us ws : List Value} {acc : Array Value} {c : Nat} {as : List Addr} {S : Addr} (I : Inv X pins σ H s)
    (rx : Vals xs us) (ry : Vals ys ws) (hxy : xs.length = ys.length) (hz : xs.length ≤ sizeLine) (hk : ∀ b o, s.heap.get? b = some o → h'.get? b = some o) (hlo : s.heap.objs.size ≤ S)
    (hS : h'.get? S = some { cls := .type "list", dict := none, data := .seq acc c, slots := #[] }) (hl : as.length = us.toArray.size) (hG : ZpL.ZG us.toArray ws.toArray S h' as) (hacc : acc.toList = as.map Value.ref) :
    ∃ H' : Hp, Same H H' ∧ H S = none ∧ H' S = some (.lst (as.map V.ref)) ∧ as.length = xs.length ∧ (∀ (i : Nat) (t : Addr) (u v : V), as[i]? = some t → xs[i]? = some u → ys[i]? = some v → H' t = some (.tup [u, v])) ∧ Inv X pins σ H' { s with heap := h', toks := tk } := by
  have lx : xs.length = us.length := Paired.length rx
  have la : as.length = xs.length := by rw [hl, lx]; simp
  have hSn : S ∉ as := fun z => Nat.lt_irrefl _ (hG.above _ z)
  have nd : as.Nodup := List.Pairwise.imp (fun {a b} (h : a < b) => Nat.ne_of_lt h) hG.rise
  have new : ∀ t ∈ as, H t = none := fun t ht => I.hok.fresh (Nat.le_trans hlo (Nat.le_of_lt (hG.above t ht)))
  have newS : H S = none := I.hok.fresh hlo
  have lz : (xs.zip ys).length = xs.length := by rw [List.length_zip]; omega
  have atP := putP_at as (xs.zip ys) (upd H S (.lst (as.map V.ref))) (by omega) nd
  have off : ∀ b, b ∉ as → b ≠ S → putP (upd H S (.lst (as.map V.ref))) as (xs.zip ys) b = H b := fun b h1 h2 => by rw [putP_off as _ _ h1, upd_ne h2]
  have low : ∀ b o, s.heap.get? b = some o → b ∉ as ∧ b ≠ S := fun b o e =>
    ⟨fun z => absurd (Heap.lt_size e) (Nat.not_lt.mpr (Nat.le_trans hlo (Nat.le_of_lt (hG.above b z)))), Nat.ne_of_lt (Nat.lt_of_lt_of_le (Heap.lt_size e) hlo)⟩
  have kp : ∀ b u, H b = some u → (putP (upd H S (.lst (as.map V.ref))) as (xs.zip ys)) b = some u := fun b u e => by
    rw [off b (fun z => by rw [new b z] at e; cases e) (fun z => by rw [z, newS] at e; cases e)]
    exact e
  have eS : putP (upd H S (.lst (as.map V.ref))) as (xs.zip ys) S = some (.lst (as.map V.ref)) := by rw [putP_off as _ _ hSn, upd_same]
  have prs : ∀ (i : Nat) (t : Addr) (u v : V), as[i]? = some t → xs[i]? = some u → ys[i]? = some v → putP (upd H S (.lst (as.map V.ref))) as (xs.zip ys) t = some (.tup [u, v]) := fun i t u v h1 h2 h3 =>
    atP i t (u, v) h1 (by rw [List.getElem?_zip_eq_some]; exact ⟨h2, h3⟩)
  refine ⟨putP (upd H S (.lst (as.map V.ref))) as (xs.zip ys), kp, newS, eS, la, prs, ?_⟩
  refine I.call' (ch := []) rfl ⟨fun b o q _ _ _ => hk b o q, fun b o q _ _ _ => ⟨o.slots, hk b o q⟩, fun b o q n _ => ?_, fun b o q _ => ⟨o, hk b o q⟩, fun b xs q => kp b _ q, fun b o u q => kp b _ q, fun b ps q => ⟨#[], by rw [kp b _ q]; simp⟩⟩ (fun b u q => ?_) I.bare fun b z => by simp at z
  · obtain ⟨z1, z2⟩ := low b o q
    rw [off b z1 z2]
    exact n
  · by_cases hb : b ∈ as
    · obtain ⟨j, ej⟩ := List.mem_iff_getElem?.mp hb
      have hj : j < as.length := (List.getElem?_eq_some_iff.mp ej).1
      have h1 : xs[j]? = some (xs[j]'(by omega)) := List.getElem?_eq_getElem _
      have h2 : ys[j]? = some (ys[j]'(by omega)) := List.getElem?_eq_getElem _
      rw [prs j b _ _ ej h1 h2] at q
      cases q
      obtain ⟨x', y', e1, e2, e3⟩ := hG.pairs j b ej
      obtain ⟨u1, f1, r1⟩ := Vals.get rx h1
      obtain ⟨u2, f2, r2⟩ := Vals.get ry h2
      rw [List.getElem?_toArray] at e1 e2
      rw [f1] at e1
      rw [f2] at e2
      cases e1
      cases e2
      exact ⟨by show 2 ≤ sizeLine; decide, [x', y'], .cons r1 (.cons r2 .nil), ⟨_, e3, rfl, _, rfl⟩⟩
    · by_cases hb2 : b = S
      · rw [hb2] at q ⊢
        rw [eS] at q
        cases q
        refine ⟨by rw [List.length_map]; omega, acc.toList, c, by rw [hacc]; exact LiI.vals_refs as, ?_⟩
        rw [Array.toArray_toList]
        exact hS
      · rw [off b hb hb2] at q
        exact (I.hok b u q).stay (fun d v _ y => hk d v y) (fun d y => kp d _ y) fun d xs y => kp d _ y
theorem zip_apart {n l1 l2 : Nat} (h1 : l1 < n) (h2 : l2 < n) : ZipApart (n + 4) (n + 2) (n + 3) n (n + 1) l1 l2 := by
  constructor <;> (show ¬ ((_ : Nat) = _); omega)
/-- list(zip(a, b)) -/
theorem pe_listZip {K : PySem.W.Frag} (hK : X.K = K) (hc : X.calm = true) (hg : Gl X "list") (hm : X.mg "list" = none) (hg2 : Gl X "zip") (hm2 : X.mg "zip" = none) (ha : PE X e ta) (hb : PE X e2 tb)
    (hs : starEach [.Call (.Name "zip" p2) [e, e2] [] cpos] X.env = (false, eval (.Call (.Name "zip" p2) [e, e2] [] cpos) X.env) :: starEach [] X.env := by rfl)
    (hs2 : starEach [e, e2] X.env = (false, eval e X.env) :: starEach [e2] X.env := by rfl) (hs3 : starEach [e2] X.env = (false, eval e2 X.env) :: starEach [] X.env := by rfl) (hpl : (backTo cpos (starEach [e2] X.env)).any (·.1) = false := by rfl) :
    PE X (.Call (.Name "list" p) [.Call (.Name "zip" p2) [e, e2] [] cpos] [] pos) (tListZip K ta tb) := by
  subst hK
  refine ⟨fun pins s σ H Q I hq => ?_⟩
  refine wpAny_Call_Name_kw (ld_blt (u := .type "list") I hg hm (by decide +kernel) ?_)
  refine PyProof.Rows.callWith_type1 ?_ hs rfl
  rw [hs]
  show wpAny _ _ (spliced ((false, eval (.Call (.Name "zip" p2) [e, e2] [] cpos) X.env) :: backTo pos (starEach [] X.env))) _ _ s
  refine Calls.spliced_cons ?_
  refine wpAny_Call_Name_kw (ld_blt I hg2 hm2 PyProof.Rows.boot_zip ?_)
  refine PyProof.Rows.callWith_type1 ?_ hs2 hpl
  have args : PA X [e, e2] (tCons ta (tCons tb tNil)) := pa_cons ha (pa_cons hb pa_nil hs3) hs2
  refine thn (args.run cpos pins s σ H (fun vs H2 => match vs with | [x, y] => rListZip X.K x y H2 Q | _ => False) I hq) fun us s1 ⟨vs, H1, I1, r1, hv⟩ => ?_
  match vs, r1, hv with
  | [x, y], r1, ⟨l1, l2, xs, ys, ex, ey, h1, h2, hxy, h0, q⟩ =>
    subst ex ey
    cases r1 with
    | cons ra rr =>
      cases rr with
      | cons rb rn =>
        cases rn
        cases ra
        cases rb
        obtain ⟨it1, rv1, p1, z1⟩ := I1.list h1
        obtain ⟨it2, rv2, p2', z2⟩ := I1.list h2
        refine call_zip_2 p1.isList p2'.isList fun h5 a1 a2 a3 a4 a5 a6 a7 => ?_
        refine Calls.spliced_nil ?_
        have ll1 : l1 < s1.heap.objs.size := by obtain ⟨_, e, _⟩ := p1.isList; exact Heap.lt_size e
        have ll2 : l2 < s1.heap.objs.size := by obtain ⟨_, e, _⟩ := p2'.isList; exact Heap.lt_size e
        have D := zip_apart ll1 ll2
        have e1 : it1.toArray.size = xs.length := by rw [List.size_toArray]; exact (Paired.length rv1).symm
        have e2 : it2.toArray.size = ys.length := by rw [List.size_toArray]; exact (Paired.length rv2).symm
        refine ZpL.call_list_zip (s := { s1 with heap := h5 }) (I1.ok.hd hc) D (by rw [e1, e2, hxy]) (by rw [e1]; exact h0) (by rw [e1]; exact z1) a1
          (fun S hS => ⟨a2, a4, a5, p1.isList.at fun o e => a7 _ o e, p2'.isList.at fun o e => a7 _ o e, .inl ⟨rfl, a1, _, _, a3⟩⟩) fun h6 tk acc c as k6 hS6 hl6 hG6 hacc => ?_
        have old : ∀ b o, s1.heap.get? b = some o → h6.get? b = some o := fun b o e => by
          have lt : b < s1.heap.objs.size := Heap.lt_size e
          exact k6 b o (Nat.ne_of_lt (Nat.lt_add_right 4 lt)) (Nat.ne_of_lt (Nat.lt_add_right 3 lt)) (Nat.ne_of_lt lt) (Nat.ne_of_lt (Nat.lt_add_right 1 lt)) (a7 b o e)
        obtain ⟨H', g1, g2, g3, g4, g5, J⟩ := zip_laid (tk := tk) I1 rv1 rv2 hxy z1 old (by show s1.heap.objs.size ≤ h5.objs.size; rw [a6]; exact Nat.le_add_right _ _) hS6 hl6 hG6 hacc
        exact ⟨.ref _, H', J, rfl, q H' _ as g1 g2 g3 g4 g5⟩
end
end Rd

/-! ## min(xs, key=lambda x: (abs(x), 0 - x)), xs a list of ints -/
namespace Rd
open PySem PySem.Spec L2 PyProof.Rows LamX
/-- the order of the keys (abs(x), 0 - x), as one number -/
def cod (n : Int) : Int := 2 * (n.natAbs : Int) + (if n < 0 then 1 else 0)
theorem cod_lt (n m : Int) : cod n < cod m ↔ (n.natAbs : Int) < m.natAbs ∨ ((n.natAbs : Int) = m.natAbs ∧ 0 - n < 0 - m) := by
  unfold cod
  split <;> split <;> omega
theorem cod_inj {n m : Int} (h : cod n = cod m) : n = m := by
  unfold cod at h
  split at h <;> split at h <;> omega
/-- an address that no frame, no cell and no pin of the context is -/
structure Loose (X : Cx) (pins : List (Addr × Obj)) (b : Addr) : Prop where
  hi : X.s_0.heap.objs.size ≤ b
  nl : b ≠ X.env.locals
  nc : ∀ x c, X.env.cells.lookup x = some c → c ≠ b
  np : ∀ p ∈ X.pn ++ pins, p.1 ≠ b
  nf : b ∉ X.fs
  ns : b ∉ frs X.stack
section
variable {X : Cx} {pins : List (Addr × Obj)} {σ : L2.St} {H : Hp} {s : Shared}
theorem Loose.of (I : Inv X pins σ H s) {b : Addr} (h : s.heap.objs.size ≤ b) : Loose X pins b where
  hi := Nat.le_trans I.sz h
  nl := Nat.ne_of_gt (Nat.lt_of_lt_of_le I.lt h)
  nc := fun x c e z => by
    obtain ⟨v, o, ho, _⟩ := I.cell x c e
    have h1 := Heap.lt_size ho
    rw [z] at h1
    exact Nat.lt_irrefl _ (Nat.lt_of_lt_of_le h1 h)
  np := fun p hp z => by
    have h1 := Heap.lt_size (I.pin p hp).1
    rw [z] at h1
    exact Nat.lt_irrefl _ (Nat.lt_of_lt_of_le h1 h)
  nf := I.nofs h
  ns := fun z => by
    rcases List.mem_cons.mp (I.stkSub _ z) with e | e
    · have h1 := I.lt
      rw [← e] at h1
      exact Nat.lt_irrefl _ (Nat.lt_of_lt_of_le h1 h)
    · exact I.nofs h e
theorem Inv.moved {wr : List Addr} {s' : Shared} (I : Inv X pins σ H s) (hw : ∀ b ∈ wr, Loose X pins b ∧ H b = none) (m : Moved wr (fun a b => b = a) s s') : Inv X pins σ H s' := by
  have nw : ∀ b, (∃ u, H b = some u) → b ∉ wr := fun b ⟨u, e⟩ z => by
    rw [(hw b z).2] at e
    cases e
  have J : Inv X pins σ H { s with heap := s'.heap, gens := s'.gens, drawn := s'.drawn, toks := s'.toks } := by
    refine I.step (ch := wr) (fun b hb => ⟨.inr (hw b hb).1.hi, (hw b hb).1.nl, (hw b hb).1.nc, (hw b hb).1.np⟩) (fun b o _ _ nb e _ => m.heap b o nb e) (fun b o _ _ nb e _ => ⟨o.slots, m.heap b o nb e⟩) (fun b o _ _ e => e)
      (fun b o nb e => ⟨o, m.heap b o nb e⟩) (fun _ _ e => e) (fun _ _ _ e => e) (fun b ps e => ⟨#[], by rw [Array.append_empty]; exact e⟩) (fun mm hn => ?_) (fun b u e => ?_) (by rw [m.gens]; exact I.bare)
    · obtain ⟨ob, es, ep, ho, r⟩ := hn
      exact ⟨ob, es, ep, m.heap _ ob (fun z => (hw _ z).1.nl rfl) ho, r⟩
    · refine (I.hok b u e).stay (fun d v hd q => m.heap d v ?_ q) (fun d q => q) fun d xs q => q
      rcases hd with z | z
      · rw [z]
        exact nw b ⟨u, e⟩
      · exact nw d ⟨_, z⟩
  have e : s' = { s with heap := s'.heap, gens := s'.gens, drawn := s'.drawn, toks := s'.toks } := by
    have := m.os
    cases s'
    cases s
    cases this
    rfl
  rw [e]
  exact J
/-- behind a call, the state itself -/
theorem Inv.behind {s' : Shared} {Q : VK} {u : Value} (I : Inv X pins σ H s) (h : CE X.stack X.prog X.w H s Q u s') : ∃ v H', Inv X pins σ H' s' ∧ Un (frs X.stack) [] H H' s.heap s'.heap ∧ RelV v u ∧ Q v H' := by
  obtain ⟨v, H', os, bare, un, hok, r, q⟩ := h
  obtain ⟨hh, g, d, t, os'⟩ := s'
  obtain rfl : os' = s.os := os
  exact ⟨v, H', I.call (h' := hh) (g' := g) (d' := d) (t' := t) (ch := []) un hok bare (fun b z => absurd z (by simp)), un, r, q⟩
/-- a lambda of one parameter is called -/
theorem lam1_run {P : Program} {w : World} {K : PySem.W.Frag} {mg : Str → Option Value} {base : Heap} {A : Around} {outer : List Env} {H : Hp} {s : Shared} {q a : Str} {f c' : Addr} {pm ctv : Value} {params : Arguments} {body : Expr} {scope : Scope} {k : Nat} {tb : TE} {v : V} {u : Value} {Q : VK}
    (e0 : Env0 P w K mg base A outer s H) (hr : Room (k + 1) A) (S : FnScope [a] [a] scope) (hf : s.heap.get? f = some (PySem.W.kla_obj "<lambda>" q params body scope [] pm c' ctv)) (hc : H c' = some (CodeO c' q))
    (hbind : ∀ u, bindArgs (PySem.W.kla_fn "<lambda>" q params body scope [] pm (.ref c') ctv) ⟨[u], []⟩ = pure [(a, u)])
    (hbody : PE (cxOf L2.CX0 P w K mg base [a] q scope f (.ref c') A outer s H L2.E0) body tb)
    (r : RelV v u) (h : tb [some v] H Q) :
    codeAny (model P w) A (.call (.ref f) ⟨[u], []⟩) (CR L2.CX0 outer P w H s Q L2.E0) s := by
  have lim : s.heap.NoLimit := e0.mod.nolimit.keeps fun b o e => (e0.bs b o e).1
  obtain ⟨⟨oc, vs, t, hoc, hdc, hvc⟩, _, _⟩ := e0.hok c' _ hc
  refine PySem.W.kla_callFunE hr.depth hf rfl S.co S.gen rfl ⟨c', oc, vs, t, rfl, hoc, hdc, hvc⟩ ?_
  rw [hbind]
  refine wpAny_pure ?_
  have hkind : ∀ y ∈ [(a, u)], scope.names.lookup y.1 = some .local ∨ (scope.names.lookup y.1 = some .cell ∧ ((cellsFrom (s.heap.objs.size + 1) scope.names []).lookup y.1).isSome = true) := fun y hy => by
    rw [List.mem_singleton.mp hy]
    rcases S.par a (List.mem_singleton.mpr rfl) with z | z
    · exact .inl z
    · exact .inr ⟨z, PySem.W.cellsFrom_some _ _ _ (.inl z)⟩
  refine wpAny_newFunctionEnv_cells S.kind hkind fun env he s1 x => ?_
  subst he
  refine ⟨lim.keeps x.toInCall.keep, ?_⟩
  have I : Inv (cxOf L2.CX0 P w K mg base [a] q scope f (.ref c') A outer s H L2.E0) [] (L2.start [a] [v]) H s1 := inv_start (us := [u]) S hr.hd e0 rfl (.cons r .nil) x
  refine PySem.W.kla_codeExpr (wpAny_mono (hbody.run [] _ _ H Q I h) (fun v s' hq => ?_) fun e s' hq => hq)
  obtain ⟨w', H', J', rv, q⟩ := hq
  exact ⟨w', H', J'.os, J'.bare, J'.base, J'.hok, rv, q⟩
/-- a list of ints is walked; the list's object may be another at each step -/
theorem walkI {prog : Program} {w : World} {A : Around} (hh : A.handled = none) (I ax : Addr) (hne : ax ≠ I) (ns : List Int) :
    WalksS prog w A I [I, ax] [I] (fun a b => b = a) ns.length (fun i v => ∃ t, v = .int (ns.getD i 0) t) (fun i s => s.heap.IsListIter I ax i ∧ ∃ its : List Value, IntsAre its ns ∧ s.heap.IsList ax its.toArray) where
  sub := fun b hb => by simp at hb; simp [hb]
  grefl := fun _ => rfl
  gtrans := fun _ _ _ h1 h2 => h2.trans h1
  frame := fun i s h' tk st _ hk => ⟨st.1.at fun o e => hk I (by simp) o e, let ⟨its, r, e⟩ := st.2; ⟨its, r, e.at fun o e => hk ax (by simp) o e⟩⟩
  item := fun i s Q E hi st hQ => by
    obtain ⟨its, r, e⟩ := st.2
    have W := (Walks.list (prog := prog) (w := w) hh I ax hne its.toArray).toS
    have hl : its.toArray.size = ns.length := by rw [List.size_toArray]; exact r.length
    refine W.item i s Q E (by omega) ⟨st.1, e⟩ fun v s' hP hst m => ?_
    obtain ⟨t, ht⟩ := r.get i (ns.getD i 0) (by rw [List.getD_eq_getElem?_getD, List.getElem?_eq_getElem hi] <;> rfl)
    refine hQ v s' ⟨t, ?_⟩ ⟨hst.1, its, r, hst.2⟩ m
    have hP' : its[i]? = some v := by simpa using hP
    rw [ht] at hP'
    exact (Option.some.inj hP').symm
  done := fun s Q E st hQ => by
    obtain ⟨its, r, e⟩ := st.2
    have W := (Walks.list (prog := prog) (w := w) hh I ax hne its.toArray).toS
    have hl : its.toArray.size = ns.length := by rw [List.size_toArray]; exact r.length
    refine W.done s Q E ⟨?_, e⟩ hQ
    rw [hl]
    exact st.1
  self := fun i s Q E st hQ => wpAny_pyIter_listiter st.1 hQ
/-- the object of the key of n -/
def KeyOb (o : Obj) (n : Int) : Prop := ∃ t1 t2 c, o.cls = .type "tuple" ∧ o.data = .seq #[.int n.natAbs t1, .int (0 - n) t2] c
theorem keys_lt {A : Around} {s : Shared} {t u : Addr} {ot ou : Obj} {n m : Int} (hu : A.units < cLine) (h1 : s.heap.get? t = some ot) (k1 : KeyOb ot n) (h2 : s.heap.get? u = some ou) (k2 : KeyOb ou m) :
    Ob.RcOp .Lt A s (.ref t) (.ref u) (decide (cod n < cod m)) := by
  obtain ⟨t1, t2, c, hc, hd⟩ := k1
  obtain ⟨u1, u2, c', hc', hd'⟩ := k2
  have beq : ∀ a b : Int, (a == b) = decide (a = b) := fun a b => by
    by_cases q : a = b
    · rw [decide_eq_true q]; exact beq_iff_eq.mpr q
    · rw [decide_eq_false q]; exact beq_eq_false_iff_ne.mpr q
  have R := Ob.RcOp.tuples_lt (A := A) (s := s) (l := t) (b := u) (items := #[.int n.natAbs t1, .int (0 - n) t2]) (items2 := #[.int m.natAbs u1, .int (0 - m) u2])
    (e := fun j => if j = 0 then decide ((n.natAbs : Int) = m.natAbs) else decide (0 - n = 0 - m)) (r := fun j => if j = 0 then decide ((n.natAbs : Int) < m.natAbs) else decide (0 - n < 0 - m)) ⟨ot, h1, hc, c, hd⟩ ⟨ou, h2, hc', c', hd'⟩ hu
    (fun j a b => by
      have hj : j < 2 := a
      match j, hj with
      | 0, _ => rw [if_pos rfl, ← beq]; exact SeqAt.EqAt.int_int _ _ _ _
      | 1, _ => rw [if_neg (by decide), ← beq]; exact SeqAt.EqAt.int_int _ _ _ _)
    (fun j a b _ => by
      have hj : j < 2 := a
      match j, hj with
      | 0, _ => rw [if_pos rfl]; exact Ob.RcOp.lt_int _ _ _ _
      | 1, _ => rw [if_neg (by decide)]; exact Ob.RcOp.lt_int _ _ _ _)
  have e : Ob.lexAt (fun j => if j = 0 then decide ((n.natAbs : Int) = m.natAbs) else decide (0 - n = 0 - m)) (fun j => if j = 0 then decide ((n.natAbs : Int) < m.natAbs) else decide (0 - n < 0 - m)) (decide (2 < 2)) 0 2 = decide (cod n < cod m) := by
    have i := cod_lt n m
    rw [Ob.lexAt_succ, Ob.lexAt_succ, Ob.lexAt_zero]
    simp only [if_true, Nat.zero_add, Nat.succ_ne_zero, if_false, decide_eq_true_eq, Nat.one_ne_zero]
    by_cases a : (n.natAbs : Int) = m.natAbs
    · rw [if_pos a]
      by_cases b : 0 - n = 0 - m
      · rw [if_pos b]
        refine (decide_eq_decide.mpr ?_)
        rw [i]
        omega
      · rw [if_neg b]
        refine (decide_eq_decide.mpr ?_)
        rw [i]
        omega
    · rw [if_neg a]
      refine (decide_eq_decide.mpr ?_)
      rw [i]
      omega
  rw [← e]
  exact R
/-- what the loop of min keeps: the tracked heap has only grown -/
def MkJ (X : Cx) (pins : List (Addr × Obj)) (σ : L2.St) (H : Hp) (l f c' I S : Addr) (q : Str) (fo : Obj) (s : Shared) : Prop := ∃ H', Inv X pins σ H' s ∧ Same H H' ∧ H' I = none ∧ H' S = none ∧ H' f = none ∧ s.heap.get? f = some fo ∧ ∀ b o, H b = none → H' b = some o → ∃ xs, o = .tup xs
/-- f tells the key of the i-th -/
def MkV (X : Cx) (H : Hp) (ns : List Int) (I S : Addr) (i : Nat) (k : Value) (s : Shared) : Prop := ∃ t o, k = .ref t ∧ (H t = none ∧ t ∉ frs X.stack) ∧ t ≠ I ∧ t ≠ S ∧ s.heap.get? t = some o ∧ KeyOb o (ns.getD i 0)
theorem min_key {K : PySem.W.Frag} {k : Nat} {q a : Str} {l f c' : Addr} {pm ctv : Value} {params : Arguments} {body : Expr} {scope : Scope} {ns : List Int} {tb : TE} {Q : VK} (hK : X.K = K) (hcalm : X.calm = true)
    (I : Inv X pins σ H s) (hr : Room (k + 2) X.A) (hl : SqL K H l (ns.map V.int)) (hne : 0 < ns.length) (S : FnScope [a] [a] scope) (hf : s.heap.get? f = some (PySem.W.kla_obj "<lambda>" q params body scope [] pm c' ctv)) (hfn : H f = none) (hfr : f ∉ frs X.stack) (hc : H c' = some (CodeO c' q))
    (hbind : ∀ u, bindArgs (PySem.W.kla_fn "<lambda>" q params body scope [] pm (.ref c') ctv) ⟨[u], []⟩ = pure [(a, u)])
    (hbody : ∀ (A : Around) (outer : List Env) (s : Shared) (H : Hp), PE (cxOf L2.CX0 X.prog X.w X.K X.mg X.base [a] q scope f (.ref c') A outer s H L2.E0) body tb)
    (htb : ∀ (n : Int) (H : Hp) (Q : VK), (∀ t, H t = none → Q (.ref t) (upd H t (.tup [.int n.natAbs, .int (0 - n)]))) → tb [some (.int n)] H Q)
    (h : ∀ m H', m ∈ ns → (∀ y ∈ ns, cod m ≤ cod y) → Same H H' → Q (.int m) H') :
    wpAny (model X.prog X.w) X.A (call (.builtin "min") [.ref l] [(Str.ofString "key", .ref f)]) (EP X pins σ Q) X.xe s := by
  subst hK
  obtain ⟨its, r0, pl, _⟩ := I.list hl
  have hlL : l < s.heap.objs.size := by
    obtain ⟨o, e, _⟩ := pl.isList
    exact Heap.lt_size e
  have hlt : f < s.heap.objs.size := Heap.lt_size hf
  refine call_min_walkK (wpAny_pyIter_list pl.isList ?_)
  have I2 : Inv X pins σ H { s with heap := s.heap.push { cls := .type "list_iterator", data := .fields #[.ref l, .int 0 0] } } := I.kept (t' := s.toks) fun b o e => Heap.get?_push_of_some _ e
  have hsz : (s.heap.push { cls := .type "list_iterator", data := .fields #[.ref l, .int 0 0] }).objs.size = s.heap.objs.size + 1 := Heap.size_push _ _
  have lI : Loose X pins s.heap.objs.size := Loose.of I (Nat.le_refl _)
  have lS : Loose X pins (s.heap.push { cls := .type "list_iterator", data := .fields #[.ref l, .int 0 0] }).objs.size := Loose.of I2 (Nat.le_refl _)
  have nI : H s.heap.objs.size = none := I.hok.fresh (Nat.le_refl _)
  have nS : H (s.heap.push { cls := .type "list_iterator", data := .fields #[.ref l, .int 0 0] }).objs.size = none := I2.hok.fresh (Nat.le_refl _)
  have hIt : (s.heap.push { cls := .type "list_iterator", data := .fields #[.ref l, .int 0 0] }).get? s.heap.objs.size = some { cls := .type "list_iterator", data := .fields #[.ref l, .int 0 0] } := Heap.get?_push_size _ rfl
  have hf2 : (s.heap.push { cls := .type "list_iterator", data := .fields #[.ref l, .int 0 0] }).get? f = some (PySem.W.kla_obj "<lambda>" q params body scope [] pm c' ctv) := Heap.get?_push_of_some _ hf
  have hpl2 : (s.heap.push { cls := .type "list_iterator", data := .fields #[.ref l, .int 0 0] }).IsList l its.toArray := pl.isList.at fun o e => Heap.get?_push_of_some _ e
  generalize hSe : (s.heap.push { cls := .type "list_iterator", data := .fields #[.ref l, .int 0 0] }).objs.size = Sa at lS nS hsz
  have fI : f ≠ s.heap.objs.size := Nat.ne_of_lt hlt
  have fS : f ≠ Sa := by rw [hsz]; exact Nat.ne_of_lt (Nat.lt_succ_of_lt hlt)
  have SI : Sa ≠ s.heap.objs.size := by rw [hsz]; exact Nat.succ_ne_self _
  have lIne : l ≠ s.heap.objs.size := Nat.ne_of_lt hlL
  refine ⟨s.heap.objs.size, [s.heap.objs.size, l], [s.heap.objs.size], fun a b => b = a, ns.length, _, _, MkJ X pins σ H l f c' s.heap.objs.size Sa q (PySem.W.kla_obj "<lambda>" q params body scope [] pm c' ctv), MkV X H ns s.heap.objs.size Sa, fun i j => decide (cod (ns.getD i 0) < cod (ns.getD j 0)), rfl,
    walkI (A := X.A.in1) (I.ok.hd hcalm) s.heap.objs.size l lIne ns, ⟨⟨_, hIt, rfl, rfl⟩, its, Vals.ints r0, hpl2⟩, fun b hb => ?_, hne, ?_, ⟨H, I2, Same.refl _, nI, nS, hfn, hf2, fun b o e1 e2 => by rw [e1] at e2; cases e2⟩, fun v s' hP hJ => ?_⟩
  · show b < Sa
    rw [hsz]
    rcases List.mem_cons.mp hb with e | hb
    · rw [e]
      exact Nat.lt_succ_self _
    · rw [List.mem_singleton.mp hb]
      exact Nat.lt_succ_of_lt hlL
  · refine ⟨fun s1 s2 hJ m => ?_, fun i kx s1 s2 hV m => ?_, fun i v s1 o Q1 E1 hi hP hJ hst hS hQ => ?_, fun i j ki kj s1 Q1 E1 hJ hi hj hQ => ?_⟩
    · obtain ⟨H', I', sm, n1, n2, n3, e, tp⟩ := hJ
      refine ⟨H', Inv.moved I' (fun b hb => ?_) m, sm, n1, n2, n3, m.heap f _ (fun z => ?_) e, tp⟩
      · rcases List.mem_cons.mp hb with e | hb
        · rw [e]
          exact ⟨lS, n2⟩
        · rw [List.mem_singleton.mp hb]
          exact ⟨lI, n1⟩
      · rcases List.mem_cons.mp z with z | z
        · exact fS z
        · exact fI (List.mem_singleton.mp z)
    · obtain ⟨t, o, e, n0, n1, n2, ht, ko⟩ := hV
      refine ⟨t, o, e, n0, n1, n2, m.heap t o (fun z => ?_) ht, ko⟩
      rcases List.mem_cons.mp z with z | z
      · exact n2 z
      · exact n1 (List.mem_singleton.mp z)
    · obtain ⟨H', I', sm, n1, n2, n3, e, tp⟩ := hJ
      obtain ⟨tt, ev⟩ := hP
      have ev : v = .int (ns.getD i 0) tt := ev
      subst ev
      have hx := lam1_run (tb := tb) (v := .int (ns.getD i 0)) (u := .int (ns.getD i 0) tt) (Q := fun v H'' => ∃ t, v = .ref t ∧ H' t = none ∧ H'' t = some (.tup [.int (ns.getD i 0).natAbs, .int (0 - ns.getD i 0)]) ∧ Same H' H'' ∧ ∀ b o, H' b = none → H'' b = some o → ∃ xs, o = .tup xs)
        I'.env0.in1 (show Room (k + 1) X.A.in1 from hr.in1) S e (sm _ _ hc) hbind (hbody _ _ _ _) ⟨tt, rfl⟩ (htb _ _ _ fun t nt => ⟨t, rfl, nt, upd_same, same_new nt, fun b o e1 e2 => by
          by_cases z : b = t
          · rw [z, upd_same] at e2
            exact ⟨_, (Option.some.inj e2).symm⟩
          · rw [upd_ne z, e1] at e2
            cases e2⟩)
      refine wpAny_call (codeAny_mono hx fun r s2 hq => ?_)
      cases r with
      | error e => exact (show False from hq).elim
      | ok fl =>
        cases fl with
        | next => exact False.elim hq
        | brk => exact False.elim hq
        | cont => exact False.elim hq
        | ret u =>
          obtain ⟨v2, H2, I2', un, rv, t, rfl, nt, ht, sm2, tp2⟩ := Inv.behind I' hq
          obtain rfl : u = Value.ref t := rv
          obtain ⟨ob, hot, hct, ⟨c2, hdt⟩⟩ : ∃ ob, s2.heap.get? t = some ob ∧ ob.cls = .type "tuple" ∧ ∃ c, ∃ t1 t2, ob.data = .seq #[.int (ns.getD i 0).natAbs t1, .int (0 - ns.getD i 0) t2] c := by
            obtain ⟨its2, rv2, ⟨ob, h1, h2, c, h3⟩, _⟩ := I2'.tuple (xs := [.int (ns.getD i 0).natAbs, .int (0 - ns.getD i 0)]) (SqT.of ht)
            cases rv2 with
            | cons ra rr =>
              cases rr with
              | cons rb rr =>
                cases rr
                obtain ⟨t1, rfl⟩ := ra
                obtain ⟨t2, rfl⟩ := rb
                exact ⟨ob, h1, h2, c, t1, t2, h3⟩
          obtain ⟨t1, t2, hdt⟩ := hdt
          have keepI : ∀ {b ob}, s1.heap.get? b = some ob → H' b = none → b ∉ frs X.stack → s2.heap.get? b = some ob := fun e1 e2 e3 => un.keep _ _ e1 e2 e3 (by simp)
          obtain ⟨⟨oI, eI, cI, dI⟩, _⟩ := hst
          obtain ⟨its2, rv2, pl2, _⟩ := I2'.list ((sm.trans sm2).seq hl)
          have nI2 : H2 s.heap.objs.size = none := un.free _ _ eI n1 (by simp)
          have nS2 : H2 Sa = none := un.free _ _ hS n2 (by simp)
          refine hQ _ _ ⟨H2, I2', sm.trans sm2, nI2, nS2, un.free _ _ e n3 (by simp), keepI e n3 hfr, fun b o e1 e2 => ?_⟩ ⟨⟨oI, keepI eI n1 lI.ns, cI, dI⟩, its2, Vals.ints rv2, pl2.isList⟩ (keepI hS n2 lS.ns) ⟨t, ob, rfl, ⟨Same.free sm nt, fun z => ?_⟩, fun z => ?_, fun z => ?_, hot, t1, t2, c2, hct, hdt⟩ fun j kj hV => ?_
          · cases q : H' b with
            | none => exact tp2 b o q e2
            | some o' =>
              have e3 := sm2 _ _ q
              rw [e2] at e3
              cases e3
              exact tp b o e1 q
          · have e3 := I2'.stkFree t z
            rw [e3] at ht
            cases ht
          · rw [z, nI2] at ht
            cases ht
          · rw [z, nS2] at ht
            cases ht
          · obtain ⟨tj, oj, ej, ⟨m0, m00⟩, m1, m2, htj, kj⟩ := hV
            cases q : H' tj with
            | none => exact ⟨tj, oj, ej, ⟨m0, m00⟩, m1, m2, keepI htj q m00, kj⟩
            | some o' =>
              obtain ⟨xs, rfl⟩ := tp tj o' m0 q
              obtain ⟨its1, ra1, ⟨ob1, g1, g2, g3, g4⟩, _⟩ := I'.tuple (SqT.of q)
              rw [htj] at g1
              cases g1
              obtain ⟨u1, u2, c3, k1, k2⟩ := kj
              rw [k2] at g4
              obtain ⟨its3, ra3, ⟨ob3, f1, f2, f3, f4⟩, _⟩ := I2'.tuple (SqT.of (un.tups _ _ q))
              have ei : its1 = [.int (ns.getD j 0).natAbs u1, .int (0 - ns.getD j 0) u2] := by
                have z := congrArg (fun d => match d with | Data.seq a _ => a.toList | _ => []) g4
                simpa using z.symm
              subst ei
              cases ra1 with
              | cons ra rr =>
                cases rr with
                | cons rb rr =>
                  cases rr
                  obtain rfl := ra.inj (y := .int (ns.getD j 0).natAbs) ⟨u1, rfl⟩
                  obtain rfl := rb.inj (y := .int (0 - ns.getD j 0)) ⟨u2, rfl⟩
                  cases ra3 with
                  | cons rc rr =>
                    cases rr with
                    | cons rd rr =>
                      cases rr
                      obtain ⟨w1, rfl⟩ := rc
                      obtain ⟨w2, rfl⟩ := rd
                      exact ⟨tj, ob3, ej, ⟨m0, m00⟩, m1, m2, f1, w1, w2, f3, f2, f4⟩
    · obtain ⟨t, o, rfl, _, _, _, ht, ko⟩ := hi
      obtain ⟨u, o2, rfl, _, _, _, hu, ko2⟩ := hj
      exact keys_lt (A := X.A.in1) (hr.in1.units0) ht ko hu ko2 _ _ _ _ hQ
  · obtain ⟨H', I', sm, _⟩ := hJ
    obtain ⟨b1, b2⟩ := argBest_lt (fun i => cod (ns.getD i 0)) (ns.length - 1)
    obtain ⟨t, ht⟩ := hP
    have ht : v = .int (ns.getD (argBest (fun i j => decide (cod (ns.getD i 0) < cod (ns.getD j 0))) (ns.length - 1)) 0) t := ht
    rw [ht]
    refine ⟨.int _, H', I', ⟨t, rfl⟩, h _ _ ?_ (fun y hy => ?_) sm⟩
    · have hb : argBest (fun i j => decide (cod (ns.getD i 0) < cod (ns.getD j 0))) (ns.length - 1) < ns.length := by omega
      rw [List.getD_eq_getElem?_getD, List.getElem?_eq_getElem hb]
      exact List.getElem_mem hb
    · obtain ⟨i, hi, e⟩ := List.mem_iff_getElem.mp hy
      have e2 : ns.getD i 0 = y := by rw [List.getD_eq_getElem?_getD, List.getElem?_eq_getElem hi, ← e] <;> rfl
      rw [← e2]
      exact b2 i (by omega)
end
theorem ExtN.sq {K : PySem.W.Frag} {H H' : Hp} {a : Addr} {xs : List V} (e : ExtN H H') (h : SqL K H a xs) : SqL K H' a xs := by
  rcases h with (h | ⟨o, h⟩) | h
  · exact .inl (.inl (e _ _ h fun ps z => nomatch z))
  · exact .inl (.inr ⟨o, e _ _ h fun ps z => nomatch z⟩)
  · exact .inr h
def rMinKey (K : PySem.W.Frag) (T : List (Addr × Str)) (vs : List V) (H1 : Hp) (Q : VK) : Prop := ∃ (l : Addr) (ns : List Int), vs = [.ref l] ∧ SqL K H1 l (ns.map V.int) ∧ 0 < ns.length ∧ Tabs T H1 ∧
  ∀ m H', m ∈ ns → (∀ y ∈ ns, cod m ≤ cod y) → ExtN H1 H' → Tabs T H' → Q (.int m) H'
def tMinKey (K : PySem.W.Frag) (T : List (Addr × Str)) (te : TE) : TE := fun σ H Q => tCons te tNil σ H fun vs H1 => rMinKey K T vs H1 Q
theorem r_minKey {K : PySem.W.Frag} {T : List (Addr × Str)} {te : TE} {σ : L2.St} {H : Hp} {Q : VK} (k : te σ H fun x H1 => rMinKey K T [x] H1 Q) : tMinKey K T te σ H Q := k
theorem pe_minKey {X : Cx} {K : PySem.W.Frag} {T : List (Addr × Str)} {te tb : TE} {e body : Expr} {params : Arguments} {scope : Scope} {a : Str} {k : Nat} {c P : Addr} {p pos lpos kpos : Pos} (hK : X.K = K) (hg : Gl X "min") (hm : X.mg "min" = none) (he : PE X e te)
    (TB : TabB X.base X.mg c P) (hcode : X.env.code = .ref c) (hmT : (P, X.env.qual ++ "<lambda>") ∈ T) (hu : ∀ p ∈ T, p.1 = P → p.2 = X.env.qual ++ "<lambda>") (hr : Room (k + 2) X.A) (S : FnScope [a] [a] scope) (hclo : cloFrom X.env.cells scope.names [] = [])
    (hdef : defaultsOf params X.env = ([], [])) (hbind : ∀ (q : Str) (pm cv ctv u : Value), bindArgs (PySem.W.kla_fn "<lambda>" q params body scope [] pm cv ctv) ⟨[u], []⟩ = pure [(a, u)])
    (hbody : ∀ (f : Addr) (cd : Value) (A : Around) (outer : List Env) (s : Shared) (H : Hp), PE (cxOf L2.CX0 X.prog X.w X.K X.mg X.base [a] (X.env.qual ++ "<lambda>") scope f cd A outer s H L2.E0) body tb)
    (htb : ∀ (n : Int) (H : Hp) (Q : VK), (∀ t, H t = none → Q (.ref t) (upd H t (.tup [.int n.natAbs, .int (0 - n)]))) → tb [some (.int n)] H Q)
    (hcalm : X.calm = true := by rfl) (na : starEach [e] X.env = (false, eval e X.env) :: starEach [] X.env := by rfl)
    (hs : backTo pos (starEach [e] X.env) = (false, eval e X.env) :: backTo pos (starEach [] X.env) := by rfl) (hpl : (backTo pos (starEach [e] X.env)).any (·.1) = false := by rfl) :
    PE X (.Call (.Name "min" p) [e] [⟨some "key", .Lambda params body scope lpos, kpos⟩] pos) (tMinKey K T te) := by
  subst hK
  refine ⟨fun pins s σ H Q I h => ?_⟩
  have hfree : ∀ y ∈ scope.names, y.2 = .free → ∃ c, X.env.cells.lookup y.1 = some c := fun y hy z => absurd z (S.nofree y hy)
  refine wpAny_Call_Name_kw (ld_blt (u := .builtin "min") I hg hm (by decide +kernel) ?_)
  refine PyProof.Rows.callWith_kw (thn ((pa_cons he pa_nil na).run pos pins s σ H _ I h) fun us s1 ⟨vs, H1, I1, r1, q1⟩ => ?_) hs hpl (by rfl) (by rfl)
  obtain ⟨l, ns, rfl, hl, hne, hT, q1⟩ := q1
  rw [Vals.ref1 r1]
  show wpAny _ _ (evalAll [(do let v ← eval (.Lambda params body scope lpos) X.env; standAt pos; pure v)]) _ _ s1
  refine wpAny_evalAll_cons (wpAny_bind (lam_make2 I1 TB hcode hmT hu hT hdef hfree fun f c' pm ctv H2 s2 I2 eN T2 hf hfn hfr hco => wpAny_bind (wpAny_standAt (wpAny_pure (wpAny_evalAll_nil ?_)))))
  rw [hclo] at hf
  show wpAny _ _ (call (.builtin "min") [.ref l] [(Str.ofString "key", .ref f)]) _ _ s2
  exact min_key rfl hcalm I2 hr (ExtN.sq eN hl) hne S hf hfn hfr hco (fun u => hbind _ _ _ _ u) (fun A outer s H => hbody f (.ref c') A outer s H) htb fun m H' m1 m2 sm => q1 m H' m1 m2 (eN.trans (ExtN.of sm)) (T2.ext sm)
end Rd

/-! ## defs with a table of code objects, and the end of a law with such tables -/
namespace Rd
open PySem PySem.Spec L2 PyProof.Rows LamX
/-- the def st stands at the name x; c is its code object, P that one's table -/
structure FunTab (K : PySem.W.Frag) (mg : Str → Option Value) (x : Str) (st : Stmt) (c P : Addr) : Prop where
  ex : ∃ (f : Addr) (oc : Value) (od an : Option Addr) (kV doc pm ct : Value) (osl : Array (Option Value)),
    K.lookup f = some ⟨oc, od, .func (PySem.W.fnOf x x (defArgs st) (defBody st) (defScope st) .none kV doc pm an (.ref c) ct), osl⟩ ∧ PySem.W.codeIn K (.ref c) x = true ∧ PySem.W.keepIn K (.ref f) = true ∧ mg x = some (.ref f)
section
variable {P : Program} {w : World} {K : PySem.W.Frag} {mg : Str → Option Value} {base : Heap}
theorem FunTab.ok {x : Str} {st : Stmt} {N ps : List Str} {k : Nat} {sp : Sp} {c Pt : Addr} (F : FunTab K mg x st c Pt) (S : FnScope N ps (defScope st)) (bo : BindOk x st ps) (len : ∀ vs H Q E, sp vs H Q E → vs.length = ps.length)
    (hbody : ∀ (f : Addr) (A : Around) (outer : List Env) (s : Shared) (H : Hp) (vs : List V) (Q : VK) (E : XK), Room k (A.deeper (envOfC x (defScope st) s.heap.objs.size f (.ref c))) → sp vs H Q E →
      ∃ t, PSs (cxOf L2.CX0 P w K mg base N x (defScope st) f (.ref c) A outer s H E).nox (defBody st) t ∧ t { nx := fun _ H' => Q .non H', rt := Q } (L2.start N vs) H) : Has P w K mg base L2.CX0 (k + 1) x sp := by
  obtain ⟨f, oc, od, an, kV, doc, pm, ct, osl, lk, hcd, kp, hm⟩ := F.ex
  refine ⟨f, _, ps, fn_of lk hcd S len fun A outer s H vs Q E hr hsp => ?_, hm, kp, Binds.all (bo kV doc pm an (.ref c) ct)⟩
  obtain ⟨t, h, q⟩ := hbody f A outer s H vs Q E hr hsp
  exact ⟨t, h.nox, q⟩
theorem tab_code {K : PySem.W.Frag} {x : Str} {f c Pt : Addr} {oc : Value} {od : Option Addr} {fd : FuncData} {osl : Array (Option Value)} (a : PySem.W.nsIn K mainGlobals x = some (some (.ref f))) (l : K.lookup f = some ⟨oc, od, .func fd, osl⟩) (t : PySem.W.tabIn K x = some (c, Pt)) : fd.code = .ref c := by
  unfold PySem.W.tabIn at t
  rw [a] at t
  dsimp only at t
  rw [l] at t
  dsimp only at t
  split at t
  · rename_i c' hc
    split at t
    · split at t
      · have z := Option.some.inj t
        have z1 : c' = c := congrArg Prod.fst z
        rw [hc, z1]
      · cases t
    · cases t
  · cases t
theorem FunTab.mk' {x : Str} {st : Stmt} {h : Heap} {c Pt : Addr} (X : K.In h) (G : h.Ns mainGlobals mg) {f : Addr} {oc : Value} {od an : Option Addr} {osl : Array (Option Value)} {kV doc pm cdv ct : Value}
    (a : PySem.W.nsIn K mainGlobals x = some (some (.ref f)))
    (l : K.lookup f = some ⟨oc, od, .func (PySem.W.fnOf x x (defArgs st) (defBody st) (defScope st) .none kV doc pm an cdv ct), osl⟩)
    (cc : PySem.W.codeIn K cdv x = true) (k : PySem.W.keepIn K (.ref f) = true) (t : PySem.W.tabIn K x = some (c, Pt)) : FunTab K mg x st c Pt := by
  have e : cdv = .ref c := tab_code a l t
  subst e
  exact ⟨f, oc, od, an, kV, doc, pm, ct, osl, l, cc, k, PySem.W.mg_of X G a⟩
end
/-- what the end knows of the tables of the defs named xs -/
def TabsAt (q : Program) (K : PySem.W.Frag) (h : Heap) : Prop := ∀ (x : Str) (c P : Addr), ((recsOf q).any fun e => e.name == x) = true → PySem.W.tabIn K x = some (c, P) → PySem.W.CodeHd h c P ∧ h.get? P = some { cls := .none, data := .fields #[] }
theorem walk_tabs {l : PySem.W.OpenLaw} {n k : Nat} {q : Program} {loose : List Str} {XP : (Str → Option Value) → Heap → Prop} {YP : World → Heap → Prop} {d : DefRec} {K : Params → PySem.W.Frag} {CX : World → CXT} {x : Str}
    (hn : l.most = some n) (hn2 : n ≤ sizeLine) (hdf : d.params.defaults = []) (hr : Room k callerA) (hY : ∀ (w : World) (h : Heap), YP w h → (K w.params).In h)
    (F : ∀ (w : World) (mg : Str → Option Value) (fa : Addr) (h : Heap), YP w h → (K w.params).In h → h.Ns mainGlobals mg → mg d.name = some (.ref fa) → TabsAt q (K w.params) h → LawAtS l w (K w.params) (CX w) k n x mg fa h)
    (hCX : ∀ (w : World) (H : Hp) (s : Shared) (e : Value) (s' : Shared), CX w [] H s (fun _ _ _ => False) e s' → False) :
    PySem.W.WalkO q loose XP YP l.row.toRowW d [] (fun f vs => PySem.call f vs) := by
  refine Att.attach_callB hn hdf fun w s₀ s₁ mg mb fa o pm cd doc a vs ns G Y ho hd hcd hmg hobj hints hlen hbits hg => ?_
  have KX := hY w _ Y
  have tabs : TabsAt q (K w.params) s₁.heap := fun x c P hrec ht => by
    have hs : ((recsOf q).find? fun e => e.name == x).isSome = true := by rw [List.find?_isSome]; simpa using hrec
    obtain ⟨d', hd'⟩ := Option.isSome_iff_exists.mp hs
    exact PySem.W.tab_of G.T KX hd' ht
  obtain ⟨fd, cs, sp, hT, nT, C, hb, hsp, hF⟩ := F w mg fa _ Y KX G.T.g hmg tabs
  exact law_callTs KX G.T.g G.T.b G.T.builtins G.T.nolimit hg hT nT C G.T.bmain hobj hints (Nat.le_trans hlen hn2) hr hF hb (fun H hH hS => hsp H a ns hlen hbits hH hS) fun H e s' => hCX w H s₁ e s'
/-- the script's list and the tables at the law's start -/
def spLawT (K : PySem.W.Frag) (T : List (Addr × Str)) : Sp := fun vs H Q _ => ∃ (a : Addr) (ns : List Int), vs = [.ref a] ∧ SqL K H a (ns.map V.int) ∧ ns.length ≤ 63 ∧ Tabs T H ∧ ∀ H', Q (.bl true) H'
theorem Tabs.fr {T : List (Addr × Str)} {H H' : Hp} (t : Tabs T H) (R : Fr H H') : Tabs T H' := fun p hp => by
  obtain ⟨ps, h1, h2, h3⟩ := t p hp
  refine ⟨ps, R _ _ h1 (fun _ _ _ _ h => nomatch h), h2, fun pos cv hc => ?_⟩
  obtain ⟨c, e1, e2⟩ := h3 pos cv hc
  exact ⟨c, e1, R _ _ e2 (fun _ _ _ _ h => nomatch h)⟩
theorem ExtN.at_tup {H H' : Hp} {g : Addr} {xs : List V} (e : ExtN H H') (h : H g = some (.tup xs)) : H' g = some (.tup xs) := e _ _ h fun ps z => nomatch z
theorem ExtN.at_lst {H H' : Hp} {g : Addr} {xs : List V} (e : ExtN H H') (h : H g = some (.lst xs)) : H' g = some (.lst xs) := e _ _ h fun ps z => nomatch z
theorem ExtN.st {H H' : Hp} {st a : Addr} (e : ExtN H H') (s : St H st a) : St H' st a := by
  obtain ⟨i, m, r, h, q⟩ := s
  exact ⟨i, m, r, ExtN.at_lst e h, q⟩
/-- all stays but the place of the draws and the tables -/
def FrN (H H' : Hp) : Prop := ∀ b o, H b = some o → NotSt o → (∀ ps, o ≠ .tbl ps) → H' b = some o
theorem FrN.refl (H : Hp) : FrN H H := fun _ _ e _ _ => e
theorem FrN.trans {H H1 H2 : Hp} (a : FrN H H1) (b : FrN H1 H2) : FrN H H2 := fun c o e n t => b c o (a c o e n t) n t
theorem FrN.of {H H' : Hp} (a : Fr H H') : FrN H H' := fun c o e n _ => a c o e n
theorem FrN.ext {H H' : Hp} (a : ExtN H H') : FrN H H' := fun c o e _ t => a c o e t
theorem FrN.sm {H H' : Hp} (a : Same H H') : FrN H H' := fun c o e _ _ => a c o e
theorem FrN.tup {H H' : Hp} (a : FrN H H') {b : Addr} {xs : List V} (e : H b = some (.tup xs)) : H' b = some (.tup xs) := a _ _ e nst_tup fun _ z => nomatch z
theorem FrN.ints {H H' : Hp} (a : FrN H H') {b : Addr} {ns : List Int} (e : H b = some (.lst (ns.map V.int))) : H' b = some (.lst (ns.map V.int)) := a _ _ e nst_ints fun _ z => nomatch z
theorem FrN.sq {K : PySem.W.Frag} {H H' : Hp} (R : FrN H H') {a : Addr} {ns : List Int} (h : SqL K H a (ns.map V.int)) : SqL K H' a (ns.map V.int) := by
  rcases h with (h | ⟨o, h⟩) | h
  · exact .inl (.inl (R.ints h))
  · exact .inl (.inr ⟨o, R _ _ h nst_frz fun _ z => nomatch z⟩)
  · exact .inr h
end Rd

/-! ## dicts whose keys are tuples; while -/
namespace Rd
open PySem PySem.Spec L2 PyProof.Rows
theorem nst_dT {kvs : List (List Key × V)} : NotSt (.dT kvs) := fun _ _ _ _ h => nomatch h
section
variable {κ : Type} [DecidableEq κ]
theorem put_len (c : List (κ × V)) (k : κ) (x : V) : (putK c k x).length ≤ c.length + 1 := by
  unfold putK
  by_cases e : (c.any fun kv => decide (kv.1 = k)) = true
  · rw [if_pos e, List.length_map]
    omega
  · rw [if_neg e, List.length_append]
    simp
theorem put_mem {c : List (κ × V)} {k j : κ} {x : V} : j ∈ (putK c k x).map (·.1) ↔ j = k ∨ j ∈ c.map (·.1) := by
  have h : ∀ (l : List (κ × V)) (i : κ), i ∈ l.map (·.1) ↔ (valV l i).isSome = true := fun l i => by
    cases e : valV l i with
    | none => exact ⟨fun m => absurd m (valV_not e), fun q => (nomatch q)⟩
    | some v => exact ⟨fun _ => rfl, fun _ => valV_in e⟩
  rw [h, h, valV_put]
  by_cases c : j = k
  · rw [if_pos c]
    exact ⟨fun _ => .inl c, fun _ => rfl⟩
  · rw [if_neg c]
    exact ⟨fun q => .inr q, fun q => q.resolve_left c⟩
theorem val_mem {c : List (κ × V)} {k : κ} : (valV c k).isSome = true ↔ k ∈ c.map (·.1) := by
  cases e : valV c k with
  | none => exact ⟨fun q => (nomatch q), fun m => absurd m (valV_not e)⟩
  | some v => exact ⟨fun _ => valV_in e, fun _ => rfl⟩
end
section
variable {K : PySem.W.Frag} {σ : L2.St} {H : Hp} {Q : VK} {nn bb cc : L2.St → Hp → Prop} {rr : VK}
theorem r_dnewT (k : ∀ p, H p = none → Q (.ref p) (upd H p (.dT []))) : tDNewT σ H Q := k
theorem r_dnotin {ty td : TE} (k : ty σ H fun y H1 => td σ H1 fun x H2 => ∃ a o, x = .ref a ∧ DGet H2 a y o ∧ Q (.bl (!o.isSome)) H2) : tDNotIn ty td σ H Q := k
theorem r_dput {td ty tv : TE} (k : tv σ H fun v H1 => td σ H1 fun x H2 => ty σ H2 fun y H3 => ∃ a H4, x = .ref a ∧ DPut H3 a y v H4 ∧ nn σ H4) : sDPut td ty tv ⟨nn, rr, bb, cc⟩ σ H := k
theorem r_putA {a b : Addr} {kvs : List (List Key × V)} {k : List Key} {v : V} {R : Hp → Prop} (h : H a = some (.dT kvs)) (hb : H b = some (.tup (k.map kV))) (hl : kvs.length < sizeLine)
    (q : ∀ H', H' a = some (.dT (putK kvs k v)) → (∀ b o, b ≠ a → H b = some o → H' b = some o) → R H') : ∃ a' H4, V.ref a = .ref a' ∧ DPut H a' (.ref b) v H4 ∧ R H4 :=
  ⟨a, _, rfl, DPut.t h hb hl, q _ upd_same fun _ _ n e => at_wr n e⟩
theorem r_iTup {tl : TE} {R : It → Hp → Prop} (k : tl σ H fun x H1 => ∃ a, x = .ref a ∧ (∃ xs, SqT K H1 a xs) ∧ R (Itt K a) H1) : iTup K tl σ H R := k
def rListDT : List V → Hp → VK → Prop := fun xs H Q => ∃ d kvs, xs = [V.ref d] ∧ L2.Rd H d (.dT kvs) ∧ ∀ p bs, H p = none → IsKeys H kvs bs → Q (.ref p) (upd H p (.lst (bs.map V.ref)))
theorem kc_listDT {X : Cx} (hc : X.calm = true) : CallR X (.type "list") rListDT := call_list_dT hc
theorem r_listDT {d : Addr} {kvs : List (List Key × V)} (h : H d = some (.dT kvs)) (k : ∀ p bs, H p = none → IsKeys H kvs bs → Q (.ref p) (upd H p (.lst (bs.map V.ref)))) : rListDT [.ref d] H Q := ⟨d, kvs, rfl, .inl h, k⟩
theorem r_while {c : TT} {tb : TS} (W : Nat → L2.St → Hp → Prop) (m0 : Nat) (h0 : W m0 σ H)
    (hs : ∀ m σ H, W m σ H → c σ H fun b H1 => if b = true then ∃ N : L2.St → Hp → Prop, (∀ σ' H', N σ' H' → ∃ m', m' < m ∧ W m' σ' H') ∧ tb ⟨N, rr, nn, N⟩ σ H1 else nn σ H1) : tWhile c tb ⟨nn, rr, bb, cc⟩ σ H := ⟨W, ⟨m0, h0⟩, hs⟩
theorem kc_sorted {X : Cx} (h : X.K = K) : CallR X (.builtin "sorted") (rSorted K) := by subst h; exact cr_sorted
theorem r_sorted {a : Addr} {ns : List Int} (h : SqL K H a (ns.map V.int)) (hl : ns.length < 64) (k : ∀ (ns' : List Int) (p : Addr), ns'.Perm ns → ns'.Pairwise (· ≤ ·) → H p = none → Q (.ref p) (upd H p (.lst (ns'.map V.int)))) : rSorted K [.ref a] H Q := ⟨a, ns, rfl, h, hl, k⟩
/-- t + u, two tuples that aren't empty -/
theorem r_addT {a b : Addr} {xs ys : List V} (h1 : H a = some (.tup xs)) (h2 : H b = some (.tup ys)) (n1 : xs ≠ []) (n2 : ys ≠ []) (hl : xs.length + ys.length ≤ sizeLine) (k : ∀ p, H p = none → Q (.ref p) (upd H p (.tup (xs ++ ys)))) : rAddA K (.ref a) (.ref b) H Q :=
  .inr (.inr (.inr ⟨a, b, xs, ys, rfl, rfl, SqT.of h1, SqT.of h2, hl, fun e => absurd e n1, fun _ e => absurd e n2, fun _ _ => k⟩))
end
end Rd

/-! ## set(xs) of ints, xs a list or a tuple; sorted of it -/
namespace Rd
open PySem PySem.Spec L2 PyProof.Rows
/-- an empty set, as it is made -/
abbrev mtSet (w : World) : Obj := ⟨.type "set", none, .set #[] 0 (.fresh 0 0 (!w.params.followText "set-order")), #[]⟩
section
variable {P : Program} {w : World} {A : Around} {E : Value → Shared → Prop} {s : Shared}
set_option maxRecDepth 100000 in
set_option maxHeartbeats 3200000 in
theorem setL_raw {l : Addr} {its : Array Value} (ns : List Int) {Q : Value → Shared → Prop} (hh : A.handled = none) (pl : s.heap.IsList l its) (iv : IntsAre its.toList ns) (few : ns.length + 1 < scanBound)
    (q : ∀ (h2 : Heap) (tk c : Nat), SetR w h2 s.heap.objs.size (fun j => decide (j ∈ ns)) c → c ≤ ns.length → (∀ b o, s.heap.get? b = some o → h2.get? b = some o) → Q (.ref s.heap.objs.size) { s with heap := h2, toks := tk }) :
    wpAny (model P w) A (call (.type "set") [.ref l]) Q E s := by
  have many : its.size = ns.length := by have z := iv.length; rwa [Array.length_toList] at z
  obtain ⟨cc, tl, hmro⟩ := F.called_set.mro
  have g1 := F.called_set.made
  have g2 := F.called_set.sub
  refine wpAny_call (codeAny_of_tree ?_)
  show wpAny _ _ (callAny (.type "set") _) _ _ _
  refine wpAny_pure ⟨Code.quiet_builtin _ (by decide +kernel), codeAny_builtin F.entry_type_call ?_⟩
  rw [Around.under_plain (weight_type_call_type "set" [.ref l] []) rfl]
  have g3 := F.called_set.notType
  have g4 := F.called_set.canCreate
  have g5 := F.typeCall_set_1 (.ref l)
  repeat (any_goals (first | assumption | wp_step))
  refine codeAny_mono (code_set_led1 (.ref l) (E := E) (Q₁ := fun ob s₁ => ob = .ref s.heap.objs.size ∧ s₁ = { s with heap := s.heap.push (mtSet w) }) ⟨rfl, rfl⟩) fun r s₁ hr => ?_
  cases r with
  | error e => exact hr
  | ok fl =>
    cases fl with
    | ret ob =>
      obtain ⟨rfl, rfl⟩ := hr
      have at0 : (s.heap.push (mtSet w)).get? s.heap.objs.size = some (mtSet w) := Heap.get?_push_size _ rfl
      have ty0 : Shared.TypeIs { s with heap := s.heap.push (mtSet w) } (.ref s.heap.objs.size) "set" := ⟨_, at0, rfl⟩
      have g6 := F.called_set.init.lookup
      have g7 := F.called_set.init.bind (.ref s.heap.objs.size)
      repeat (any_goals (first | assumption | wp_step))
      refine codeAny_mono (codeAny_call_builtin (R := wants (fun r s₂ => r = .none ∧ ∃ h2 tk c, s₂ = { s with heap := h2, toks := tk } ∧ SetR w h2 s.heap.objs.size (fun j => decide (j ∈ ns)) c ∧ c ≤ ns.length ∧
          (∀ b o, s.heap.get? b = some o → h2.get? b = some o)) E) F.called_set.init.plain F.entry_set_init (check_set_init_1 ty0 ?_)) fun r₂ s₂ hr₂ => ?_
      · obtain ⟨ol, hol, hcl, nl, hdl⟩ := pl
        obtain ⟨ocls, odict, odata, oslots⟩ := ol
        simp only at hcl hdl
        subst hcl; subst hdl
        have pl1 : (s.heap.push (mtSet w)).IsList l its := ⟨_, Heap.get?_push_of_some _ hol, rfl, nl, rfl⟩
        have hol1 : (s.heap.push (mtSet w)).get? l = some ⟨.type "list", odict, .seq its nl, oslots⟩ := Heap.get?_push_of_some _ hol
        have k1 := F.sub_list_set
        have k2 := F.sub_list_frozenset
        have k3 : (Value.type "list" == Value.type "dict") = false := by decide
        unfold Builtin.«set.__init__» noKeywords Builtin.Frozenset.updateFrom
        generalize hPI : pyIter = PI
        wp_walk
        subst hPI
        refine wpAny_pyIter_list pl1 (wpAny_bind (wpAny_runValue ?_))
        have lt : l < s.heap.objs.size := Heap.lt_size hol
        have hh3 : A.in1.in1.in1.handled = none := by simp [hh]
        have sz : (s.heap.push (mtSet w)).objs.size = s.heap.objs.size + 1 := Heap.size_push ..
        have ne1 : l ≠ (s.heap.push (mtSet w)).objs.size := by
          rw [sz]
          exact Nat.ne_of_lt (Nat.lt_succ_of_lt lt)
        have out : s.heap.objs.size ∉ [(s.heap.push (mtSet w)).objs.size, l] := by
          rw [sz]
          simp only [List.mem_cons, List.not_mem_nil, or_false, not_or]
          exact ⟨Nat.ne_of_lt (Nat.lt_succ_self _), Nat.ne_of_gt lt⟩
        refine set_update_ints ((Walks.list hh3 _ l ne1 its).toS) s.heap.objs.size out ns many few (fun i v hv => ?_) (its.size - 0) 0 _ (by omega) (Nat.zero_le _)
          ⟨⟨_, Heap.get?_push_size _ rfl, rfl, rfl⟩, (pl1.push _)⟩ ⟨0, Nat.le_refl 0, setR_new_at (Heap.get?_push_of_some _ at0)⟩ fun s3 c3 mv le3 S3 => ?_
        · have hi : i < ns.length := by rw [← many]; exact (Array.getElem?_eq_some_iff.mp hv).1
          obtain ⟨t, e⟩ := iv.int_at i v (by rw [Array.getElem?_toList]; exact hv)
          exact ⟨ns[i], t, List.getElem?_eq_getElem hi, by rw [e, List.getD_eq_getElem?_getD, List.getElem?_eq_getElem hi] <;> rfl⟩
        · obtain ⟨h3, gg, dd, tt, oo⟩ := s3
          obtain rfl : gg = s.gens := mv.gens
          obtain rfl : dd = s.drawn := mv.drawn
          obtain rfl : oo = s.os := mv.os
          rw [many] at le3
          show wpAny _ _ _ _ _ _
          refine wpAny_pure ?_
          show wpAny _ _ (ret Value.none) _ _ _
          refine wpAny_pure ⟨rfl, h3, tt, c3, rfl, S3, le3, fun b o e => ?_⟩
          have b0 : b < s.heap.objs.size := Heap.lt_size e
          refine mv.heap b o ?_ (Heap.get?_push_of_some _ (Heap.get?_push_of_some _ e))
          rw [sz]
          simp only [List.mem_cons, List.not_mem_nil, or_false, not_or]
          exact ⟨Nat.ne_of_lt b0, Nat.ne_of_lt (Nat.lt_succ_of_lt b0)⟩
      · cases r₂ with
        | error e => exact hr₂
        | ok fl₂ =>
          cases fl₂ with
          | ret r =>
            obtain ⟨rfl, h3, tk, c3, rfl, S3, le3, kp⟩ := hr₂
            repeat (any_goals (first | assumption | wp_step))
            exact q _ _ _ S3 le3 kp
          | _ => exact hr₂.elim
    | _ => exact hr.elim
end
def rSetI (K : PySem.W.Frag) (w : World) : List V → Hp → VK → Prop := fun xs H Q => ∃ (l : Addr) (ns : List Int), xs = [.ref l] ∧ (SqL K H l (ns.map V.int) ∨ SqT K H l (ns.map V.int)) ∧ ns.length ≤ 1000 ∧
  ∀ (p : Addr) (c : Nat), H p = none → c ≤ ns.length → Q (.ref p) (upd H p (SetO w p (fun j => decide (j ∈ ns)) c))
theorem cr_setI {X : Cx} (hc : X.calm = true) : CallR X (.type "set") (rSetI X.K X.w) := by
  intro pins s σ H xs us Q I r h
  obtain ⟨l, ns, rfl, hq, hl, q⟩ := h
  rw [Vals.ref1 r]
  have few : ns.length + 1 < scanBound := by unfold scanBound; omega
  rcases hq with hq | hq
  · obtain ⟨its, rv, pl, hz⟩ := I.list hq
    refine setL_raw ns (I.ok.hd hc) pl.isList (by simpa using rv.ints) few fun h2 tk c hS le kp => ?_
    exact ⟨.ref s.heap.objs.size, _, I.laid (t' := tk) kp (Nat.le_refl _) (setO_new hS), rfl, q _ _ (I.hok.fresh (Nat.le_refl _)) le⟩
  · obtain ⟨its, rv, pl, hz⟩ := I.tuple hq
    refine call_set_tupI ns (I.ok.hd hc) pl (by simpa using rv.ints) few fun h2 tk c hS le kp => ?_
    exact ⟨.ref s.heap.objs.size, _, I.laid (t' := tk) kp (Nat.le_refl _) (setO_new hS), rfl, q _ _ (I.hok.fresh (Nat.le_refl _)) le⟩
section
variable {X : Cx} {K : PySem.W.Frag} {w : World} {H : Hp} {Q : VK}
theorem kc_setI (h : X.K = K) (hw : X.w = w) (hc : X.calm = true) : CallR X (.type "set") (rSetI K w) := by subst h; subst hw; exact cr_setI hc
theorem r_setI {l : Addr} {ns : List Int} (h : SqL K H l (ns.map V.int) ∨ SqT K H l (ns.map V.int)) (hl : ns.length ≤ 1000) (k : ∀ (p : Addr) (c : Nat), H p = none → c ≤ ns.length → Q (.ref p) (upd H p (SetO w p (fun j => decide (j ∈ ns)) c))) : rSetI K w [.ref l] H Q := ⟨l, ns, rfl, h, hl, k⟩
theorem kc_sortedS (hw : X.w = w) (hc : X.calm = true) : CallR X (.builtin "sorted") (rSortedSet w) := by subst hw; exact cr_sortedSet hc
/-- sorted(set(ns)): rising, the same members -/
theorem r_sortedS {a : Addr} {ns : List Int} {c : Nat} (h : H a = some (SetO w a (fun j => decide (j ∈ ns)) c)) (hc : c < 64) (k : ∀ (ms : List Int) (p : Addr), ms.Pairwise (· < ·) → (∀ i, i ∈ ms ↔ i ∈ ns) → ms.length = c → H p = none → Q (.ref p) (upd H p (.lst (ms.map V.int)))) : rSortedSet w [.ref a] H Q :=
  ⟨a, _, c, rfl, h, hc, fun ms p h1 h2 h3 h4 => k ms p h1 (fun i => by rw [h2]; exact decide_eq_true_iff) h3 h4⟩
end
end Rd

/-! ## an own class: its methods by name, its making -/
namespace Rd
open PySem PySem.Spec PyProof.Rows L2
/-- the method m of the class at C keeps the promise sp -/
structure HasM (P : Program) (w : World) (K : PySem.W.Frag) (mg : Str → Option Value) (base : Heap) (CX : CXT) (C : Addr) (k : Nat) (m : Str) (sp : Sp) : Prop where
  ex : ∃ (f : Addr) (fd : FuncData) (ps : List Str), FnOk P w K mg base CX k f fd ps sp ∧ Meth K C m f ∧ Binds K fd ps []
/-- the class at C is made by an __init__ that keeps the promise sp -/
structure HasMk (P : Program) (w : World) (K : PySem.W.Frag) (mg : Str → Option Value) (base : Heap) (CX : CXT) (C : Addr) (k : Nat) (x : Str) (sp : Sp) : Prop where
  ex : ∃ (f : Addr) (fd : FuncData) (ps : List Str), FnOk P w K mg base CX k f fd ps sp ∧ Mk K C f ∧ Binds K fd ps [] ∧ mg x = some (.ref C)
/-- the def st of the class's text stands at its name m -/
structure MethAt (K : PySem.W.Frag) (C : Addr) (m q : Str) (st : Stmt) : Prop where
  ex : ∃ (f : Addr) (fd : FuncData), Fun K m q st f fd ∧ PySem.W.findIn K (.ref C) m = some (some (.ref f)) ∧ PySem.W.isFn K (.ref f) = true
/-- c is the code object of the method, Pt that one's table -/
structure MethTab (K : PySem.W.Frag) (C : Addr) (m q : Str) (st : Stmt) (c Pt : Addr) : Prop where
  ex : ∃ (f : Addr) (oc : Value) (od an : Option Addr) (kV doc pm ct : Value) (osl : Array (Option Value)),
    K.lookup f = some ⟨oc, od, .func (PySem.W.fnOf m q (defArgs st) (defBody st) (defScope st) .none kV doc pm an (.ref c) ct), osl⟩ ∧ PySem.W.codeIn K (.ref c) q = true ∧ Meth K C m f
section
variable {P : Program} {w : World} {K : PySem.W.Frag} {mg : Str → Option Value} {base : Heap}
theorem HasM.mono {CX : CXT} {C : Addr} {m : Str} {sp : Sp} {j k : Nat} (h : HasM P w K mg base CX C j m sp) (i : j ≤ k) : HasM P w K mg base CX C k m sp := by
  obtain ⟨f, fd, ps, F, r⟩ := h.ex
  exact ⟨f, fd, ps, F.mono i, r⟩
theorem MethAt.ok {C : Addr} {m q : Str} {st : Stmt} {N ps : List Str} {k : Nat} {sp : Sp} (F : MethAt K C m q st) (S : FnScope N ps (defScope st)) (bo : BindOkQ m q st ps) (len : ∀ vs H Q E, sp vs H Q E → vs.length = ps.length)
    (hbody : ∀ (f : Addr) (cdv : Value) (A : Around) (outer : List Env) (s : Shared) (H : Hp) (vs : List V) (Q : VK) (E : XK), Room k (A.deeper (envOfC q (defScope st) s.heap.objs.size f cdv)) → sp vs H Q E →
      ∃ t, PSs (cxOf CX0 P w K mg base N q (defScope st) f cdv A outer s H E).nox (defBody st) t ∧ t { nx := fun _ H' => Q .non H', rt := Q } (start N vs) H) : HasM P w K mg base CX0 C (k + 1) m sp := by
  obtain ⟨f, fd, F, at_, fn⟩ := F.ex
  exact ⟨f, fd, ps, F.ok S len fun cdv A outer s H vs Q E hr h => hbody f cdv A outer s H vs Q E hr h, ⟨at_, fn, F.kp⟩, F.binds bo⟩
theorem MethAt.make {C : Addr} {q : Str} {x : Str} {st : Stmt} {N ps : List Str} {k : Nat} {sp : Sp} (F : MethAt K C "__init__" q st) (hm : mg x = some (.ref C)) (mk : PySem.W.makesIn K C = true) (kC : PySem.W.keepIn K (.ref C) = true) (S : FnScope N ps (defScope st)) (bo : BindOkQ "__init__" q st ps) (len : ∀ vs H Q E, sp vs H Q E → vs.length = ps.length)
    (hbody : ∀ (f : Addr) (cdv : Value) (A : Around) (outer : List Env) (s : Shared) (H : Hp) (vs : List V) (Q : VK) (E : XK), Room k (A.deeper (envOfC q (defScope st) s.heap.objs.size f cdv)) → sp vs H Q E →
      ∃ t, PSs (cxOf CX0 P w K mg base N q (defScope st) f cdv A outer s H E).nox (defBody st) t ∧ t { nx := fun _ H' => Q .non H', rt := Q } (start N vs) H) : HasMk P w K mg base CX0 C (k + 1) x sp := by
  obtain ⟨f, fd, F, at_, fn⟩ := F.ex
  exact ⟨f, fd, ps, F.ok S len fun cdv A outer s H vs Q E hr h => hbody f cdv A outer s H vs Q E hr h, ⟨mk, at_, fn, kC⟩, F.binds bo, hm⟩
theorem MethTab.ok {C : Addr} {m q : Str} {st : Stmt} {N ps : List Str} {k : Nat} {sp : Sp} {c Pt : Addr} (F : MethTab K C m q st c Pt) (S : FnScope N ps (defScope st)) (bo : BindOkQ m q st ps) (len : ∀ vs H Q E, sp vs H Q E → vs.length = ps.length)
    (hbody : ∀ (f : Addr) (A : Around) (outer : List Env) (s : Shared) (H : Hp) (vs : List V) (Q : VK) (E : XK), Room k (A.deeper (envOfC q (defScope st) s.heap.objs.size f (.ref c))) → sp vs H Q E →
      ∃ t, PSs (cxOf L2.CX0 P w K mg base N q (defScope st) f (.ref c) A outer s H E).nox (defBody st) t ∧ t { nx := fun _ H' => Q .non H', rt := Q } (L2.start N vs) H) : HasM P w K mg base L2.CX0 C (k + 1) m sp := by
  obtain ⟨f, oc, od, an, kV, doc, pm, ct, osl, lk, hcd, hm⟩ := F.ex
  refine ⟨f, _, ps, fn_of lk hcd S len fun A outer s H vs Q E hr hsp => ?_, hm, Binds.all (bo kV doc pm an (.ref c) ct)⟩
  obtain ⟨t, h, q⟩ := hbody f A outer s H vs Q E hr hsp
  exact ⟨t, h.nox, q⟩
theorem MethAt.mk' {C f : Addr} {m q : Str} {st : Stmt} {oc : Value} {od an : Option Addr} {osl : Array (Option Value)} {kV doc pm cdv ct : Value} (a : PySem.W.findIn K (.ref C) m = some (some (.ref f))) (i : PySem.W.isFn K (.ref f) = true)
    (l : K.lookup f = some ⟨oc, od, .func (PySem.W.fnOf m q (defArgs st) (defBody st) (defScope st) .none kV doc pm an cdv ct), osl⟩) (c : PySem.W.codeIn K cdv q = true) (k : PySem.W.keepIn K (.ref f) = true) : MethAt K C m q st := ⟨f, _, fun_mk l c k, a, i⟩
/-- an address; a function's data; a record's row -/
def asRef : Value → Option Addr
  | .ref a => some a
  | _ => none
def asFn (o : Obj) : Option FuncData := match o.data with
  | .func d => some d
  | _ => none
def asRow (o : Obj) : Array Value := match o.data with
  | .fields r => r
  | _ => #[]
theorem asRef_some {v : Value} {a : Addr} (h : asRef v = some a) : v = .ref a := by
  cases v <;> simp [asRef] at h
  rw [h]
/-- the code object of the def at f, and its table -/
def tabFn (K : PySem.W.Frag) (f : Addr) : Option (Addr × Addr) :=
  ((K.lookup f).bind asFn).bind fun d => (asRef d.code).bind fun c => ((K.lookup c).bind fun o => (asRow o)[11]?.bind asRef).map fun t => (c, t)
theorem tabFn_code {K : PySem.W.Frag} {f c Pt : Addr} {oc : Value} {od : Option Addr} {fd : FuncData} {osl : Array (Option Value)} (l : K.lookup f = some ⟨oc, od, .func fd, osl⟩) (t : tabFn K f = some (c, Pt)) : fd.code = .ref c := by
  obtain ⟨d, hd, h1⟩ := Option.bind_eq_some_iff.mp t
  rw [l] at hd
  obtain ⟨k, hk, h2⟩ := Option.bind_eq_some_iff.mp h1
  obtain ⟨_, _, e⟩ := Option.map_eq_some_iff.mp h2
  have ek : k = c := congrArg Prod.fst e
  cases (show some fd = some d from hd)
  rw [asRef_some hk, ek]
theorem MethTab.mk' {C f c Pt : Addr} {m q : Str} {st : Stmt} {oc : Value} {od an : Option Addr} {osl : Array (Option Value)} {kV doc pm cdv ct : Value} (a : PySem.W.findIn K (.ref C) m = some (some (.ref f))) (i : PySem.W.isFn K (.ref f) = true)
    (l : K.lookup f = some ⟨oc, od, .func (PySem.W.fnOf m q (defArgs st) (defBody st) (defScope st) .none kV doc pm an cdv ct), osl⟩) (cc : PySem.W.codeIn K cdv q = true) (k : PySem.W.keepIn K (.ref f) = true) (t : tabFn K f = some (c, Pt)) : MethTab K C m q st c Pt := by
  have e : cdv = .ref c := tabFn_code l t
  subst e
  exact ⟨f, oc, od, an, kV, doc, pm, ct, osl, l, cc, a, i, k⟩
end
section
variable {X : Cx} {CX : CXT} {k j : Nat} {C : Addr} {sp : Sp} {E : XK} {m x : Str} {p pos apos : Pos} {o e : Expr} {es : List Expr} {to : TE} {t : TA} {pl : Sem Bool}
theorem pe_hasM (h : HasM X.prog X.w X.K X.mg X.base CX C k m sp) (cl : Cls X.K C) (hr : Room j X.A) (hk : k ≤ j) (ho : PE X o to) (hx : Passes CX X E) (ha : PA X (e :: es) t)
    (hst : starEach (e :: es) X.env = (false, eval e X.env) :: starEach es X.env := by rfl) (hpl : (backTo pos (starEach es X.env)).any (·.1) = false := by rfl)
    (ht : eval (.Call (.Attribute o m apos) (e :: es) [] pos) X.env = (do
      let ov ← eval o X.env
      standAt apos.atName
      let (f, first) ← holding [ov] (getMethod ov m pl)
      callWith pos f first (backTo pos (starEach (e :: es) X.env)) (backToKw pos (keywordEach [] X.env))) := by rfl) :
    PE X (.Call (.Attribute o m apos) (e :: es) [] pos) (tMeth C m sp [] E to t) := by
  obtain ⟨f, fd, ps, F, hm, b⟩ := h.ex
  exact pe_meth ho cl hm F (hr.mono hk) b .nil hx ha hst hpl ht
theorem pe_hasM0 (h : HasM X.prog X.w X.K X.mg X.base CX C k m sp) (cl : Cls X.K C) (hr : Room j X.A) (hk : k ≤ j) (ho : PE X o to) (hx : Passes CX X E)
    (ht : eval (.Call (.Attribute o m apos) [] [] pos) X.env = (do
      let ov ← eval o X.env
      standAt apos.atName
      let (f, first) ← holding [ov] (getMethod ov m pl)
      callWith pos f first (backTo pos (starEach [] X.env)) (backToKw pos (keywordEach [] X.env))) := by rfl) :
    PE X (.Call (.Attribute o m apos) [] [] pos) (tMeth C m sp [] E to tNil) := by
  obtain ⟨f, fd, ps, F, hm, b⟩ := h.ex
  exact pe_meth0 ho cl hm F (hr.mono hk) b .nil hx ht
theorem pe_hasMk (h : HasMk X.prog X.w X.K X.mg X.base CX C k x sp) (hr : Room j X.A) (hk : k + 1 ≤ j) (hg : Gl X x) (hx : Passes CX X E) (ha : PA X (e :: es) t)
    (hdb : (x == ("__debug__" : Str)) = false := by decide) (he : starEach (e :: es) X.env = (false, eval e X.env) :: starEach es X.env := by rfl) (hpl : (backTo pos (starEach es X.env)).any (·.1) = false := by rfl) :
    PE X (.Call (.Name x p) (e :: es) [] pos) (tMake C sp [] E t) := by
  obtain ⟨f, fd, ps, F, M, b, hm⟩ := h.ex
  exact pe_make M F (hr.mono hk) hg hm b .nil hx ha hdb he hpl
theorem kpe_fld {K : PySem.W.Frag} {f : Str} (hK : X.K = K) (he : PE X e to) (hb : attributeBase e f X.env (eval e X.env) = eval e X.env := by rfl) : PE X (.Attribute e f pos) (tFld K to f) := by subst hK; exact pe_fld he hb
theorem kps_fld {K : PySem.W.Frag} {f : Str} {value : Expr} {tv : TE} {pos' : Pos} (hK : X.K = K) (ha : PE X o to) (hv : PE X value tv) (hs : swapsWith value (some (.Attribute o f pos')) pos.line X.env = pure false := by rfl) : PS X (.Assign [.Attribute o f pos'] value pos) (sFld K to tv f) := by subst hK; exact ps_fld ha hv hs
end
section
variable {K : PySem.W.Frag} {σ : L2.St} {H : Hp} {Q : VK} {nn bb cc : L2.St → Hp → Prop} {rr : VK} {C : Addr} {sp : Sp} {E : XK} {m f : Str} {to tv : TE} {t : TA}
theorem r_meth (k : to σ H fun x H1 => ∃ a dx fs, x = .ref a ∧ H1 a = some (.ins C dx fs) ∧ fs.lookup m = none ∧ t σ H1 fun vs H2 => sp (x :: vs) H2 Q E) : tMeth C m sp [] E to t σ H Q := by
  have e : (fun x (H1 : Hp) => ∃ a dx fs, x = V.ref a ∧ H1 a = some (.ins C dx fs) ∧ fs.lookup m = none ∧ t σ H1 fun vs H2 => sp (x :: (vs ++ [])) H2 Q E) = fun x H1 => ∃ a dx fs, x = V.ref a ∧ H1 a = some (.ins C dx fs) ∧ fs.lookup m = none ∧ t σ H1 fun vs H2 => sp (x :: vs) H2 Q E := by
    funext x H1
    simp only [List.append_nil]
  show to σ H fun x H1 => ∃ a dx fs, x = V.ref a ∧ H1 a = some (.ins C dx fs) ∧ fs.lookup m = none ∧ t σ H1 fun vs H2 => sp (x :: (vs ++ [])) H2 Q E
  rw [e]
  exact k
theorem r_make (k : t σ H fun vs H1 => ∀ x dx, H1 x = none → H1 dx = none → dx ≠ x → sp (.ref x :: vs) (upd (upd H1 dx (.own x)) x (.ins C dx [])) (fun v H2 => v = .non ∧ Q (.ref x) H2) E) : tMake C sp [] E t σ H Q := by
  have e : (fun vs (H1 : Hp) => ∀ x dx, H1 x = none → H1 dx = none → dx ≠ x → sp (.ref x :: (vs ++ [])) (upd (upd H1 dx (.own x)) x (.ins C dx [])) (fun v H2 => v = .non ∧ Q (.ref x) H2) E) = fun vs H1 => ∀ x dx, H1 x = none → H1 dx = none → dx ≠ x → sp (.ref x :: vs) (upd (upd H1 dx (.own x)) x (.ins C dx [])) (fun v H2 => v = .non ∧ Q (.ref x) H2) E := by
    funext vs H1
    simp only [List.append_nil]
  show t σ H fun vs H1 => ∀ x dx, H1 x = none → H1 dx = none → dx ≠ x → sp (.ref x :: (vs ++ [])) (upd (upd H1 dx (.own x)) x (.ins C dx [])) (fun v H2 => v = .non ∧ Q (.ref x) H2) E
  rw [e]
  exact k
theorem r_fld (k : to σ H fun x H1 => ∃ a C dx fs v, x = .ref a ∧ H1 a = some (.ins C dx fs) ∧ Cls K C ∧ NoAttr K C f ∧ fs.lookup f = some v ∧ Q v H1) : tFld K to f σ H Q := k
theorem r_setFld (k : tv σ H fun y H1 => to σ H1 fun x H2 => ∃ a C dx fs, x = .ref a ∧ H2 a = some (.ins C dx fs) ∧ Cls K C ∧ NoAttr K C f ∧ fs.length < 1000 ∧ nn σ (upd H2 a (.ins C dx (putF f y fs)))) : sFld K to tv f ⟨nn, rr, bb, cc⟩ σ H := k
theorem inV_bls (n : Bool) : ∀ ns : List Bool, inV (.bl n) (ns.map V.bl) = decide (n ∈ ns)
  | [] => by simp [inV]
  | a :: r => by
    have ih := inV_bls n r
    unfold inV at ih ⊢
    rw [List.map_cons, List.any_cons, ih]
    have e : eqV (.bl a) (.bl n) = decide (n = a) := by cases a <;> cases n <;> rfl
    simp [e, List.mem_cons]
theorem flat_bls (ns : List Bool) : (ns.map V.bl).all flatV = true := by
  rw [List.all_map]
  exact List.all_eq_true.mpr fun _ _ => rfl
theorem r_notInB {a : Addr} {n : Bool} {ns : List Bool} (h : SqL K H a (ns.map V.bl)) (k : Q (.bl (!decide (n ∈ ns))) H) : rIn K true (.bl n) (.ref a) H Q := ⟨a, _, rfl, .inl h, rfl, flat_bls ns, by rw [inV_bls]; exact k⟩
end
section
variable {g : TG} {tt : TT} {te : TE} {vs : List Nat} {σ σw : L2.St} {Q : VK} {D : Addr} {H1 : Hp}
theorem lcw_tup {K : PySem.W.Frag} {a : Addr} {xs : List V} (Pv : Nat → Hp → Prop) (hw : wipe σ vs = σw) (h0 : Pv 0 (upd H1 D (.lst []))) (hl : ∀ i H, i ≤ xs.length → Pv i H → SqT K H a xs)
    (hs : ∀ i x H, xs[i]? = some x → Pv i H → g x σw H fun σ2 H2 => wipe σ2 vs = σw ∧ tt σ2 H2 fun b H3 =>
      if b = true then te σ2 H3 fun y H4 => ∃ acc, H4 D = some (.lst acc) ∧ acc.length < sizeLine ∧ Pv (i + 1) (upd H4 D (.lst (acc ++ [y]))) else Pv (i + 1) H3) (hd : ∀ H, Pv xs.length H → Q (.ref D) H) : LcW (Itt K a) g tt te vs σ Q D H1 := by
  subst hw
  exact lc_tup Pv h0 hl hs hd
end
end Rd

/-! ## texts -/
namespace Rd
open PySem PySem.Spec L2 PyProof.Rows TL
section
variable {K : PySem.W.Frag} {σ : L2.St} {H : Hp} {Q : VK}
def rStrI : List V → Hp → VK → Prop := fun xs H Q => ∃ i, xs = [.int i] ∧ i.natAbs.log2 < 1920 ∧ Q (.str (toString i)) H
theorem kc_str {X : Cx} : CallR X (.type "str") rStrI := call_str_int
theorem r_strI {i : Int} (h : i.natAbs.log2 < 1920) (k : Q (.str (toString i)) H) : rStrI [.int i] H Q := ⟨i, rfl, h, k⟩
def rIntS : List V → Hp → VK → Prop := fun xs H Q => ∃ a n, xs = [.str a] ∧ PySem.intText? a = some n ∧ a.length ≤ 640 ∧ Q (.int n) H
theorem kc_intS {X : Cx} : CallR X (.type "int") rIntS := call_int_str
theorem r_intS {a : Str} {n : Int} (h : PySem.intText? a = some n) (hl : a.length ≤ 640) (k : Q (.int n) H) : rIntS [.str a] H Q := ⟨a, n, rfl, h, hl, k⟩
theorem r_eqS {x y : Str} (k : Q (.bl (decide (x = y))) H) : rEqA K (.str x) (.str y) H Q := .inl ⟨rfl, by
  have e : decide (V.str x = V.str y) = decide (x = y) := by by_cases h : x = y <;> simp [h]
  rw [e]
  exact k⟩
theorem r_neS {x y : Str} (k : Q (.bl (!decide (x = y))) H) : rNeA K (.str x) (.str y) H Q := .inl ⟨rfl, by
  have e : decide (V.str x = V.str y) = decide (x = y) := by by_cases h : x = y <;> simp [h]
  rw [e]
  exact k⟩
theorem r_ixS {z : Str} {i : Int} {c : Nat} (hz : z.length ≤ sizeLine) (e : atI z.cps.toList i = some c) (k : Q (.str ⟨#[c]⟩) H) : rIx K (.str z) (.int i) H Q := .inr (.inr ⟨z, i, c, rfl, rfl, hz, e, k⟩)
theorem r_slS {z : Str} {lo hi : Option Int} (hz : z.length ≤ sizeLine) (k : Q (.str (cutS z lo hi)) H) : rSlAll K (.str z) lo hi H Q := .inr (.inr ⟨z, rfl, hz, k⟩)
theorem r_lenStr {z : Str} (hz : z.length ≤ sizeLine) (k : Q (.int z.length) H) : rLen K [.str z] H Q := .inr ⟨z, rfl, hz, k⟩
theorem r_addS {x y : Str} (hz : x.length + y.length ≤ sizeLine) (k : Q (.str (x ++ y)) H) : rAddA K (.str x) (.str y) H Q := .inr (.inl ⟨x, y, rfl, rfl, hz, k⟩)
theorem inV_strs (x : Str) : ∀ ys : List Str, inV (.str x) (ys.map V.str) = decide (x ∈ ys)
  | [] => by simp [inV]
  | a :: r => by
    have ih := inV_strs x r
    unfold inV at ih ⊢
    rw [List.map_cons, List.any_cons, ih]
    have e : eqV (.str a) (.str x) = decide (x = a) := by
      by_cases c : x = a
      · subst c
        simp [eqV]
      · have c2 : ¬ a = x := fun e => c e.symm
        simp [eqV, c, c2]
    rw [e]
    by_cases c : x = a
    · simp [c]
    · simp [c]
theorem flat_strs9 (ys : List Str) : (ys.map V.str).all flatV = true := by
  rw [List.all_map]
  exact List.all_eq_true.mpr fun _ _ => rfl
theorem r_notInT {a : Addr} {x : Str} {ys : List Str} (h : H a = some (.tup (ys.map V.str))) (k : Q (.bl (!decide (x ∈ ys))) H) : rIn K true (.str x) (.ref a) H Q := ⟨a, _, rfl, .inr (SqT.of h), rfl, flat_strs9 ys, by rw [inV_strs]; exact k⟩
theorem r_inT {a : Addr} {x : Str} {ys : List Str} (h : H a = some (.tup (ys.map V.str))) (k : Q (.bl (decide (x ∈ ys))) H) : rIn K false (.str x) (.ref a) H Q := ⟨a, _, rfl, .inr (SqT.of h), rfl, flat_strs9 ys, by rw [inV_strs]; exact k⟩
def rNSign : R2 := fun x y H Q => ∃ (c : Nat) (z : Str), x = .str ⟨#[c]⟩ ∧ y = .str z ∧ Q (.bl (!decide (c ∈ z.cps.toList))) H
theorem op_nsign {X : Cx} : OpR X (compareOp .NotIn) rNSign := op_notIn_sign
theorem r_nsign {c : Nat} {z : Str} (k : Q (.bl (!decide (c ∈ tl z))) H) : rNSign (.str ⟨#[c]⟩) (.str z) H Q := ⟨c, z, rfl, rfl, k⟩
theorem r_iStr {te : TE} {R : It → Hp → Prop} (k : te σ H fun y H1 => ∃ x, y = .str x ∧ R (Its x) H1) : iStr te σ H R := k
theorem lcw_str {g : TG} {tt : TT} {te : TE} {vs : List Nat} {σw : L2.St} {D : Addr} {H1 : Hp} {z : Str} (Pv : Nat → Hp → Prop) (hw : wipe σ vs = σw) (h0 : Pv 0 (upd H1 D (.lst [])))
    (hs : ∀ i c H, (tl z)[i]? = some c → Pv i H → g (.str ⟨#[c]⟩) σw H fun σ2 H2 => wipe σ2 vs = σw ∧ tt σ2 H2 fun b H3 =>
      if b = true then te σ2 H3 fun y H4 => ∃ acc, H4 D = some (.lst acc) ∧ acc.length < sizeLine ∧ Pv (i + 1) (upd H4 D (.lst (acc ++ [y]))) else Pv (i + 1) H3) (hd : ∀ H, Pv (tl z).length H → Q (.ref D) H) : LcW (Its z) g tt te vs σ Q D H1 := by
  subst hw
  have e : z.cps.size = (tl z).length := len_tl z
  refine lc_it walk_str Pv h0 (fun _ _ _ _ => trivial) (fun i x H H' hi p y => ?_) (fun H p => hd H (by rw [← e]; exact p))
  obtain ⟨rfl, c, hc, rfl⟩ := y
  exact hs i c H' (by rw [Array.getElem?_toList]; exact hc) p
def rJoin (K : PySem.W.Frag) : V → List V → Hp → VK → Prop := fun x xs H Q => ∃ a p, ∃ ys : List Str, x = .str a ∧ xs = [.ref p] ∧ (SqL K H p (ys.map V.str) ∨ SqT K H p (ys.map V.str)) ∧ (ys.map (·.length)).sum + ys.length * a.length ≤ 16777216 ∧ Q (.str (Txt.join a ys)) H
theorem kpe_join {X : Cx} {o e : Expr} {to te : TE} {apos pos : Pos} (h : X.K = K) (ho : PE X o to) (he : PE X e te) (hs : starEach [e] X.env = [(false, eval e X.env)] := by rfl) (hbase : attributeBase o "join" X.env (eval o X.env) = eval o X.env := by rfl) (hline : (apos.endLine == pos.line) = true := by rfl) :
    PE X (.Call (.Attribute o "join" apos) [e] [] pos) (tM1 (rJoin K) to te) := by subst h; exact pe_join ho he hs hbase hline
def rSplit : V → List V → Hp → VK → Prop := fun x xs H Q => ∃ a b, x = .str a ∧ xs = [.str b] ∧ (b.length == 0) = false ∧ a.length + 2 ≤ sizeLine ∧ rNewStrs (Txt.split a b) H Q
theorem kpe_split {X : Cx} {o e : Expr} {to te : TE} {apos pos : Pos} (ho : PE X o to) (he : PE X e te) (hs : starEach [e] X.env = [(false, eval e X.env)] := by rfl) (hbase : attributeBase o "split" X.env (eval o X.env) = eval o X.env := by rfl) (hline : (apos.endLine == pos.line) = true := by rfl) :
    PE X (.Call (.Attribute o "split" apos) [e] [] pos) (tM1 rSplit to te) := pe_split ho he hs hbase hline
theorem r_m1 {r : V → List V → Hp → VK → Prop} {to te : TE} (k : to σ H fun x H1 => (∃ a, x = .str a) ∧ te σ H1 fun y H2 => r x [y] H2 Q) : tM1 r to te σ H Q := k
theorem r_join {a : Str} {p : Addr} {ys : List Str} (h : SqL K H p (ys.map V.str)) (hz : (ys.map (·.length)).sum + ys.length * a.length ≤ 16777216) (k : Q (.str (Txt.join a ys)) H) : rJoin K (.str a) [.ref p] H Q := ⟨a, p, ys, rfl, rfl, .inl h, hz, k⟩
theorem r_split {a b : Str} (hb : (b.length == 0) = false) (hz : a.length + 2 ≤ sizeLine) (k : ∀ p, H p = none → Q (.ref p) (upd H p (.lst ((Txt.split a b).map V.str)))) : rSplit (.str a) [.str b] H Q := ⟨a, b, rfl, rfl, hb, hz, k⟩
/-- a module's text -/
structure CnS (mg : Str → Option Value) (x : Str) (i : Str) : Prop where
  ex : ∃ t, mg x = some (.str i t)
theorem pe_cnS {X : Cx} {x i : Str} {pos : Pos} (h : CnS X.mg x i) (hg : Gl X x) (hd : (x == ("__debug__" : Str)) = false := by decide) : PE X (.Name x pos) (tC (.str i)) := by
  obtain ⟨t, e⟩ := h.ex
  exact pe_glob hg e ⟨t, rfl⟩ hd
end
/-! ### words of moves -/
theorem tl_cut1 (z : Str) : tl (cutS z (some 1) none) = (tl z).drop 1 := by
  unfold cutS
  rw [tl_mk, show (1 : Int) = ((1 : Nat) : Int) from rfl, HT.sIx_nat, HT.sIx_none]
  rw [len_tl]
  by_cases h : 1 ≤ (tl z).length
  · rw [Nat.min_eq_left h, List.take_of_length_le (by rw [List.length_drop]; exact Nat.le_refl _)]
  · rw [Nat.min_eq_right (by omega), Nat.sub_self, List.take_zero, List.drop_of_length_le (by omega)]
theorem tl_cut01 (z : Str) : tl (cutS z none (some 1)) = (tl z).take 1 := by
  unfold cutS
  rw [tl_mk, show (1 : Int) = ((1 : Nat) : Int) from rfl, HT.sIx_nat, HT.sIx_none]
  rw [len_tl, List.drop_zero, Nat.sub_zero]
  by_cases h : 1 ≤ (tl z).length
  · rw [Nat.min_eq_left h]
  · rw [Nat.min_eq_right (by omega), List.take_of_length_le (Nat.le_refl _), List.take_of_length_le (by omega)]
def wordL (k : Int) : List Nat := if k = 0 then [48] else (if 0 < k then 43 else 45) :: numL k.natAbs
def wordS (k : Int) : Str := ⟨(wordL k).toArray⟩
theorem tl_word (k : Int) : tl (wordS k) = wordL k := rfl
def digit (c : Nat) : Bool := decide (48 ≤ c ∧ c ≤ 57)
/-- the move that a word writes -/
def stepsL (l : List Nat) : Option Int :=
  if l = [48] then some 0 else
  if l.take 1 = [43] ∨ l.take 1 = [45] then
    (if 1 ≤ (l.drop 1).length ∧ (l.drop 1).length ≤ 30 ∧ (l.drop 1).head? ≠ some 48 ∧ (l.drop 1).all digit = true then some (if l.take 1 = [43] then (NumText.digitsVal (l.drop 1) : Int) else 0 - (NumText.digitsVal (l.drop 1) : Int)) else none)
  else none
theorem numL_head {n : Nat} (h : 0 < n) : (numL n).head? ≠ some 48 := by
  induction n using Nat.strongRecOn with
  | _ n ih =>
    by_cases c : n < 10
    · rw [numL_lt c]
      show some (48 + n) ≠ some 48
      intro e
      have := Option.some.inj e
      omega
    · have a := ih (n / 10) (by omega) (by omega)
      have b := numL_ne (n / 10)
      rw [numL_step (by omega)]
      cases e : numL (n / 10) with
      | nil => exact absurd e b
      | cons x r =>
        rw [e] at a
        exact a
theorem allDigits_iff (l : List Nat) : l.all digit = true ↔ NumText.AllDigits l := by
  rw [List.all_eq_true]
  exact ⟨fun h c hc => of_decide_eq_true (h c hc), fun h c hc => decide_eq_true (h c hc)⟩
theorem stepsL_word {k : Int} (h : k.natAbs < 10 ^ 30) : stepsL (wordL k) = some k := by
  unfold wordL
  by_cases c : k = 0
  · rw [if_pos c, stepsL, if_pos rfl, c]
  · rw [if_neg c]
    have n0 : 0 < k.natAbs := by omega
    have hne : numL k.natAbs ≠ [] := numL_ne _
    have hl : 1 ≤ (numL k.natAbs).length := List.length_pos_iff.mpr hne
    have h30 : (numL k.natAbs).length ≤ 30 := numL_len (by decide) h
    have hd := (allDigits_iff _).mpr (numL_digits k.natAbs)
    unfold stepsL
    rw [if_neg (fun e => hne (List.cons.inj e).2)]
    by_cases p : 0 < k
    · rw [if_pos p, if_pos (.inl rfl)]
      have cond : 1 ≤ (List.drop 1 (43 :: numL k.natAbs)).length ∧ (List.drop 1 (43 :: numL k.natAbs)).length ≤ 30 ∧ (List.drop 1 (43 :: numL k.natAbs)).head? ≠ some 48 ∧ (List.drop 1 (43 :: numL k.natAbs)).all digit = true := ⟨hl, h30, numL_head n0, hd⟩
      rw [if_pos cond]
      show some (if ([43] : List Nat) = [43] then ((NumText.digitsVal (numL k.natAbs) : Nat) : Int) else 0 - ((NumText.digitsVal (numL k.natAbs) : Nat) : Int)) = _
      rw [if_pos rfl]
      show some ((NumText.digitsVal (numL k.natAbs) : Nat) : Int) = _
      rw [numL_val]
      congr 1
      omega
    · rw [if_neg p, if_pos (.inr rfl)]
      have cond : 1 ≤ (List.drop 1 (45 :: numL k.natAbs)).length ∧ (List.drop 1 (45 :: numL k.natAbs)).length ≤ 30 ∧ (List.drop 1 (45 :: numL k.natAbs)).head? ≠ some 48 ∧ (List.drop 1 (45 :: numL k.natAbs)).all digit = true := ⟨hl, h30, numL_head n0, hd⟩
      rw [if_pos cond]
      show some (if ([45] : List Nat) = [43] then ((NumText.digitsVal (numL k.natAbs) : Nat) : Int) else 0 - ((NumText.digitsVal (numL k.natAbs) : Nat) : Int)) = _
      rw [if_neg (by decide), numL_val]
      congr 1
      omega
theorem word_free (k : Int) : 32 ∉ wordL k := by
  unfold wordL
  split
  · decide
  · intro h
    rcases List.mem_cons.mp h with e | e
    · split at e <;> omega
    · exact numL_free (.inl (by decide)) e
theorem word_len {k : Int} (h : k.natAbs < 10 ^ 30) : (wordS k).length ≤ 31 := by
  rw [len_tl, tl_word, wordL]
  split
  · decide
  · rw [List.length_cons]
    have := numL_len (n := k.natAbs) (k := 30) (by decide) h
    omega
theorem word_ne (k : Int) : wordL k ≠ [] := by
  unfold wordL
  split
  · decide
  · exact List.cons_ne_nil _ _
/-- the text of moves -/
def textS (ms : List Int) : Str := Txt.join ⟨#[32]⟩ (ms.map wordS)
theorem textS_nil : textS [] = ⟨#[]⟩ := by decide +kernel
theorem tl_text (ms : List Int) : tl (textS ms) = joinL [32] (ms.map wordL) := by
  unfold textS
  rw [join_eq, tl_join, List.map_map]
  rfl
theorem split_text {ms : List Int} (h : ms ≠ []) : Txt.split (textS ms) ⟨#[32]⟩ = ms.map wordS := by
  refine split_join (y := ⟨#[32]⟩) (s := 32) (S := []) rfl (by decide +kernel) (fun e => h (List.map_eq_nil_iff.mp e)) fun p hp => ?_
  obtain ⟨k, _, rfl⟩ := List.mem_map.mp hp
  exact word_free k
theorem joinL_ne {ps : List (List Nat)} (h : ps ≠ []) (hp : ∀ p ∈ ps, p ≠ []) : joinL [32] ps ≠ [] := by
  match ps, h with
  | [p], _ => exact hp p List.mem_cons_self
  | p :: q :: r, _ =>
    intro e
    exact hp p List.mem_cons_self (List.append_eq_nil_iff.mp e).1
theorem text_ne {ms : List Int} (h : ms ≠ []) : textS ms ≠ ⟨#[]⟩ := fun e => by
  have := congrArg tl e
  rw [tl_text] at this
  exact joinL_ne (fun z => h (List.map_eq_nil_iff.mp z)) (fun p hp => by
    obtain ⟨k, _, rfl⟩ := List.mem_map.mp hp
    exact word_ne k) this
theorem joinL_len {c : Nat} : ∀ {ps : List (List Nat)}, (∀ p ∈ ps, p.length ≤ c) → (joinL [32] ps).length ≤ ps.length * (c + 1)
  | [], _ => Nat.zero_le _
  | [p], h => by
    have := h p List.mem_cons_self
    show p.length ≤ 1 * (c + 1)
    omega
  | p :: q :: r, h => by
    have a := h p List.mem_cons_self
    have b := joinL_len (ps := q :: r) fun z hz => h z (List.mem_cons_of_mem _ hz)
    show (p ++ ([32] ++ joinL [32] (q :: r))).length ≤ ((q :: r).length + 1) * (c + 1)
    rw [List.length_append, List.length_append, Nat.succ_mul]
    show p.length + (1 + _) ≤ _
    omega
theorem text_len {ms : List Int} (h : ∀ m ∈ ms, m.natAbs < 10 ^ 30) : (textS ms).length ≤ ms.length * 32 := by
  rw [len_tl, tl_text]
  have := joinL_len (c := 31) (ps := ms.map wordL) fun p hp => by
    obtain ⟨k, hk, rfl⟩ := List.mem_map.mp hp
    have := word_len (h k hk)
    rw [len_tl, tl_word] at this
    exact this
  rw [List.length_map] at this
  exact this
end Rd

/-! ## max of a list of lists of ints, min of a list of (int, list of ints) -/
namespace Rd
open PySem PySem.Spec L2 PyProof.Rows
/-- lists as they ascend -/
def ltL : List Int → List Int → Bool
  | [], [] => false
  | [], _ :: _ => true
  | _ :: _, [] => false
  | x :: xs, y :: ys => if x = y then ltL xs ys else decide (x < y)
theorem ltL_irrefl : ∀ a : List Int, ltL a a = false
  | [] => rfl
  | x :: xs => by
    rw [ltL, if_pos rfl]
    exact ltL_irrefl xs
theorem ltL_asym : ∀ a b : List Int, ltL a b = true → ltL b a = false
  | [], [], h => by cases h
  | [], _ :: _, _ => rfl
  | _ :: _, [], h => by cases h
  | x :: xs, y :: ys, h => by
    rw [ltL] at h ⊢
    by_cases e : x = y
    · rw [if_pos e] at h
      rw [if_pos e.symm]
      exact ltL_asym xs ys h
    · rw [if_neg e] at h
      rw [if_neg (Ne.symm e)]
      have := of_decide_eq_true h
      exact decide_eq_false (by omega)
theorem ltL_tri : ∀ a b : List Int, ltL a b = false → ltL b a = false → a = b
  | [], [], _, _ => rfl
  | [], _ :: _, h, _ => by cases h
  | _ :: _, [], _, h => by cases h
  | x :: xs, y :: ys, h, k => by
    rw [ltL] at h k
    by_cases e : x = y
    · rw [if_pos e] at h
      rw [if_pos e.symm] at k
      rw [e, ltL_tri xs ys h k]
    · rw [if_neg e] at h
      rw [if_neg (Ne.symm e)] at k
      have a := of_decide_eq_false h
      have b := of_decide_eq_false k
      omega
theorem ltL_trans : ∀ a b c : List Int, ltL a b = true → ltL b c = true → ltL a c = true
  | [], [], _, h, _ => by cases h
  | [], _ :: _, [], _, k => by cases k
  | [], _ :: _, _ :: _, _, _ => rfl
  | _ :: _, [], _, h, _ => by cases h
  | _ :: _, _ :: _, [], _, k => by cases k
  | x :: xs, y :: ys, z :: zs, h, k => by
    rw [ltL] at h k ⊢
    by_cases e : x = y
    · rw [if_pos e] at h
      by_cases f : y = z
      · rw [if_pos f] at k
        rw [if_pos (e.trans f)]
        exact ltL_trans xs ys zs h k
      · rw [if_neg f] at k
        rw [if_neg (by rw [e]; exact f), e]
        exact k
    · rw [if_neg e] at h
      have a := of_decide_eq_true h
      by_cases f : y = z
      · rw [if_neg (by rw [← f]; exact e), ← f]
        exact h
      · rw [if_neg f] at k
        have b := of_decide_eq_true k
        rw [if_neg (by omega)]
        exact decide_eq_true (by omega)
/-- not less, turned around, goes on -/
theorem ltL_le_trans {a b c : List Int} (h : ltL b a = false) (k : ltL c b = false) : ltL c a = false := by
  cases e : ltL c a with
  | false => rfl
  | true =>
    cases f : ltL a b with
    | true => rw [ltL_trans c a b e f] at k; cases k
    | false =>
      rw [ltL_tri a b f h] at e
      rw [e] at k
      cases k
theorem firstLt_map (e r : Nat → Bool) (fin : Bool) (f : Nat → Nat) : ∀ l : List Nat, SeqAt.firstLt e r fin (l.map f) = SeqAt.firstLt (fun j => e (f j)) (fun j => r (f j)) fin l
  | [] => rfl
  | j :: t => by
    rw [List.map_cons, SeqAt.firstLt, SeqAt.firstLt, firstLt_map e r fin f t]
theorem firstLt_gt : ∀ a b : List Int, SeqAt.firstLt (fun j => decide (a.getD j 0 = b.getD j 0)) (fun j => decide (b.getD j 0 < a.getD j 0)) (decide (a.length > b.length)) (List.range (min a.length b.length)) = ltL b a
  | [], [] => rfl
  | [], _ :: _ => rfl
  | _ :: xs, [] => by
    rw [ltL]
    show decide (xs.length + 1 > 0) = true
    exact decide_eq_true (Nat.succ_pos _)
  | x :: xs, y :: ys => by
    have ih := firstLt_gt xs ys
    rw [ltL]
    rw [List.length_cons, List.length_cons, Nat.succ_min_succ, List.range_succ_eq_map, SeqAt.firstLt]
    rw [firstLt_map]
    show (if decide (x = y) = true then SeqAt.firstLt (fun j => decide (xs.getD j 0 = ys.getD j 0)) (fun j => decide (ys.getD j 0 < xs.getD j 0)) (decide (xs.length + 1 > ys.length + 1)) (List.range (min xs.length ys.length)) else decide (y < x)) = _
    rw [show decide (xs.length + 1 > ys.length + 1) = decide (xs.length > ys.length) from decide_eq_decide.mpr (by omega), ih]
    by_cases e : x = y
    · rw [if_pos (decide_eq_true e), if_pos e.symm]
    · rw [if_neg (by rw [decide_eq_true_eq]; exact e), if_neg (Ne.symm e)]
theorem firstLt_lt (a b : List Int) : SeqAt.firstLt (fun j => decide (a.getD j 0 = b.getD j 0)) (fun j => decide (a.getD j 0 < b.getD j 0)) (decide (a.length < b.length)) (List.range (min a.length b.length)) = ltL a b := by
  have h := firstLt_gt b a
  rw [Nat.min_comm, ← h]
  congr 1
  funext j
  exact decide_eq_decide.mpr ⟨Eq.symm, Eq.symm⟩
theorem beq_dec (a b : Int) : (a == b) = decide (a = b) := by
  by_cases q : a = b
  · rw [decide_eq_true q]; exact beq_iff_eq.mpr q
  · rw [decide_eq_false q]; exact beq_eq_false_iff_ne.mpr q
section
variable {A : Around} {s : Shared} {t u : Addr} {its its2 : List Value} {a b : List Int}
theorem ints_gt (hl : s.heap.IsList t its.toArray) (hb : s.heap.IsList u its2.toArray) (i1 : IntsAre its a) (i2 : IntsAre its2 b) (hu : A.units < cLine) : SeqAt.RcOp .Gt A s (.ref t) (.ref u) (ltL b a) := by
  have e1 : its.toArray.size = a.length := by rw [List.size_toArray]; exact i1.length
  have e2 : its2.toArray.size = b.length := by rw [List.size_toArray]; exact i2.length
  have at1 : ∀ j (h1 : j < its.toArray.size), ∃ t, its.toArray[j] = .int (a.getD j 0) t := fun j h1 => PyProof.Rows.IntsAre.int_at i1 _ _ (by simp at h1; simp [h1])
  have at2 : ∀ j (h1 : j < its2.toArray.size), ∃ t, its2.toArray[j] = .int (b.getD j 0) t := fun j h1 => PyProof.Rows.IntsAre.int_at i2 _ _ (by simp at h1; simp [h1])
  have R := SeqAt.RcOp.lists_gt (A := A) (s := s) (e := fun j => decide (a.getD j 0 = b.getD j 0)) (r := fun j => decide (b.getD j 0 < a.getD j 0)) hl hb hu (fun j h1 h2 => by
    obtain ⟨t, et⟩ := at1 j h1
    obtain ⟨t', et'⟩ := at2 j h2
    rw [et, et', ← beq_dec]
    exact SeqAt.EqAt.int_int _ _ _ _) (fun j h1 h2 _ => by
    obtain ⟨t, et⟩ := at1 j h1
    obtain ⟨t', et'⟩ := at2 j h2
    rw [et, et']
    exact fun _ _ _ _ h => PyProof.Rows.gt_int h)
  rw [e1, e2, firstLt_gt] at R
  exact R
theorem ints_lt (hl : s.heap.IsList t its.toArray) (hb : s.heap.IsList u its2.toArray) (i1 : IntsAre its a) (i2 : IntsAre its2 b) (hu : A.units < cLine) : SeqAt.RcLt A s (.ref t) (.ref u) (ltL a b) := by
  have e1 : its.toArray.size = a.length := by rw [List.size_toArray]; exact i1.length
  have e2 : its2.toArray.size = b.length := by rw [List.size_toArray]; exact i2.length
  have at1 : ∀ j (h1 : j < its.toArray.size), ∃ t, its.toArray[j] = .int (a.getD j 0) t := fun j h1 => PyProof.Rows.IntsAre.int_at i1 _ _ (by simp at h1; simp [h1])
  have at2 : ∀ j (h1 : j < its2.toArray.size), ∃ t, its2.toArray[j] = .int (b.getD j 0) t := fun j h1 => PyProof.Rows.IntsAre.int_at i2 _ _ (by simp at h1; simp [h1])
  have R := SeqAt.RcLt.lists (A := A) (s := s) (e := fun j => decide (a.getD j 0 = b.getD j 0)) (r := fun j => decide (a.getD j 0 < b.getD j 0)) hl hb hu (fun j h1 h2 => by
    obtain ⟨t, et⟩ := at1 j h1
    obtain ⟨t', et'⟩ := at2 j h2
    rw [et, et', ← beq_dec]
    exact SeqAt.EqAt.int_int _ _ _ _) (fun j h1 h2 _ => by
    obtain ⟨t, et⟩ := at1 j h1
    obtain ⟨t', et'⟩ := at2 j h2
    rw [et, et']
    exact fun _ _ _ _ h => PyProof.Rows.lt_int h)
  rw [e1, e2, firstLt_lt] at R
  exact R
end
/-- the first of the best by an order whose «not less» goes on -/
theorem argBest_le {lt : Nat → Nat → Bool} (as : ∀ i j, lt i j = true → lt j i = false) (tr : ∀ i j k, lt j i = false → lt k j = false → lt k i = false) : ∀ k, argBest lt k ≤ k ∧ ∀ j, j ≤ k → lt j (argBest lt k) = false
  | 0 => ⟨Nat.le_refl _, fun j hj => by
    have e : j = 0 := by omega
    subst e
    cases h : lt 0 0 with
    | false => exact h
    | true => exact absurd (as 0 0 h) (by rw [h]; exact Bool.noConfusion)⟩
  | k + 1 => by
    obtain ⟨h1, h2⟩ := argBest_le as tr k
    simp only [argBest]
    have self : ∀ i, lt i i = false := fun i => by
      cases h : lt i i with
      | false => rfl
      | true => rw [as i i h] at h; cases h
    cases hc : lt (k + 1) (argBest lt k) with
    | true =>
      rw [if_pos rfl]
      refine ⟨Nat.le_refl _, fun j hj => ?_⟩
      rcases Nat.lt_or_ge j (k + 1) with hlt | hge
      · exact tr _ _ _ (as _ _ hc) (h2 j (by omega))
      · have : j = k + 1 := by omega
        rw [this]
        exact self _
    | false =>
      rw [if_neg Bool.false_ne_true]
      refine ⟨by omega, fun j hj => ?_⟩
      rcases Nat.lt_or_ge j (k + 1) with hlt | hge
      · exact h2 j (by omega)
      · have : j = k + 1 := by omega
        rw [this]
        exact hc
/-! ### the rules -/
/-- lists of ints at the addresses as, by number -/
def Rows (H : Hp) (as : List Addr) (rows : List (List Int)) : Prop := as.length = rows.length ∧ ∀ (i : Nat) (a : Addr) (row : List Int), as[i]? = some a → rows[i]? = some row → H a = some (.lst (row.map V.int))
def rMaxLL (K : PySem.W.Frag) (vs : List V) (H : Hp) (Q : VK) : Prop := ∃ (l : Addr) (as : List Addr) (rows : List (List Int)), vs = [.ref l] ∧ SqL K H l (as.map V.ref) ∧ Rows H as rows ∧ 0 < rows.length ∧
  ∀ (i : Nat) (a : Addr) (row : List Int), as[i]? = some a → rows[i]? = some row → (∀ r ∈ rows, ltL row r = false) → Q (.ref a) H
/-- pairs of a number and a list of ints at the addresses ts -/
def NRows (H : Hp) (ts : List Addr) (as : List Addr) (rows : List (Int × List Int)) : Prop := ts.length = rows.length ∧ as.length = rows.length ∧ ∀ (i : Nat) (t a : Addr) (row : Int × List Int), ts[i]? = some t → as[i]? = some a → rows[i]? = some row →
  H t = some (.tup [.int row.1, .ref a]) ∧ H a = some (.lst (row.2.map V.int))
def rMinTL (K : PySem.W.Frag) (vs : List V) (H : Hp) (Q : VK) : Prop := ∃ (l : Addr) (ts as : List Addr) (rows : List (Int × List Int)), vs = [.ref l] ∧ SqL K H l (ts.map V.ref) ∧ NRows H ts as rows ∧ 0 < rows.length ∧
  ∀ (i : Nat) (t : Addr) (row : Int × List Int), ts[i]? = some t → rows[i]? = some row → (∀ r ∈ rows, ltL (r.1 :: r.2) (row.1 :: row.2) = false) → Q (.ref t) H
theorem map_ref_at {as : List Addr} {its : List Value} {i : Nat} {a : Addr} (r : Vals (as.map V.ref) its) (h : as[i]? = some a) : its[i]? = some (.ref a) := by
  obtain ⟨u, h1, h2⟩ := Vals.get r (i := i) (x := .ref a) (by rw [List.getElem?_map, h] <;> rfl)
  rw [h1, show u = Value.ref a from h2]
theorem eqv_ints : ∀ a b : List Int, PyData.eqv (dInts a) (dInts b) = decide (a = b) := by
  intro a b
  have e : PyData.eqvAll (a.map PyData.int) (b.map PyData.int) = decide (a = b) := by
    induction a generalizing b with
    | nil =>
      cases b with
      | nil => rfl
      | cons y ys => rfl
    | cons x xs ih =>
      cases b with
      | nil => rfl
      | cons y ys =>
        rw [List.map_cons, List.map_cons, PyData.eqvAll, ih ys]
        simp only [PyData.eqv, List.cons.injEq]
        rw [beq_dec]
        by_cases h1 : x = y
        · by_cases h2 : xs = ys
          · simp [h1, h2]
          · simp [h1, h2]
        · simp [h1]
  unfold dInts
  rw [PyData.eqv]
  exact e
section
variable {X : Cx}
theorem cr_maxLL (hc : X.calm = true) (hu : X.A.units + 64 < cLine) : CallR X (.builtin "max") (rMaxLL X.K) := by
  intro pins s σ H xs us Q I r h
  obtain ⟨l, as, rows, rfl, hl, hR, h0, q⟩ := h
  obtain ⟨hlen, hR⟩ := hR
  rw [Vals.ref1 r]
  obtain ⟨its, rv, pl, _⟩ := I.list hl
  have hn : its.toArray.size = rows.length := by rw [List.size_toArray, ← rv.length, List.length_map]; exact hlen
  have item : ∀ (i : Nat) (v : Value), its.toArray[i]? = some v → ∃ a row iA, as[i]? = some a ∧ rows[i]? = some row ∧ v = .ref a ∧ IntsAre iA row ∧ s.heap.IsList a iA.toArray := fun i v hv => by
    have hi : i < rows.length := by
      rw [← hn]
      exact (Array.getElem?_eq_some_iff.mp hv).1
    obtain ⟨a, ha⟩ : ∃ a, as[i]? = some a := ⟨_, List.getElem?_eq_getElem (by omega)⟩
    obtain ⟨row, hrow⟩ : ∃ row, rows[i]? = some row := ⟨_, List.getElem?_eq_getElem hi⟩
    obtain ⟨iA, ra, pa, _⟩ := I.list (SqL.of (hR i a row ha hrow))
    have hv' : its[i]? = some v := by simpa using hv
    rw [map_ref_at rv ha] at hv'
    exact ⟨a, row, iA, ha, hrow, (Option.some.inj hv').symm, Vals.ints ra, pa.isList⟩
  refine call_max_walkH (PySem.W.iter_listW (A := X.A.in1) (I.ok.hd hc) pl.isList fun s₂ e W st hfp hw hk => ?_)
  refine ⟨_, _, _, _, _, _, _, s.heap, fun i j => ltL (rows.getD j []) (rows.getD i []), rfl, W, st, hfp, by omega, hw, hk, fun i j vi vj s' Q' E' hk' hi hj hq => ?_, fun v s' hP m => ?_⟩
  · obtain ⟨a, ra, iA, _, h2, rfl, h4, h5⟩ := item i vi hi
    obtain ⟨b, rb, iB, _, g2, rfl, g4, g5⟩ := item j vj hj
    have e1 : rows.getD i [] = ra := by rw [List.getD_eq_getElem?_getD, h2] <;> rfl
    have e2 : rows.getD j [] = rb := by rw [List.getD_eq_getElem?_getD, g2] <;> rfl
    dsimp only at hq
    rw [e1, e2] at hq
    exact ints_gt (A := X.A.in1) (h5.at fun o e => hk' _ _ e) (g5.at fun o e => hk' _ _ e) h4 g4 (show X.A.units + 1 < cLine by omega) _ _ _ _ hq
  · obtain ⟨h', tk, rfl, hk'⟩ := PySem.W.moved_old e rfl m
    obtain ⟨a, row, iA, h1, h2, rfl, _, _⟩ := item _ v hP
    obtain ⟨b1, b2⟩ := argBest_le (lt := fun i j => ltL (rows.getD j []) (rows.getD i [])) (fun i j => ltL_asym _ _) (fun i j k h h' => ltL_le_trans h' h) (its.toArray.size - 1)
    refine ⟨.ref a, H, I.kept (t' := tk) hk', rfl, q _ a row h1 h2 fun r hr => ?_⟩
    obtain ⟨j, hj, ej⟩ := List.mem_iff_getElem.mp hr
    have := b2 j (by omega)
    have e1 : rows.getD j [] = r := by rw [List.getD_eq_getElem?_getD, List.getElem?_eq_getElem hj, ← ej] <;> rfl
    have e2 : rows.getD (argBest (fun i j => ltL (rows.getD j []) (rows.getD i [])) (its.toArray.size - 1)) [] = row := by rw [List.getD_eq_getElem?_getD, h2] <;> rfl
    rw [← e1, ← e2]
    exact this
theorem cr_minTL (hc : X.calm = true) (hu : X.A.units + 64 < cLine) : CallR X (.builtin "min") (rMinTL X.K) := by
  intro pins s σ H xs us Q I r h
  obtain ⟨l, ts, as, rows, rfl, hl, hR, h0, q⟩ := h
  obtain ⟨hlen, hlenA, hR⟩ := hR
  rw [Vals.ref1 r]
  obtain ⟨its, rv, pl, _⟩ := I.list hl
  have hn : its.toArray.size = rows.length := by rw [List.size_toArray, ← rv.length, List.length_map]; exact hlen
  have item : ∀ (i : Nat) (v : Value), its.toArray[i]? = some v → ∃ t row a tk iA rs, ts[i]? = some t ∧ rows[i]? = some row ∧ v = .ref t ∧ s.heap.IsTuple t #[.int row.1 tk, .ref a] ∧ IntsAre iA row.2 ∧ s.heap.IsList a iA.toArray ∧ Reads s.heap (.ref a) (dInts row.2) rs := fun i v hv => by
    have hi : i < rows.length := by
      rw [← hn]
      exact (Array.getElem?_eq_some_iff.mp hv).1
    obtain ⟨t, ht⟩ : ∃ t, ts[i]? = some t := ⟨_, List.getElem?_eq_getElem (by omega)⟩
    obtain ⟨a, ha⟩ : ∃ a, as[i]? = some a := ⟨_, List.getElem?_eq_getElem (by omega)⟩
    obtain ⟨row, hrow⟩ : ∃ row, rows[i]? = some row := ⟨_, List.getElem?_eq_getElem hi⟩
    obtain ⟨e1, e2⟩ := hR i t a row ht ha hrow
    obtain ⟨iA, ra, pa, _⟩ := I.list (SqL.of e2)
    obtain ⟨iT, rT, pT, _⟩ := I.tuple (SqT.of e1)
    obtain ⟨rs, hrs⟩ := Dp.reads I _ _ (.ref a) (Is.dp (K := X.K) _ _ (Is.ints e2)) rfl
    have hv' : its[i]? = some v := by simpa using hv
    rw [map_ref_at rv ht] at hv'
    cases rT with
    | cons r1 rr =>
      cases rr with
      | cons r2 rr =>
        cases rr
        obtain ⟨tk, rfl⟩ := r1
        obtain rfl := r2
        exact ⟨t, row, a, tk, iA, rs, ht, hrow, (Option.some.inj hv').symm, pT, Vals.ints ra, pa.isList, hrs⟩
  refine call_min_walkH (PySem.W.iter_listW (A := X.A.in1) (I.ok.hd hc) pl.isList fun s₂ e W st hfp hw hk => ?_)
  refine ⟨_, _, _, _, _, _, _, s.heap, fun i j => ltL ((rows.getD i (0, [])).1 :: (rows.getD i (0, [])).2) ((rows.getD j (0, [])).1 :: (rows.getD j (0, [])).2), rfl, W, st, hfp, by omega, hw, hk, fun i j vi vj s' Q' E' hk' hi hj hq => ?_, fun v s' hP m => ?_⟩
  · obtain ⟨t, ra, a, k1, iA, rs, _, h2, rfl, h4, h5, h6, h7⟩ := item i vi hi
    obtain ⟨u, rb, b, k2, iB, rs2, _, g2, rfl, g4, g5, g6, g7⟩ := item j vj hj
    have e1 : rows.getD i (0, []) = ra := by rw [List.getD_eq_getElem?_getD, h2] <;> rfl
    have e2 : rows.getD j (0, []) = rb := by rw [List.getD_eq_getElem?_getD, g2] <;> rfl
    dsimp only at hq
    rw [e1, e2] at hq
    have R := SeqAt.RcLt.tuples (A := X.A.in1) (s := s') (e := fun j => if j = 0 then decide (ra.1 = rb.1) else decide (ra.2 = rb.2)) (r := fun j => if j = 0 then decide (ra.1 < rb.1) else ltL ra.2 rb.2) (h4.at fun o e => hk' _ _ e) (g4.at fun o e => hk' _ _ e) (show X.A.units + 1 < cLine by omega)
      (fun j p1 p2 => by
        have hj : j < 2 := p1
        match j, hj with
        | 0, _ => rw [if_pos rfl, ← beq_dec]; exact SeqAt.EqAt.int_int _ _ _ _
        | 1, _ =>
          rw [if_neg (by decide), ← eqv_ints]
          exact SeqAt.eqAt_reads _ _ _ _ _ _ _ _ (PySem.W.reads_keeps hk' h7) (PySem.W.reads_keeps hk' g7) (Fl.ints 0 _).1 (Fl.ints 0 _).1 (by
            have := (Fl.ints 0 ra.2).2
            have := Nat.min_le_left (dInts ra.2).depth (dInts rb.2).depth
            show X.A.units + 1 + 1 + _ < cLine
            omega))
      (fun j p1 p2 _ => by
        have hj : j < 2 := p1
        match j, hj with
        | 0, _ => rw [if_pos rfl]; exact fun _ _ _ _ h => PyProof.Rows.lt_int h
        | 1, _ => rw [if_neg (by decide)]; exact ints_lt (A := X.A.in1.in1) (h6.at fun o e => hk' _ _ e) (g6.at fun o e => hk' _ _ e) h5 g5 (show X.A.units + 1 + 1 < cLine by omega))
    have eR : SeqAt.firstLt (fun j => if j = 0 then decide (ra.1 = rb.1) else decide (ra.2 = rb.2)) (fun j => if j = 0 then decide (ra.1 < rb.1) else ltL ra.2 rb.2) (decide (2 < 2)) (List.range (min 2 2)) = ltL (ra.1 :: ra.2) (rb.1 :: rb.2) := by
      show (if decide (ra.1 = rb.1) = true then (if decide (ra.2 = rb.2) = true then false else ltL ra.2 rb.2) else decide (ra.1 < rb.1)) = _
      rw [ltL]
      by_cases c : ra.1 = rb.1
      · rw [if_pos (decide_eq_true c), if_pos c]
        by_cases d : ra.2 = rb.2
        · rw [if_pos (decide_eq_true d), d, ltL_irrefl]
        · rw [if_neg (by rw [decide_eq_true_eq]; exact d)]
      · rw [if_neg (by rw [decide_eq_true_eq]; exact c), if_neg c]
    have R2 : SeqAt.RcLt X.A.in1 s' (.ref t) (.ref u) (SeqAt.firstLt (fun j => if j = 0 then decide (ra.1 = rb.1) else decide (ra.2 = rb.2)) (fun j => if j = 0 then decide (ra.1 < rb.1) else ltL ra.2 rb.2) (decide (2 < 2)) (List.range (min 2 2))) := R
    rw [eR] at R2
    exact R2 _ _ _ _ hq
  · obtain ⟨h', tk, rfl, hk'⟩ := PySem.W.moved_old e rfl m
    obtain ⟨t, row, a, _, _, _, h1, h2, rfl, _⟩ := item _ v hP
    obtain ⟨b1, b2⟩ := argBest_le (lt := fun i j => ltL ((rows.getD i (0, [])).1 :: (rows.getD i (0, [])).2) ((rows.getD j (0, [])).1 :: (rows.getD j (0, [])).2)) (fun i j => ltL_asym _ _) (fun i j k h h' => ltL_le_trans h h') (its.toArray.size - 1)
    refine ⟨.ref t, H, I.kept (t' := tk) hk', rfl, q _ t row h1 h2 fun r hr => ?_⟩
    obtain ⟨j, hj, ej⟩ := List.mem_iff_getElem.mp hr
    have := b2 j (by omega)
    have e1 : rows.getD j (0, []) = r := by rw [List.getD_eq_getElem?_getD, List.getElem?_eq_getElem hj, ← ej] <;> rfl
    have e2 : rows.getD (argBest (fun i j => ltL ((rows.getD i (0, [])).1 :: (rows.getD i (0, [])).2) ((rows.getD j (0, [])).1 :: (rows.getD j (0, [])).2)) (its.toArray.size - 1)) (0, []) = row := by rw [List.getD_eq_getElem?_getD, h2] <;> rfl
    rw [e1, e2] at this
    exact this
end
section
variable {X : Cx} {K : PySem.W.Frag}
theorem kc_maxLL (h : X.K = K) (hc : X.calm = true) (hu : X.A.units + 64 < cLine) : CallR X (.builtin "max") (rMaxLL K) := by subst h; exact cr_maxLL hc hu
theorem kc_minTL (h : X.K = K) (hc : X.calm = true) (hu : X.A.units + 64 < cLine) : CallR X (.builtin "min") (rMinTL K) := by subst h; exact cr_minTL hc hu
theorem kop_notIn (h : X.K = K) : OpR X (compareOp .NotIn) (rIn K true) := by subst h; exact op_notIn_seq
theorem kop_in (h : X.K = K) : OpR X (compareOp .In) (rIn K false) := by subst h; exact op_in_seq
end
section
variable {K : PySem.W.Frag} {H : Hp} {Q : VK}
theorem inV_ints (n : Int) : ∀ ns : List Int, inV (.int n) (ns.map V.int) = decide (n ∈ ns) := by
  intro ns
  induction ns with
  | nil => rfl
  | cons k r ih =>
    have e : inV (.int n) (V.int k :: r.map V.int) = (decide (n = k) || inV (.int n) (r.map V.int)) := by
      unfold inV
      rw [List.any_cons]
      congr 1
      first
        | rfl
        | (simp [eqV]; done)
        | (by_cases q : n = k
           · simp [eqV, q]
           · simp [eqV, q, Ne.symm q])
    rw [List.map_cons, e, ih]
    by_cases c : n = k
    · simp [c]
    · simp [c]
theorem flat_ints (ns : List Int) : (ns.map V.int).all flatV = true := by
  rw [List.all_map, List.all_eq_true]
  intro x _
  rfl
theorem r_notIn {a : Addr} {n : Int} {ns : List Int} (h : SqL K H a (ns.map V.int) ∨ SqT K H a (ns.map V.int)) (k : Q (.bl (!decide (n ∈ ns))) H) : rIn K true (.int n) (.ref a) H Q := by
  refine ⟨a, _, rfl, h, rfl, flat_ints ns, ?_⟩
  rw [if_pos rfl, inV_ints]
  exact k
theorem r_extend {l b : Addr} {xs zs : List V} (h : H l = some (.lst xs)) (hb : H b = some (.lst zs)) (hz : xs.length + zs.length ≤ sizeLine) (k : ∀ H', H' l = some (.lst (xs ++ zs)) → (∀ b o, b ≠ l → H b = some o → H' b = some o) → Q .non H') : rExtend (.ref l) [.ref b] H Q :=
  ⟨l, b, xs, zs, rfl, rfl, h, hb, hz, k _ upd_same fun b o n q => at_wr n q⟩
/-- xs == [], xs a list of ints -/
theorem r_eqNil {a b : Addr} {ns : List Int} (h : H a = some (.lst (ns.map V.int))) (h2 : H b = some (.lst [])) (k : Q (.bl (decide (ns = []))) H) : rEqA K (.ref a) (.ref b) H Q := by
  refine .inr ⟨dInts ns, .list [], Is.dp _ _ (Is.ints h), Is.dp _ _ (.lst h2 .nil), (Fl.ints 0 ns).shaped (by decide), (Fl.list (n := 0) (ds := []) (by simp)).shaped (by decide), ?_⟩
  have e : PyData.eqv (dInts ns) (.list []) = decide (ns = []) := by
    cases ns with
    | nil => simp [dInts, PyData.eqv, PyData.eqvAll]
    | cons n r => simp [dInts, PyData.eqv, PyData.eqvAll]
  rw [e]
  exact k
theorem NRows.mono {H' : Hp} {ts as : List Addr} {rows : List (Int × List Int)} (h : NRows H ts as rows) (R : ∀ b o, H b = some o → (∃ i : Nat, ts[i]? = some b ∨ as[i]? = some b) → H' b = some o) : NRows H' ts as rows :=
  ⟨h.1, h.2.1, fun i t a row h1 h2 h3 => ⟨R _ _ (h.2.2 i t a row h1 h2 h3).1 ⟨i, .inl h1⟩, R _ _ (h.2.2 i t a row h1 h2 h3).2 ⟨i, .inr h2⟩⟩⟩
theorem NRows.nil : NRows H [] [] [] := ⟨rfl, rfl, fun i t a row h => by simp at h⟩
theorem at_snoc {α : Type} {l : List α} {x y : α} {i : Nat} (h : (l ++ [x])[i]? = some y) : l[i]? = some y ∧ i < l.length ∨ i = l.length ∧ y = x := by
  rw [List.getElem?_append] at h
  by_cases c : i < l.length
  · rw [if_pos c] at h
    exact .inl ⟨h, c⟩
  · rw [if_neg c] at h
    have : i - l.length = 0 := by
      cases e : i - l.length with
      | zero => rfl
      | succ n => rw [e] at h; simp at h
    rw [this] at h
    exact .inr ⟨by omega, by simpa using h.symm⟩
theorem NRows.snoc {ts as : List Addr} {rows : List (Int × List Int)} {t a : Addr} {row : Int × List Int} (h : NRows H ts as rows) (h1 : H t = some (.tup [.int row.1, .ref a])) (h2 : H a = some (.lst (row.2.map V.int))) : NRows H (ts ++ [t]) (as ++ [a]) (rows ++ [row]) := by
  obtain ⟨l1, l2, at_⟩ := h
  refine ⟨by simp [l1], by simp [l2], fun i t' a' row' e1 e2 e3 => ?_⟩
  rcases at_snoc e1 with ⟨f1, g1⟩ | ⟨f1, rfl⟩
  · rcases at_snoc e2 with ⟨f2, g2⟩ | ⟨f2, rfl⟩
    · rcases at_snoc e3 with ⟨f3, g3⟩ | ⟨f3, rfl⟩
      · exact at_ i _ _ _ f1 f2 f3
      · omega
    · omega
  · rcases at_snoc e2 with ⟨f2, g2⟩ | ⟨f2, rfl⟩
    · omega
    · rcases at_snoc e3 with ⟨f3, g3⟩ | ⟨f3, rfl⟩
      · omega
      · exact ⟨h1, h2⟩
end
end Rd

namespace Rd
open PySem L2
section
variable {P : Program} {w : World} {K : PySem.W.Frag} {mg : Str → Option Value} {base : Heap}
def spStart (K : PySem.W.Frag) : Sp := fun vs H Q _ => ∃ (a : Addr) (ns : List Int), vs = [.ref a] ∧ SqL K H a (ns.map V.int) ∧ ∀ st H', H st = none → Same H H' → St H' st a → Q (.ref st) H'
theorem spStart_i {a : Addr} {ns : List Int} {H : Hp} {Q : VK} {E : XK} (hS : SqL K H a (ns.map V.int)) (k : ∀ st H', H st = none → Same H H' → St H' st a → Q (.ref st) H') : spStart K [.ref a] H Q E := ⟨a, ns, rfl, hS, k⟩
def spLaw (K : PySem.W.Frag) : Sp := fun vs H Q _ => ∃ (a : Addr) (ns : List Int), vs = [.ref a] ∧ SqL K H a (ns.map V.int) ∧ ns.length ≤ 63 ∧ ∀ H', Q (.bl true) H'
theorem ok_law_start (F : FunAt K mg "_law_start" s_law_start) : Has P w K mg base CX0 1 "_law_start" (spStart K) := by
  refine F.ok sc_law_start bo_law_start (fun vs H Q E h => ?_) (fun f cdv A outer s H vs Q E hr h => ?_)
  · obtain ⟨a, ns, rfl, _⟩ := h
    rfl
  · obtain ⟨a, ns, rfl, hS, k⟩ := h
    refine ⟨_, (pss_cons (ps_set (i := 1) sc_law_start.nd rfl (by first | exact Or.inl rfl | exact Or.inr rfl) pe_int)
 (pss_cons (ps_for PassesOwn.never rfl (kpi_list (K := K) rfl (pv 0)) (pg_name (i := 2) sc_law_start.nd rfl (by first | exact Or.inl rfl | exact Or.inr rfl)) (pss_one (ps_set (i := 1) sc_law_start.nd rfl (by first | exact Or.inl rfl | exact Or.inr rfl) (pe_op op_mod (pe_op (kop_add (K := K) rfl) (pe_op (kop_add (K := K) rfl) (pe_op op_mul (pv 1) pe_int) (pv 2)) pe_int) pe_int))))
 (pss_one (ps_ret (pe_lst (pa_cons (pv 0) (pa_cons pe_int (pa_cons (pv 1) (pa_cons pe_int pa_nil))))))))), ?_⟩
    refine r_start (σ' := [some (.ref a), none, none]) rfl ?_
    walk_at "go"
    refine ⟨_, rfl, ⟨_, hS⟩, fw_list (K := K) (a := a) (xs := ns.map V.int) (fun i σ H2 => H2 = H ∧ ∃ m v, σ = [some (.ref a), some (.int m), v] ∧ 0 ≤ m ∧ m < 2147483647) ⟨rfl, 1, none, rfl, by decide, by decide⟩ (fun i σ H2 _ h => h.1 ▸ hS) ?_ ?_⟩
    · rintro i y σ H2 hi ⟨rfl, m, v, rfl, h0, h1⟩
      obtain ⟨z, hz, rfl⟩ := map_at hi
      walk_at "go"
      refine r_I (.inl ⟨by omega, by omega⟩) ?_
      walk_at "go"
      refine r_I (by decide) ?_
      walk_at "go"
      exact ⟨rfl, _, _, rfl, Int.emod_nonneg _ (by decide), Int.emod_lt_of_pos _ (by decide)⟩
    · rintro σ H2 ⟨rfl, m, v, rfl, h0, h1⟩
      walk_at "go"
      intro p np
      walk_at "go"
      exact k p _ np (same_new np) ⟨_, _, _, upd_same, by omega, h0, h1, by omega⟩
def spDrawn (K : PySem.W.Frag) : Sp := fun vs H Q _ => ∃ (st a : Addr) (ns : List Int) (many : Int), vs = [.ref st, .int many] ∧ St H st a ∧ SqL K H a (ns.map V.int) ∧ 0 < many ∧ many.natAbs < 2 ^ 200 ∧
  ∀ (v : Int) (H' : Hp), 0 ≤ v → v < many → St H' st a → Fr H H' → Q (.int v) H'
theorem spDrawn_i {st a : Addr} {ns : List Int} {many : Int} {H : Hp} {Q : VK} {E : XK} (s : St H st a) (hS : SqL K H a (ns.map V.int)) (h0 : 0 < many) (h1 : many.natAbs < 2 ^ 200)
    (k : ∀ (v : Int) (H' : Hp), 0 ≤ v → v < many → St H' st a → Fr H H' → Q (.int v) H') : spDrawn K [.ref st, .int many] H Q E := ⟨st, a, ns, many, rfl, s, hS, h0, h1, k⟩
theorem ok_law_drawn (B : Bl mg) (F : FunAt K mg "_law_drawn" s_law_drawn) : Has P w K mg base CX0 1 "_law_drawn" (spDrawn K) := by
  refine F.ok sc_law_drawn bo_law_drawn (fun vs H Q E h => ?_) (fun f cdv A outer s H vs Q E hr h => ?_)
  · obtain ⟨st, a, ns, many, rfl, _⟩ := h
    rfl
  · obtain ⟨st, a, ns, many, rfl, hs, hS, h0, h1, k⟩ := h
    obtain ⟨i, m, r, hst, hi, hm0, hm1, hr0⟩ := hs.ex
    have wd : CDivW 0 many := wide_div h0 h1 (by decide) (by decide)
    refine ⟨_, (pss_cons (ps_if (pt_cmpR op_gt (pe_ix (kix (K := K) rfl) (pv 0) pe_int (fun _ _ => rfl)) pe_int (nomark _)) (pss_cons (ps_set (i := 2) sc_law_drawn.nd rfl (by first | exact Or.inl rfl | exact Or.inr rfl) (pe_op op_mod (pe_ix (kix (K := K) rfl) (pv 0) pe_int (fun _ _ => rfl)) (pv 1)))
 (pss_cons (ps_asg (pe_op op_fdivW (pe_ix (kix (K := K) rfl) (pv 0) pe_int (fun _ _ => rfl)) (pv 1)) (pg_sub (pv 0) pe_int set_list))
 (pss_one (ps_ret (pv 2))))) pss_nil)
 (pss_cons (ps_asg (pe_op (kop_add (K := K) rfl) (pe_ix (kix (K := K) rfl) (pv 0) pe_int (fun _ _ => rfl)) pe_int) (pg_sub (pv 0) pe_int set_list))
 (pss_cons (ps_if (pt_cmpR op_le (pe_ix (kix (K := K) rfl) (pv 0) pe_int (fun _ _ => rfl)) (pe_callB (kc_len (K := K) rfl) rfl B.len (by decide +kernel) (pa_cons (pe_ix (kix (K := K) rfl) (pv 0) pe_int (fun _ _ => rfl)) pa_nil)) (nomark _)) (pss_cons (ps_set (i := 3) sc_law_drawn.nd rfl (by first | exact Or.inl rfl | exact Or.inr rfl) (pe_ix (kix (K := K) rfl) (pe_ix (kix (K := K) rfl) (pv 0) pe_int (fun _ _ => rfl)) (pe_op op_sub (pe_ix (kix (K := K) rfl) (pv 0) pe_int (fun _ _ => rfl)) pe_int) (fun _ _ => rfl)))
 (pss_cons (ps_asg (pe_ifExp (pt_cmpR op_ge (pv 3) (pe_op op_pow pe_int pe_int) (nomark _)) (pe_op op_fdivW (pv 3) (pv 1)) pe_int) (pg_sub (pv 0) pe_int set_list))
 (pss_one (ps_ret (pe_op op_mod (pv 3) (pv 1)))))) pss_nil)
 (pss_cons (ps_asg (pe_op op_mod (pe_op (kop_add (K := K) rfl) (pe_op op_mul (pe_ix (kix (K := K) rfl) (pv 0) pe_int (fun _ _ => rfl)) pe_int) pe_int) pe_int) (pg_sub (pv 0) pe_int set_list))
 (pss_one (ps_ret (pe_op op_mod (pe_op op_fdivW (pe_ix (kix (K := K) rfl) (pv 0) pe_int (fun _ _ => rfl)) pe_int) (pv 1)))))))), ?_⟩
    refine r_start (σ' := [some (.ref st), some (.int many), none, none]) rfl ?_
    have wr : ∀ {H1 H2 : Hp} {i m r : Int}, H1 st = some (.lst [.ref a, .int i, .int m, .int r]) → (∀ b o, b ≠ st → H1 b = some o → H2 b = some o) → Fr H1 H2 := fun e w b o q n => w b o (fun z => by subst z; rw [e] at q; cases q; exact n _ _ _ _ rfl) q
    walk_at "go"
    refine iteD (fun hp => ?_) (fun hp => ?_)
    · walk_at "go"
      refine r_I h0 ?_
      walk_at "go"
      refine r_I (show CDivW r many from wd) ?_
      walk_at "go"
      refine r_setA (j := 3) hst rfl rfl fun H1 e1 w1 => ?_
      walk_at "go"
      exact k _ _ (Int.emod_nonneg _ (by omega)) (Int.emod_lt_of_pos _ h0) ⟨_, _, _, e1, hi, hm0, hm1, Int.ediv_nonneg hr0 (by omega)⟩ (wr hst w1)
    · walk_at "go"
      refine r_setA (j := 1) hst rfl rfl fun H1 hst1 w1 => ?_
      have R1 := wr hst w1
      have hS1 := fr_sq R1 hS
      walk_at "go"
      rw [List.length_map]
      refine iteD (fun hl => ?_) (fun hl => ?_)
      · walk_at "go"
        have hlt : i.toNat < ns.length := by omega
        refine r_ix (.inl hS1) (at_of (j := i.toNat) (by omega) (by rw [List.getElem?_map, List.getElem?_eq_getElem hlt]; rfl)) ?_
        walk_at "go"
        have fin : ∀ (r' : Int) (H2 : Hp), 0 ≤ r' → H2 st = some (.lst [.ref a, .int (i + 1), .int m, .int r']) → (∀ b o, b ≠ st → H1 b = some o → H2 b = some o) → Q (.int (ns[i.toNat] % many)) H2 := fun r' H2 hr' e2 w2 =>
          k _ _ (Int.emod_nonneg _ (by omega)) (Int.emod_lt_of_pos _ h0) ⟨_, _, _, e2, by omega, hm0, hm1, hr'⟩ (R1.trans (wr hst1 w2))
        refine iteD (fun hc => ?_) (fun hc => ?_)
        · walk_at "go"
          refine r_I (show CDivW _ many from wd) ?_
          walk_at "go"
          refine r_setA (j := 3) hst1 rfl rfl fun H2 e2 w2 => ?_
          walk_at "go"
          refine r_I h0 ?_
          walk_at "go"
          refine fin _ H2 (Int.ediv_nonneg ?_ (by omega)) e2 w2
          have : (0 : Int) ≤ 10 ^ (18 : Int).toNat := by decide
          omega
        · walk_at "go"
          refine r_setA (j := 3) hst1 rfl rfl fun H2 e2 w2 => ?_
          walk_at "go"
          refine r_I h0 ?_
          walk_at "go"
          exact fin 0 H2 (by omega) e2 w2
      · walk_at "go"
        refine r_I (.inl ⟨by omega, by omega⟩) ?_
        walk_at "go"
        refine r_I (by decide) ?_
        walk_at "go"
        refine r_setA (j := 2) hst1 rfl rfl fun H2 e2 w2 => ?_
        walk_at "go"
        refine r_I ⟨by decide, by decide +kernel⟩ ?_
        walk_at "go"
        refine r_I h0 ?_
        walk_at "go"
        exact k _ _ (Int.emod_nonneg _ (by omega)) (Int.emod_lt_of_pos _ h0) ⟨_, _, _, e2, by omega, Int.emod_nonneg _ (by decide), Int.emod_lt_of_pos _ (by decide), hr0⟩ (R1.trans (wr hst1 w2))
end
end Rd

namespace Rd
open PySem L2
section
variable {P : Program} {w : World} {K : PySem.W.Frag} {mg : Str → Option Value} {base : Heap}
theorem e6 : (10 : Int) ^ (6 : Int).toNat = 1000000 := by decide
theorem e29 : (10 : Int) ^ (29 : Int).toNat = 100000000000000000000000000000 := by decide
theorem small200 {m : Int} (h0 : 0 ≤ m) (h1 : m ≤ 1000000000000000000000000000000) : m.natAbs < 2 ^ 200 := by omega
def spGear (K : PySem.W.Frag) : Sp := fun vs H Q _ => ∃ (st a : Addr) (ns : List Int) (b : Bool), vs = [.ref st, .bl b] ∧ St H st a ∧ SqL K H a (ns.map V.int) ∧
  ∀ (g : Addr) (r p : Int) (H' : Hp), 2 ≤ r → r ≤ 1000000 → 0 ≤ p → p ≤ 1000000 → (b = true → r ≤ 8 ∧ p ≤ 4) → St H' st a → Fr H H' → H' g = some (.tup [.int r, .int p]) → Q (.ref g) H'
theorem spGear_i {st a : Addr} {ns : List Int} {b : Bool} {H : Hp} {Q : VK} {E : XK} (s : St H st a) (hS : SqL K H a (ns.map V.int))
    (k : ∀ (g : Addr) (r p : Int) (H' : Hp), 2 ≤ r → r ≤ 1000000 → 0 ≤ p → p ≤ 1000000 → (b = true → r ≤ 8 ∧ p ≤ 4) → St H' st a → Fr H H' → H' g = some (.tup [.int r, .int p]) → Q (.ref g) H') : spGear K [.ref st, .bl b] H Q E := ⟨st, a, ns, b, rfl, s, hS, k⟩
theorem ok_law_gear (B : Bl mg) (F : FunAt K mg "_law_gear" s_law_gear) (H_law_drawn : Has P w K mg base CX0 1 "_law_drawn" (spDrawn K)) : Has P w K mg base CX0 2 "_law_gear" (spGear K) := by
  refine F.ok sc_law_gear bo_law_gear (fun vs H Q E h => ?_) (fun f cdv A outer s H vs Q E hr h => ?_)
  · obtain ⟨st, a, ns, b, rfl, _⟩ := h
    rfl
  · obtain ⟨st, a, ns, b, rfl, hs, hS, k⟩ := h
    refine ⟨_, (pss_cons (ps_set (i := 2) sc_law_gear.nd rfl (by first | exact Or.inl rfl | exact Or.inr rfl) (pe_ix (kix (K := K) rfl) (pe_lst (pa_cons pe_int (pa_cons pe_int pa_nil))) (pe_callTy call_intA rfl B.int (by decide +kernel) (pa_cons (pv 1) pa_nil)) (fun _ _ => rfl)))
 (pss_cons (ps_set (i := 3) sc_law_gear.nd rfl (by first | exact Or.inl rfl | exact Or.inr rfl) (pe_op (kop_add (K := K) rfl) pe_int (pe_has H_law_drawn hr (by omega) rfl pass0 (pa_cons (pv 0) (pa_cons (pe_ix (kix (K := K) rfl) (pe_lst (pa_cons pe_int (pa_cons pe_int (pa_cons pe_int (pa_cons (pe_op op_sub (pe_op op_pow pe_int pe_int) pe_int) pa_nil))))) (pe_has H_law_drawn hr (by omega) rfl pass0 (pa_cons (pv 0) (pa_cons (pv 2) pa_nil))) (fun _ _ => rfl)) pa_nil)))))
 (pss_cons (ps_set (i := 4) sc_law_gear.nd rfl (by first | exact Or.inl rfl | exact Or.inr rfl) (pe_lst (pa_cons pe_int (pa_cons (pe_has H_law_drawn hr (by omega) rfl pass0 (pa_cons (pv 0) (pa_cons pe_int pa_nil))) (pa_cons (pe_has H_law_drawn hr (by omega) rfl pass0 (pa_cons (pv 0) (pa_cons (pe_ix (kix (K := K) rfl) (pe_lst (pa_cons pe_int (pa_cons pe_int (pa_cons pe_int (pa_cons (pe_op (kop_add (K := K) rfl) (pe_op op_pow pe_int pe_int) pe_int) pa_nil))))) (pe_has H_law_drawn hr (by omega) rfl pass0 (pa_cons (pv 0) (pa_cons (pv 2) pa_nil))) (fun _ _ => rfl)) pa_nil))) pa_nil)))))
 (pss_one (ps_ret (pe_tup (pa_cons (pv 3) (pa_cons (pe_ix (kix (K := K) rfl) (pv 4) (pe_has H_law_drawn hr (by omega) rfl pass0 (pa_cons (pv 0) (pa_cons pe_int pa_nil))) (fun _ _ => rfl)) pa_nil)))))))), ?_⟩
    refine r_start (σ' := [some (.ref st), some (.bl b), none, none, none]) rfl ?_
    walk_at "go"
    intro p1 n1
    walk_at "go"
    -- sorts
    obtain ⟨so, eso, hso⟩ : ∃ so : Int, atI [V.int 4, V.int 2] (if b = true then 1 else 0) = some (.int so) ∧ (so = 4 ∧ b = false ∨ so = 2 ∧ b = true) := by
      cases b
      · exact ⟨4, rfl, .inl ⟨rfl, rfl⟩⟩
      · exact ⟨2, rfl, .inr ⟨rfl, rfl⟩⟩
    refine r_ix (by walk_at "sq") eso ?_
    walk_at "go"
    -- around
    intro p2 n2
    walk_at "go"
    refine spDrawn_i (by walk_at "ss") (by walk_at "sq") (by omega) (small200 (by omega) (by omega)) fun v1 H1 a1 b1 s1 R1 => ?_
    walk_at "go"
    obtain ⟨w1, ew1, hw1⟩ := pick4 7 7 60 (10 ^ (6 : Int).toNat - 1) a1 (by omega)
    rw [e6] at hw1
    refine r_ix (by walk_at "sq") ew1 ?_
    walk_at "go"
    refine spDrawn_i s1 (by walk_at "sq") (by omega) (small200 (by omega) (by omega)) fun v2 H2 a2 b2 s2 R2 => ?_
    walk_at "go"
    refine spDrawn_i s2 (by walk_at "sq") (by omega) (by decide) fun v3 H3 a3 b3 s3 R3 => ?_
    walk_at "go"
    intro p4 n4
    walk_at "go"
    refine spDrawn_i (by walk_at "ss") (by walk_at "sq") (by omega) (small200 (by omega) (by omega)) fun v4 H4 a4 b4 s4 R4 => ?_
    walk_at "go"
    obtain ⟨w2, ew2, hw2⟩ := pick4 5 5 60 (10 ^ (6 : Int).toNat + 1) a4 (by omega)
    rw [e6] at hw2
    refine r_ix (by walk_at "sq") ew2 ?_
    walk_at "go"
    refine spDrawn_i s4 (by walk_at "sq") (by omega) (small200 (by omega) (by omega)) fun v5 H5 a5 b5 s5 R5 => ?_
    walk_at "go"
    intro p6 n6
    walk_at "go"
    refine spDrawn_i (by walk_at "ss") (by walk_at "sq") (by omega) (by decide) fun v6 H6 a6 b6 s6 R6 => ?_
    obtain ⟨pl, epl, mpl⟩ := pick3 0 v3 v5 a6 (by omega)
    refine r_ix (by walk_at "sq") epl ?_
    walk_at "go"
    intro g ng
    walk_at "go"
    refine k g _ _ _ (by omega) (by omega) (by omega) (by omega) (fun hb => ?_) (by walk_at "ss") (by walk_at "fr") upd_same
    rcases hso with ⟨_, q⟩ | ⟨q, _⟩
    · rw [q] at hb
      cases hb
    · omega
def spStanding (K : PySem.W.Frag) : Sp := fun vs H Q _ => ∃ (st a : Addr) (ns : List Int) (g : Addr) (r p : Int), vs = [.ref st, .ref g] ∧ St H st a ∧ SqL K H a (ns.map V.int) ∧ H g = some (.tup [.int r, .int p]) ∧ 0 ≤ p ∧ p ≤ 1000000 ∧
  ∀ (z : Addr) (m s : Int) (H' : Hp), m - p ≤ s → s ≤ m → -100000000000000000000000000000 ≤ m → m ≤ 100000000000000000000000000000 → St H' st a → Fr H H' → H' z = some (.tup [.int m, .int s]) → Q (.ref z) H'
theorem spStanding_i {st a g : Addr} {ns : List Int} {r p : Int} {H : Hp} {Q : VK} {E : XK} (s : St H st a) (hS : SqL K H a (ns.map V.int)) (hg : H g = some (.tup [.int r, .int p])) (h0 : 0 ≤ p) (h1 : p ≤ 1000000)
    (k : ∀ (z : Addr) (m s : Int) (H' : Hp), m - p ≤ s → s ≤ m → -100000000000000000000000000000 ≤ m → m ≤ 100000000000000000000000000000 → St H' st a → Fr H H' → H' z = some (.tup [.int m, .int s]) → Q (.ref z) H') : spStanding K [.ref st, .ref g] H Q E := ⟨st, a, ns, g, r, p, rfl, s, hS, hg, h0, h1, k⟩
theorem ok_law_standing (B : Bl mg) (F : FunAt K mg "_law_standing" s_law_standing) (H_law_drawn : Has P w K mg base CX0 1 "_law_drawn" (spDrawn K)) : Has P w K mg base CX0 2 "_law_standing" (spStanding K) := by
  refine F.ok sc_law_standing bo_law_standing (fun vs H Q E h => ?_) (fun f cdv A outer s H vs Q E hr h => ?_)
  · obtain ⟨st, a, ns, g, r, p, rfl, _⟩ := h
    rfl
  · obtain ⟨st, a, ns, g, r, p, rfl, hs, hS, hg, hp0, hp1, k⟩ := h
    refine ⟨_, (pss_cons (ps_set (i := 2) sc_law_standing.nd rfl (by first | exact Or.inl rfl | exact Or.inr rfl) (pe_ix (kix (K := K) rfl) (pe_lst (pa_cons pe_int (pa_cons pe_int (pa_cons (pe_op op_pow pe_int pe_int) pa_nil)))) (pe_has H_law_drawn hr (by omega) rfl pass0 (pa_cons (pv 0) (pa_cons pe_int pa_nil))) (fun _ _ => rfl)))
 (pss_cons (ps_set (i := 3) sc_law_standing.nd rfl (by first | exact Or.inl rfl | exact Or.inr rfl) (pe_op op_sub (pe_has H_law_drawn hr (by omega) rfl pass0 (pa_cons (pv 0) (pa_cons (pv 2) pa_nil))) (pe_op op_mul (pe_has H_law_drawn hr (by omega) rfl pass0 (pa_cons (pv 0) (pa_cons pe_int pa_nil))) (pv 2))))
 (pss_one (ps_ret (pe_tup (pa_cons (pv 3) (pa_cons (pe_op op_sub (pv 3) (pe_ix (kix (K := K) rfl) (pe_lst (pa_cons pe_int (pa_cons (pe_ix (kix (K := K) rfl) (pv 1) pe_int (fun _ _ => rfl)) (pa_cons (pe_has H_law_drawn hr (by omega) rfl pass0 (pa_cons (pv 0) (pa_cons (pe_op (kop_add (K := K) rfl) (pe_ix (kix (K := K) rfl) (pv 1) pe_int (fun _ _ => rfl)) pe_int) pa_nil))) pa_nil)))) (pe_has H_law_drawn hr (by omega) rfl pass0 (pa_cons (pv 0) (pa_cons pe_int pa_nil))) (fun _ _ => rfl))) pa_nil))))))), ?_⟩
    refine r_start (σ' := [some (.ref st), some (.ref g), none, none]) rfl ?_
    walk_at "go"
    intro p1 n1
    walk_at "go"
    refine spDrawn_i (by walk_at "ss") (by walk_at "sq") (by omega) (by decide) fun v1 H1 a1 b1 s1 R1 => ?_
    obtain ⟨far, e1, m1⟩ := pick3 10 1000 (10 ^ (29 : Int).toNat) a1 (by omega)
    rw [e29] at m1
    refine r_ix (by walk_at "sq") e1 ?_
    walk_at "go"
    refine spDrawn_i s1 (by walk_at "sq") (by omega) (small200 (by omega) (by omega)) fun v2 H2 a2 b2 s2 R2 => ?_
    walk_at "go"
    refine spDrawn_i s2 (by walk_at "sq") (by omega) (by decide) fun v3 H3 a3 b3 s3 R3 => ?_
    walk_at "go"
    refine r_I (.inl ⟨by omega, by omega⟩) ?_
    walk_at "go"
    refine spDrawn_i s3 (by walk_at "sq") (by omega) (small200 (by omega) (by omega)) fun v4 H4 a4 b4 s4 R4 => ?_
    walk_at "go"
    intro p5 n5
    walk_at "go"
    refine spDrawn_i (by walk_at "ss") (by walk_at "sq") (by omega) (by decide) fun v5 H5 a5 b5 s5 R5 => ?_
    obtain ⟨o, e5, m5⟩ := pick3 0 p v4 a5 (by omega)
    refine r_ix (by walk_at "sq") e5 ?_
    walk_at "go"
    intro z nz
    walk_at "go"
    have hv : 0 ≤ v3 * far ∧ v3 * far ≤ far := by
      have : v3 = 0 ∨ v3 = 1 := by omega
      rcases this with rfl | rfl <;> omega
    exact k z _ _ _ (by omega) (by omega) (by omega) (by omega) (by walk_at "ss") (by walk_at "fr") upd_same
def spMoves (K : PySem.W.Frag) : Sp := fun vs H Q _ => ∃ (st a : Addr) (ns : List Int) (g : Addr) (r p most : Int), vs = [.ref st, .ref g, .int most] ∧ St H st a ∧ SqL K H a (ns.map V.int) ∧ H g = some (.tup [.int r, .int p]) ∧ 0 < r ∧ r ≤ 1000000 ∧ 0 ≤ p ∧ p ≤ 1000000 ∧ 0 ≤ most ∧ most ≤ 1000 ∧
  ∀ (l : Addr) (ms : List Int) (H' : Hp), ms.length ≤ most.toNat → (∀ m ∈ ms, -100000000000000000000000000000 ≤ m ∧ m ≤ 100000000000000000000000000000) → St H' st a → Fr H H' → H' l = some (.lst (ms.map V.int)) → H l = none → Q (.ref l) H'
theorem spMoves_i {st a g : Addr} {ns : List Int} {r p most : Int} {H : Hp} {Q : VK} {E : XK} (s : St H st a) (hS : SqL K H a (ns.map V.int)) (hg : H g = some (.tup [.int r, .int p])) (r0 : 0 < r) (r1 : r ≤ 1000000) (h0 : 0 ≤ p) (h1 : p ≤ 1000000) (m0 : 0 ≤ most) (m1 : most ≤ 1000)
    (k : ∀ (l : Addr) (ms : List Int) (H' : Hp), ms.length ≤ most.toNat → (∀ m ∈ ms, -100000000000000000000000000000 ≤ m ∧ m ≤ 100000000000000000000000000000) → St H' st a → Fr H H' → H' l = some (.lst (ms.map V.int)) → H l = none → Q (.ref l) H') : spMoves K [.ref st, .ref g, .int most] H Q E := ⟨st, a, ns, g, r, p, most, rfl, s, hS, hg, r0, r1, h0, h1, m0, m1, k⟩
theorem ok_law_moves (B : Bl mg) (F : FunAt K mg "_law_moves" s_law_moves) (H_law_drawn : Has P w K mg base CX0 1 "_law_drawn" (spDrawn K)) : Has P w K mg base CX0 2 "_law_moves" (spMoves K) := by
  refine F.ok sc_law_moves bo_law_moves (fun vs H Q E h => ?_) (fun f cdv A outer s H vs Q E hr h => ?_)
  · obtain ⟨st, a, ns, g, r, p, most, rfl, _⟩ := h
    rfl
  · obtain ⟨st, a, ns, g, r, p, most, rfl, hs, hS, hg, hr0, hr1, hp0, hp1, hm0, hm1, k⟩ := h
    refine ⟨_, (pss_cons (ps_set (i := 3) sc_law_moves.nd rfl (by first | exact Or.inl rfl | exact Or.inr rfl) (pe_lst pa_nil))
 (pss_cons (ps_for PassesOwn.never rfl (pi_range1 rfl B.range (pa_cons (pe_has H_law_drawn hr (by omega) rfl pass0 (pa_cons (pv 0) (pa_cons (pe_op (kop_add (K := K) rfl) (pv 2) pe_int) pa_nil))) pa_nil)) (pg_name (i := 4) sc_law_moves.nd rfl (by first | exact Or.inl rfl | exact Or.inr rfl)) (pss_cons (ps_set (i := 5) sc_law_moves.nd rfl (by first | exact Or.inl rfl | exact Or.inr rfl) (pe_lst (pa_cons (pe_has H_law_drawn hr (by omega) rfl pass0 (pa_cons (pv 0) (pa_cons pe_int pa_nil))) (pa_cons (pe_has H_law_drawn hr (by omega) rfl pass0 (pa_cons (pv 0) (pa_cons (pe_op (kop_add (K := K) rfl) (pe_ix (kix (K := K) rfl) (pv 1) pe_int (fun _ _ => rfl)) pe_int) pa_nil))) (pa_cons (pe_has H_law_drawn hr (by omega) rfl pass0 (pa_cons (pv 0) (pa_cons (pe_op op_mul pe_int (pe_ix (kix (K := K) rfl) (pv 1) pe_int (fun _ _ => rfl))) pa_nil))) pa_nil)))))
 (pss_cons (ps_set (i := 5) sc_law_moves.nd rfl (by first | exact Or.inl rfl | exact Or.inr rfl) (pe_ix (kix (K := K) rfl) (pv 5) (pe_has H_law_drawn hr (by omega) rfl pass0 (pa_cons (pv 0) (pa_cons pe_int pa_nil))) (fun _ _ => rfl)))
 (pss_cut (ps_if (pt_cmpR (kop_eq (K := K) rfl hr.units) (pe_has H_law_drawn hr (by omega) rfl pass0 (pa_cons (pv 0) (pa_cons pe_int pa_nil))) pe_int (nomark _)) (pss_one (ps_set (i := 5) sc_law_moves.nd rfl (by first | exact Or.inl rfl | exact Or.inr rfl) (pe_has H_law_drawn hr (by omega) rfl pass0 (pa_cons (pv 0) (pa_cons (pe_op op_pow pe_int pe_int) pa_nil))))) pss_nil)
 (pss_one (ps_expr (kpe_bm (K := K) rfl PySem.F.plainAttrs_list PySem.F.slot_list_append PySem.F.type_list_append mt_append (pv 3) (pa_cons (pe_ix (kix (K := K) rfl) (pe_lst (pa_cons (pv 5) (pa_cons (pe_op op_sub pe_int (pv 5)) pa_nil))) (pe_has H_law_drawn hr (by omega) rfl pass0 (pa_cons (pv 0) (pa_cons pe_int pa_nil))) (fun _ _ => rfl)) pa_nil))))))))
 (pss_one (ps_ret (pv 3))))), ?_⟩
    refine r_start (σ' := [some (.ref st), some (.ref g), some (.int most), none, none, none]) rfl ?_
    walk_at "go"
    intro l nl
    walk_at "go"
    refine spDrawn_i (by walk_at "ss") (by walk_at "sq") (by omega) (small200 (by omega) (by omega)) fun n H0 a0 b0 s0 R0 => ?_
    have f0 : Fr H H0 := by walk_at "fr"
    refine ⟨_, rfl, by omega, by omega, fw_range (fun i σ H2 => ∃ (ms : List Int) (u v : Option V), σ = [some (.ref st), some (.ref g), some (.int most), some (.ref l), u, v] ∧ ms.length = i ∧ (∀ m ∈ ms, -100000000000000000000000000000 ≤ m ∧ m ≤ 100000000000000000000000000000) ∧ St H2 st a ∧ Fr H H2 ∧ H2 l = some (.lst (ms.map V.int)))
      ⟨[], none, none, rfl, rfl, by simp, s0, f0, R0 _ _ upd_same nst_nil⟩ ?_ ?_⟩
    · rintro i σ H2 hi ⟨ms, u, v, rfl, hlen, hms, s2, f2, hl⟩
      walk_at "go"
      refine spDrawn_i s2 (by walk_at "sq") (by omega) (by decide) fun v1 H3 a1 b1 s3 R3 => ?_
      walk_at "go"
      refine spDrawn_i s3 (by walk_at "sq") (by omega) (small200 (by omega) (by omega)) fun v2 H4 a2 b2 s4 R4 => ?_
      walk_at "go"
      refine r_I (.inl ⟨by omega, by omega⟩) ?_
      walk_at "go"
      refine spDrawn_i s4 (by walk_at "sq") (by omega) (small200 (by omega) (by omega)) fun v3 H5 a3 b3 s5 R5 => ?_
      walk_at "go"
      intro p6 n6
      walk_at "go"
      refine spDrawn_i (by walk_at "ss") (by walk_at "sq") (by omega) (by decide) fun v6 H6 a6 b6 s6 R6 => ?_
      obtain ⟨sz, e6, m6⟩ := pick3 v1 v2 v3 a6 (by omega)
      refine r_ix (by walk_at "sq") e6 ?_
      walk_at "go"
      refine r_cut (fun σ' H' => ∃ sz' : Int, σ' = [some (.ref st), some (.ref g), some (.int most), some (.ref l), some (.int (0 + i)), some (.int sz')] ∧ 0 ≤ sz' ∧ sz' ≤ 100000000000000000000000000000 ∧ St H' st a ∧ Fr H H' ∧ H' l = some (.lst (ms.map V.int))) ?_ ?_
      · walk_at "go"
        refine spDrawn_i s6 (by walk_at "sq") (by omega) (by decide) fun v7 H7 a7 b7 s7 R7 => ?_
        walk_at "go"
        refine iteD (fun _ => ?_) (fun _ => ?_)
        · walk_at "go"
          refine spDrawn_i s7 (by walk_at "sq") (by rw [e29]; omega) (by rw [e29]; decide) fun v8 H8 a8 b8 s8 R8 => ?_
          rw [e29] at b8
          walk_at "go"
          exact ⟨v8, rfl, by omega, by omega, s8, by walk_at "fr", by walk_at "hp"⟩
        · walk_at "go"
          exact ⟨sz, rfl, by omega, by omega, s7, by walk_at "fr", by walk_at "hp"⟩
      · rintro σ' H9 ⟨sz', rfl, hz0, hz1, s9, f9, hl9⟩
        walk_at "go"
        refine ⟨r_tyL hl9, ?_⟩
        walk_at "go"
        intro p10 n10
        walk_at "go"
        refine spDrawn_i (by walk_at "ss") (by walk_at "sq") (by omega) (by decide) fun v11 H11 a11 b11 s11 R11 => ?_
        obtain ⟨z, e11, m11⟩ := pick2 sz' (0 - sz') a11 (by omega)
        refine r_ix (by walk_at "sq") e11 ?_
        walk_at "go"
        have hl11 : H11 l = some (.lst (ms.map V.int)) := by walk_at "hp"
        refine r_appA hl11 (by rw [List.length_map]; exact small1000 (by omega)) fun H12 e12 w12 => ?_
        walk_at "go"
        have ne : st ≠ l := s11.ne hl11 nst_ints
        obtain ⟨i', m', r', hst, q⟩ := s11.ex
        refine ⟨ms ++ [z], _, _, rfl, by simp [hlen], fun x hx => ?_, ⟨i', m', r', w12 _ _ ne hst, q⟩, fun b o e n => ?_, by rw [e12]; simp⟩
        · simp at hx
          rcases hx with hx | rfl
          · exact hms x hx
          · omega
        · have nb : b ≠ l := ne_of_none e nl
          have : Fr H H11 := by walk_at "fr"
          exact w12 _ _ nb (this _ _ e n)
    · rintro σ H2 ⟨ms, u, v, rfl, hlen, hms, s2, f2, hl⟩
      walk_at "go"
      exact k l ms H2 (by omega) hms s2 f2 hl nl
end
end Rd

namespace Rd
/-! ## the shaft: plain -/
/-- where the shaft stands behind k steps, as the program reckons it -/
def pb (p m s k : Int) : Int := min (m + k) (max (m + k - p) s)
/-- .. as the law does -/
def lb (p m s k : Int) : Int := if 0 < k then s + max 0 (k - (p - (m - s))) else s + min 0 (k + (m - s))
theorem lb_pb {p m s k : Int} (h0 : m - p ≤ s) (h1 : s ≤ m) : lb p m s k = pb p m s k := by
  unfold lb pb
  split <;> omega
def nx (p : Int) (z : Int × Int) (k : Int) : Int × Int := (z.1 + k, pb p z.1 z.2 k)
def pos (p : Int) (z : Int × Int) (ks : List Int) : Int × Int := ks.foldl (nx p) z
def traj (p : Int) : Int × Int → List Int → List (Int × Int)
  | _, [] => []
  | z, k :: r => nx p z k :: traj p (nx p z k) r
theorem pos_snoc (p : Int) (z : Int × Int) (ks : List Int) (k : Int) : pos p z (ks ++ [k]) = nx p (pos p z ks) k := by
  unfold pos
  rw [List.foldl_append]
  rfl
theorem pos_app (p : Int) (z : Int × Int) (ks ls : List Int) : pos p z (ks ++ ls) = pos p (pos p z ks) ls := by
  unfold pos
  rw [List.foldl_append]
theorem traj_snoc (p : Int) : ∀ (ks : List Int) (z : Int × Int) (k : Int), traj p z (ks ++ [k]) = traj p z ks ++ [nx p (pos p z ks) k]
  | [], _, _ => rfl
  | _ :: r, z, k => by
    show _ :: traj p _ (r ++ [k]) = _ :: (traj p _ r ++ _)
    rw [traj_snoc p r]
    rfl
theorem traj_len (p : Int) : ∀ (ks : List Int) (z : Int × Int), (traj p z ks).length = ks.length
  | [], _ => rfl
  | _ :: r, z => by
    show _ + 1 = _ + 1
    rw [traj_len p r]
theorem traj_last (p : Int) : ∀ (ks : List Int) (z : Int × Int), (z :: traj p z ks)[ks.length]? = some (pos p z ks)
  | [], _ => rfl
  | k :: r, z => traj_last p r (nx p z k)
/-- a standing of a gear of the play p -/
def Stg (p : Int) (z : Int × Int) : Prop := z.1 - p ≤ z.2 ∧ z.2 ≤ z.1
theorem Stg.nx {p : Int} {z : Int × Int} (h : Stg p z) (hp : 0 ≤ p) (k : Int) : Stg p (Rd.nx p z k) := by
  obtain ⟨a, b⟩ := h
  unfold Stg Rd.nx pb
  dsimp only
  omega
theorem Stg.pos {p : Int} (hp : 0 ≤ p) : ∀ {ks : List Int} {z : Int × Int}, Stg p z → Stg p (Rd.pos p z ks)
  | [], _, h => h
  | k :: r, z, h => Stg.pos hp (ks := r) (h.nx hp k)
theorem take_snoc {α : Type} {l : List α} {i : Nat} {x : α} (h : l[i]? = some x) : l.take (i + 1) = l.take i ++ [x] := by
  rw [List.take_add_one, h]
  rfl
end Rd

namespace Rd
open PySem L2
/-- tuples of two ints at the addresses as -/
def Tups (H : Hp) (as : List Addr) (xs : List (Int × Int)) : Prop := as.length = xs.length ∧ ∀ (i : Nat) (a : Addr) (x : Int × Int), as[i]? = some a → xs[i]? = some x → H a = some (.tup [.int x.1, .int x.2])
theorem Tups.nil {H : Hp} : Tups H [] [] := ⟨rfl, fun i a x h => by simp at h⟩
theorem Tups.mono {H H' : Hp} {as : List Addr} {xs : List (Int × Int)} (t : Tups H as xs) (R : ∀ b xs, H b = some (.tup xs) → H' b = some (.tup xs)) : Tups H' as xs := ⟨t.1, fun i a x h1 h2 => R _ _ (t.2 i a x h1 h2)⟩
theorem Tups.snoc {H : Hp} {as : List Addr} {xs : List (Int × Int)} {a : Addr} {x : Int × Int} (t : Tups H as xs) (h : H a = some (.tup [.int x.1, .int x.2])) : Tups H (as ++ [a]) (xs ++ [x]) := by
  refine ⟨by simp [t.1], fun i b y h1 h2 => ?_⟩
  by_cases hi : i < as.length
  · rw [List.getElem?_append_left hi] at h1
    rw [List.getElem?_append_left (by rw [← t.1]; exact hi)] at h2
    exact t.2 i b y h1 h2
  · rw [List.getElem?_append_right (by omega)] at h1
    rw [List.getElem?_append_right (by rw [← t.1]; omega)] at h2
    have e : i - as.length = 0 := by
      cases q : i - as.length with
      | zero => rfl
      | succ n => rw [q] at h1; simp at h1
    rw [e] at h1
    rw [← t.1, e] at h2
    cases h1
    cases h2
    exact h
theorem Tups.all {H : Hp} : ∀ {as : List Addr} {xs : List (Int × Int)}, Tups H as xs → IsAll H (as.map V.ref) (xs.map dPair)
  | [], [], _ => .nil
  | [], _ :: _, t => nomatch t.1
  | _ :: _, [], t => nomatch t.1
  | a :: as, x :: xs, t => .cons (Is.pair (t.2 0 a x rfl rfl)) (Tups.all ⟨Nat.succ.inj t.1, fun i b y h1 h2 => t.2 (i + 1) b y (by simpa using h1) (by simpa using h2)⟩)
section
variable {P : Program} {w : World} {K : PySem.W.Frag} {mg : Str → Option Value} {base : Heap}
/-- a gear stands at g -/
structure GearAt (H : Hp) (g : Addr) (r p : Int) : Prop where
  at_ : H g = some (.tup [.int r, .int p])
  r2 : 2 ≤ r
  r6 : r ≤ 1000000
  p0 : 0 ≤ p
  p6 : p ≤ 1000000
theorem GearAt.mono {H H' : Hp} {g : Addr} {r p : Int} (G : GearAt H g r p) (h : H' g = some (.tup [.int r, .int p])) : GearAt H' g r p := ⟨h, G.r2, G.r6, G.p0, G.p6⟩
def spNG : Sp := fun vs H Q _ => ∃ (g : Addr) (r p : Int), vs = [.ref g] ∧ GearAt H g r p ∧ Q .non H
theorem spNG_i {g : Addr} {r p : Int} {H : Hp} {Q : VK} {E : XK} (G : GearAt H g r p) (k : Q .non H) : spNG [.ref g] H Q E := ⟨g, r, p, rfl, G, k⟩
theorem ok_need_gear (F : FunAt K mg "need_gear" s_need_gear) (M_MOST : Cn mg "MOST" 1000000) : Has P w K mg base CX0 1 "need_gear" spNG := by
  refine F.ok sc_need_gear bo_need_gear (fun vs H Q E h => ?_) (fun f cdv A outer s H vs Q E hr h => ?_)
  · obtain ⟨g, r, p, rfl, _⟩ := h
    rfl
  · obtain ⟨g, r, p, rfl, G, k⟩ := h
    have hg := G.at_
    have h1 := G.r2
    have h2 := G.r6
    have h3 := G.p0
    have h4 := G.p6
    refine ⟨_, (pss_cons (ps_asg (pv 0) (kpg_tup (K := K) rfl rfl (pgs_cons (pg_name (i := 1) sc_need_gear.nd rfl (by first | exact Or.inl rfl | exact Or.inr rfl)) (pgs_cons (pg_name (i := 2) sc_need_gear.nd rfl (by first | exact Or.inl rfl | exact Or.inr rfl)) pgs_nil))))
 (pss_one (ps_if (PW.pt (pw_or (pt_not (pt_chain op_le op_le pe_int (pv 1) (pe_cn M_MOST rfl))) (pw_or1 (pt_not (pt_chain op_le op_le pe_int (pv 2) (pe_cn M_MOST rfl)))))) (pss_one ps_never) pss_nil))), ?_⟩
    refine r_start (σ' := [some (.ref g), none, none]) rfl ?_
    walk_at "go"
    refine iteDT (by omega) ?_
    walk_at "go"
    refine iteNF (by omega) ?_
    walk_at "go"
    refine iteDT (by omega) ?_
    walk_at "go"
    refine iteNF (by omega) ?_
    walk_at "go"
    exact k
def spNS : Sp := fun vs H Q _ => ∃ (g : Addr) (r p : Int) (z : Addr) (x : Int × Int), vs = [.ref g, .ref z] ∧ GearAt H g r p ∧ H z = some (.tup [.int x.1, .int x.2]) ∧ Stg p x ∧ Q .non H
theorem spNS_i {g z : Addr} {r p : Int} {x : Int × Int} {H : Hp} {Q : VK} {E : XK} (G : GearAt H g r p) (hz : H z = some (.tup [.int x.1, .int x.2])) (hs : Stg p x) (k : Q .non H) : spNS [.ref g, .ref z] H Q E := ⟨g, r, p, z, x, rfl, G, hz, hs, k⟩
theorem ok_need_standing (F : FunAt K mg "need_standing" s_need_standing) (H_need_gear : Has P w K mg base CX0 1 "need_gear" spNG) : Has P w K mg base CX0 2 "need_standing" spNS := by
  refine F.ok sc_need_standing bo_need_standing (fun vs H Q E h => ?_) (fun f cdv A outer s H vs Q E hr h => ?_)
  · obtain ⟨g, r, p, z, x, rfl, _⟩ := h
    rfl
  · obtain ⟨g, r, p, z, x, rfl, G, hz, hs, k⟩ := h
    have hg := G.at_
    obtain ⟨a1, a2⟩ := hs
    refine ⟨_, (pss_cons (ps_expr (pe_has H_need_gear hr (by omega) rfl pass0 (pa_cons (pv 0) pa_nil)))
 (pss_cons (ps_asg (pv 1) (kpg_tup (K := K) rfl rfl (pgs_cons (pg_name (i := 2) sc_need_standing.nd rfl (by first | exact Or.inl rfl | exact Or.inr rfl)) (pgs_cons (pg_name (i := 3) sc_need_standing.nd rfl (by first | exact Or.inl rfl | exact Or.inr rfl)) pgs_nil))))
 (pss_one (ps_if (pt_not (pt_chain op_le op_le (pe_op op_sub (pv 2) (pe_ix (kix (K := K) rfl) (pv 0) pe_int (fun _ _ => rfl))) (pv 3) (pv 2))) (pss_one ps_never) pss_nil)))), ?_⟩
    refine r_start (σ' := [some (.ref g), some (.ref z), none, none]) rfl ?_
    walk_at "go"
    refine spNG_i G ?_
    walk_at "go"
    refine iteDT (by omega) ?_
    walk_at "go"
    refine iteNF (by omega) ?_
    walk_at "go"
    exact k
def spNM (K : PySem.W.Frag) : Sp := fun vs H Q _ => ∃ (l : Addr) (ms : List Int), vs = [.ref l] ∧ SqL K H l (ms.map V.int) ∧ ms.length ≤ 100 ∧ Q .non H
theorem spNM_i {l : Addr} {ms : List Int} {H : Hp} {Q : VK} {E : XK} (hl : SqL K H l (ms.map V.int)) (h : ms.length ≤ 100) (k : Q .non H) : spNM K [.ref l] H Q E := ⟨l, ms, rfl, hl, h, k⟩
theorem ok_need_moves (B : Bl mg) (F : FunAt K mg "need_moves" s_need_moves) (M_MOST_MOVES : Cn mg "MOST_MOVES" 100) : Has P w K mg base CX0 1 "need_moves" (spNM K) := by
  refine F.ok sc_need_moves bo_need_moves (fun vs H Q E h => ?_) (fun f cdv A outer s H vs Q E hr h => ?_)
  · obtain ⟨l, ms, rfl, _⟩ := h
    rfl
  · obtain ⟨l, ms, rfl, hl, hm, k⟩ := h
    refine ⟨_, (pss_one (ps_if (pt_cmpR op_gt (pe_callB (kc_len (K := K) rfl) rfl B.len (by decide +kernel) (pa_cons (pv 0) pa_nil)) (pe_cn M_MOST_MOVES rfl) (nomark _)) (pss_one ps_never) pss_nil)), ?_⟩
    refine r_start (σ' := [some (.ref l)]) rfl ?_
    walk_at "go"
    rw [List.length_map]
    refine iteDF (by omega) ?_
    walk_at "go"
    exact k
def spBehind : Sp := fun vs H Q _ => ∃ (g : Addr) (r p : Int) (z : Addr) (x : Int × Int) (k : Int), vs = [.ref g, .ref z, .int k] ∧ H g = some (.tup [.int r, .int p]) ∧ H z = some (.tup [.int x.1, .int x.2]) ∧
  ∀ (q : Addr) (H' : Hp), H q = none → Same H H' → H' q = some (.tup [.int (nx p x k).1, .int (nx p x k).2]) → Q (.ref q) H'
theorem spBehind_i {g z : Addr} {r p k : Int} {x : Int × Int} {H : Hp} {Q : VK} {E : XK} (hg : H g = some (.tup [.int r, .int p])) (hz : H z = some (.tup [.int x.1, .int x.2]))
    (h : ∀ (q : Addr) (H' : Hp), H q = none → Same H H' → H' q = some (.tup [.int (nx p x k).1, .int (nx p x k).2]) → Q (.ref q) H') : spBehind [.ref g, .ref z, .int k] H Q E := ⟨g, r, p, z, x, k, rfl, hg, hz, h⟩
theorem ok_behind (B : Bl mg) (F : FunAt K mg "behind" s_behind) : Has P w K mg base CX0 1 "behind" spBehind := by
  refine F.ok sc_behind bo_behind (fun vs H Q E h => ?_) (fun f cdv A outer s H vs Q E hr h => ?_)
  · obtain ⟨g, r, p, z, x, k, rfl, _⟩ := h
    rfl
  · obtain ⟨g, r, p, z, x, k, rfl, hg, hz, h⟩ := h
    refine ⟨_, (pss_cons (ps_set (i := 3) sc_behind.nd rfl (by first | exact Or.inl rfl | exact Or.inr rfl) (pe_op (kop_add (K := K) rfl) (pe_ix (kix (K := K) rfl) (pv 1) pe_int (fun _ _ => rfl)) (pv 2)))
 (pss_one (ps_ret (pe_tup (pa_cons (pv 3) (pa_cons (pe_callB (kc_min (K := K) rfl rfl) rfl B.min (by decide +kernel) (pa_cons (pv 3) (pa_cons (pe_callB (kc_max (K := K) rfl rfl) rfl B.max (by decide +kernel) (pa_cons (pe_op op_sub (pv 3) (pe_ix (kix (K := K) rfl) (pv 0) pe_int (fun _ _ => rfl))) (pa_cons (pe_ix (kix (K := K) rfl) (pv 1) pe_int (fun _ _ => rfl)) pa_nil))) pa_nil))) pa_nil)))))), ?_⟩
    refine r_start (σ' := [some (.ref g), some (.ref z), some (.int k), none]) rfl ?_
    walk_at "go"
    intro q nq
    walk_at "go"
    exact h q _ nq (same_new nq) upd_same
def spAB (K : PySem.W.Frag) : Sp := fun vs H Q _ => ∃ (g : Addr) (r p : Int) (z : Addr) (x : Int × Int) (l : Addr) (ms : List Int), vs = [.ref g, .ref z, .ref l] ∧ H g = some (.tup [.int r, .int p]) ∧ H z = some (.tup [.int x.1, .int x.2]) ∧ SqL K H l (ms.map V.int) ∧ ms.length ≤ 1000 ∧
  ∀ (q : Addr) (as : List Addr) (H' : Hp), H q = none → Same H H' → H' q = some (.lst (as.map V.ref)) → Tups H' as (traj p x ms) → Q (.ref q) H'
theorem spAB_i {g z l : Addr} {r p : Int} {x : Int × Int} {ms : List Int} {H : Hp} {Q : VK} {E : XK} (hg : H g = some (.tup [.int r, .int p])) (hz : H z = some (.tup [.int x.1, .int x.2])) (hl : SqL K H l (ms.map V.int)) (hm : ms.length ≤ 1000)
    (h : ∀ (q : Addr) (as : List Addr) (H' : Hp), H q = none → Same H H' → H' q = some (.lst (as.map V.ref)) → Tups H' as (traj p x ms) → Q (.ref q) H') : spAB K [.ref g, .ref z, .ref l] H Q E := ⟨g, r, p, z, x, l, ms, rfl, hg, hz, hl, hm, h⟩
theorem ok_all_behind (B : Bl mg) (F : FunAt K mg "all_behind" s_all_behind) (H_behind : Has P w K mg base CX0 1 "behind" spBehind) : Has P w K mg base CX0 2 "all_behind" (spAB K) := by
  refine F.ok sc_all_behind bo_all_behind (fun vs H Q E h => ?_) (fun f cdv A outer s H vs Q E hr h => ?_)
  · obtain ⟨g, r, p, z, x, l, ms, rfl, _⟩ := h
    rfl
  · obtain ⟨g, r, p, z, x, l, ms, rfl, hg, hz, hl, hm, h⟩ := h
    refine ⟨_, (pss_cons (ps_set (i := 3) sc_all_behind.nd rfl (by first | exact Or.inl rfl | exact Or.inr rfl) (pe_lst pa_nil))
 (pss_cons (ps_for PassesOwn.never rfl (kpi_list (K := K) rfl (pv 2)) (pg_name (i := 4) sc_all_behind.nd rfl (by first | exact Or.inl rfl | exact Or.inr rfl)) (pss_cons (ps_set (i := 1) sc_all_behind.nd rfl (by first | exact Or.inl rfl | exact Or.inr rfl) (pe_has H_behind hr (by omega) rfl pass0 (pa_cons (pv 0) (pa_cons (pv 1) (pa_cons (pv 4) pa_nil)))))
 (pss_one (ps_expr (kpe_bm (K := K) rfl PySem.F.plainAttrs_list PySem.F.slot_list_append PySem.F.type_list_append mt_append (pv 3) (pa_cons (pv 1) pa_nil))))))
 (pss_one (ps_ret (pv 3))))), ?_⟩
    refine r_start (σ' := [some (.ref g), some (.ref z), some (.ref l), none, none]) rfl ?_
    walk_at "go"
    intro q nq
    walk_at "go"
    refine ⟨_, rfl, ⟨_, by walk_at "sq"⟩, fw_list (K := K) (a := l) (xs := ms.map V.int) (fun i σ H2 => ∃ (z' : Addr) (as : List Addr) (v : Option V), σ = [some (.ref g), some (.ref z'), some (.ref l), some (.ref q), v] ∧ Same H H2 ∧ H2 q = some (.lst (as.map V.ref)) ∧
        H2 z' = some (.tup [.int (pos p x (ms.take i)).1, .int (pos p x (ms.take i)).2]) ∧ Tups H2 as (traj p x (ms.take i)))
      ⟨z, [], none, rfl, same_new nq, upd_same, at_new nq hz, Tups.nil⟩ (fun i σ H2 _ ⟨_, _, _, _, s2, _⟩ => s2.seq hl) ?_ ?_⟩
    · rintro i y σ H2 hi ⟨z', as, v, rfl, s2, hq, hz', ht⟩
      obtain ⟨k, hk, rfl⟩ := map_at hi
      walk_at "go"
      refine spBehind_i (by walk_at "hp") hz' fun z2 H3 nz2 s3 hz2 => ?_
      walk_at "go"
      have hq3 : H3 q = some (.lst (as.map V.ref)) := s3 _ _ hq
      refine ⟨r_tyL hq3, ?_⟩
      walk_at "go"
      have hil : i < ms.length := (List.getElem?_eq_some_iff.mp hk).1
      have hlen : as.length = i := by rw [ht.1, traj_len, List.length_take]; omega
      refine r_appA hq3 (by rw [List.length_map]; exact small1000 (by omega)) fun H4 e4 w4 => ?_
      walk_at "go"
      have keep : ∀ b xs, H3 b = some (.tup xs) → H4 b = some (.tup xs) := fun b xs e => w4 _ _ (ne_of e hq3 (fun z => nomatch z)) e
      refine ⟨z2, as ++ [z2], _, rfl, fun b o e => w4 _ _ (ne_of_none e nq) (s3 _ _ (s2 _ _ e)), by rw [e4]; simp, ?_, ?_⟩
      · rw [take_snoc hk, pos_snoc]
        exact keep _ _ hz2
      · rw [take_snoc hk, traj_snoc]
        exact ((ht.mono fun b xs e => s3 _ _ e).mono keep).snoc (keep _ _ hz2)
    · rintro σ H2 ⟨z', as, v, rfl, s2, hq, hz', ht⟩
      walk_at "go"
      rw [List.length_map, List.take_length] at ht
      exact h q as H2 nq s2 hq ht
def spTrail (K : PySem.W.Frag) : Sp := fun vs H Q _ => ∃ (g : Addr) (r p : Int) (z : Addr) (x : Int × Int) (l : Addr) (ms : List Int), vs = [.ref g, .ref z, .ref l] ∧ GearAt H g r p ∧ H z = some (.tup [.int x.1, .int x.2]) ∧ Stg p x ∧ SqL K H l (ms.map V.int) ∧ ms.length ≤ 100 ∧
  ∀ (q : Addr) (as : List Addr) (H' : Hp), H q = none → Same H H' → H' q = some (.lst (as.map V.ref)) → Tups H' as (traj p x ms) → Q (.ref q) H'
theorem spTrail_i {g z l : Addr} {r p : Int} {x : Int × Int} {ms : List Int} {H : Hp} {Q : VK} {E : XK} (G : GearAt H g r p) (hz : H z = some (.tup [.int x.1, .int x.2])) (hs : Stg p x) (hl : SqL K H l (ms.map V.int)) (hm : ms.length ≤ 100)
    (h : ∀ (q : Addr) (as : List Addr) (H' : Hp), H q = none → Same H H' → H' q = some (.lst (as.map V.ref)) → Tups H' as (traj p x ms) → Q (.ref q) H') : spTrail K [.ref g, .ref z, .ref l] H Q E := ⟨g, r, p, z, x, l, ms, rfl, G, hz, hs, hl, hm, h⟩
theorem ok_trail (F : FunAt K mg "trail" s_trail) (H_need_standing : Has P w K mg base CX0 2 "need_standing" spNS) (H_need_moves : Has P w K mg base CX0 1 "need_moves" (spNM K)) (H_all_behind : Has P w K mg base CX0 2 "all_behind" (spAB K)) : Has P w K mg base CX0 3 "trail" (spTrail K) := by
  refine F.ok sc_trail bo_trail (fun vs H Q E h => ?_) (fun f cdv A outer s H vs Q E hr h => ?_)
  · obtain ⟨g, r, p, z, x, l, ms, rfl, _⟩ := h
    rfl
  · obtain ⟨g, r, p, z, x, l, ms, rfl, G, hz, hs, hl, hm, h⟩ := h
    refine ⟨_, (pss_cons (ps_expr (pe_has H_need_standing hr (by omega) rfl pass0 (pa_cons (pv 0) (pa_cons (pv 1) pa_nil))))
 (pss_cons (ps_expr (pe_has H_need_moves hr (by omega) rfl pass0 (pa_cons (pv 2) pa_nil)))
 (pss_one (ps_ret (pe_has H_all_behind hr (by omega) rfl pass0 (pa_cons (pv 0) (pa_cons (pv 1) (pa_cons (pv 2) pa_nil)))))))), ?_⟩
    refine r_start (σ' := [some (.ref g), some (.ref z), some (.ref l)]) rfl ?_
    walk_at "go"
    refine spNS_i G hz hs ?_
    walk_at "go"
    refine spNM_i hl hm ?_
    walk_at "go"
    refine spAB_i G.at_ hz hl (by omega) fun q as H' nq s' hq ht => ?_
    walk_at "go"
    exact h q as H' nq s' hq ht
def spStands (K : PySem.W.Frag) : Sp := fun vs H Q _ => ∃ (g : Addr) (r p : Int) (z : Addr) (x : Int × Int) (l : Addr) (ms : List Int), vs = [.ref g, .ref z, .ref l] ∧ GearAt H g r p ∧ H z = some (.tup [.int x.1, .int x.2]) ∧ Stg p x ∧ SqL K H l (ms.map V.int) ∧ ms.length ≤ 100 ∧
  ∀ (q : Addr) (H' : Hp), Same H H' → H' q = some (.tup [.int (pos p x ms).1, .int (pos p x ms).2]) → Q (.ref q) H'
theorem spStands_i {g z l : Addr} {r p : Int} {x : Int × Int} {ms : List Int} {H : Hp} {Q : VK} {E : XK} (G : GearAt H g r p) (hz : H z = some (.tup [.int x.1, .int x.2])) (hs : Stg p x) (hl : SqL K H l (ms.map V.int)) (hm : ms.length ≤ 100)
    (h : ∀ (q : Addr) (H' : Hp), Same H H' → H' q = some (.tup [.int (pos p x ms).1, .int (pos p x ms).2]) → Q (.ref q) H') : spStands K [.ref g, .ref z, .ref l] H Q E := ⟨g, r, p, z, x, l, ms, rfl, G, hz, hs, hl, hm, h⟩
theorem ok_stands (B : Bl mg) (F : FunAt K mg "stands" s_stands) (H_need_standing : Has P w K mg base CX0 2 "need_standing" spNS) (H_need_moves : Has P w K mg base CX0 1 "need_moves" (spNM K)) (H_all_behind : Has P w K mg base CX0 2 "all_behind" (spAB K)) : Has P w K mg base CX0 3 "stands" (spStands K) := by
  refine F.ok sc_stands bo_stands (fun vs H Q E h => ?_) (fun f cdv A outer s H vs Q E hr h => ?_)
  · obtain ⟨g, r, p, z, x, l, ms, rfl, _⟩ := h
    rfl
  · obtain ⟨g, r, p, z, x, l, ms, rfl, G, hz, hs, hl, hm, h⟩ := h
    have hg := G.at_
    refine ⟨_, (pss_cons (ps_expr (pe_has H_need_standing hr (by omega) rfl pass0 (pa_cons (pv 0) (pa_cons (pv 1) pa_nil))))
 (pss_cons (ps_expr (pe_has H_need_moves hr (by omega) rfl pass0 (pa_cons (pv 2) pa_nil)))
 (pss_one (ps_ret (pe_ix (kix (K := K) rfl) (pe_op (kop_add (K := K) rfl) (pe_lst (pa_cons (pe_callTy (kc_tup (K := K) rfl) rfl B.tuple (by decide +kernel) (pa_cons (pv 1) pa_nil)) pa_nil)) (pe_has H_all_behind hr (by omega) rfl pass0 (pa_cons (pv 0) (pa_cons (pv 1) (pa_cons (pv 2) pa_nil))))) (pe_un un_neg pe_int) (fun _ _ => rfl)))))), ?_⟩
    refine r_start (σ' := [some (.ref g), some (.ref z), some (.ref l)]) rfl ?_
    walk_at "go"
    refine spNS_i G hz hs ?_
    walk_at "go"
    refine spNM_i hl hm ?_
    walk_at "go"
    refine r_tupT (by walk_at "sq") ?_
    walk_at "go"
    intro c nc
    walk_at "go"
    refine spAB_i (by walk_at "hp") (by walk_at "hp") (by walk_at "sq") (by omega) fun q as H' nq s' hq ht => ?_
    have hc : H' c = some (.lst [.ref z]) := by walk_at "hp"
    have hlen : as.length = ms.length := by rw [ht.1, traj_len]
    refine r_addL hc hq (by show 1 + (as.map V.ref).length ≤ _; rw [List.length_map]; exact Nat.le_of_lt (small1000 (by omega))) fun d nd => ?_
    walk_at "go"
    have hzs : H' z = some (.tup [.int x.1, .int x.2]) := by walk_at "hp"
    obtain ⟨b, hb⟩ : ∃ b, (z :: as)[as.length]? = some b := ⟨(z :: as)[as.length]'(by simp), List.getElem?_eq_getElem (by simp)⟩
    have hall : Tups H' (z :: as) (x :: traj p x ms) := by
      refine ⟨by simp [ht.1], fun i c y h1 h2 => ?_⟩
      cases i with
      | zero => cases h1; cases h2; exact hzs
      | succ i => exact ht.2 i c y h1 h2
    have hbt := hall.2 as.length b _ hb (by rw [hlen]; exact traj_last p ms x)
    refine r_ix (xs := [V.ref z] ++ as.map V.ref) (v := .ref b) (.inl (SqL.of upd_same)) ?_ ?_
    · have e : ([V.ref z] ++ as.map V.ref) = (z :: as).map V.ref := rfl
      have hlast := at_neg1 (xs := (z :: as).map V.ref) (n := as.length) (v := .ref b) (by simp) (by rw [List.getElem?_map, hb]; rfl)
      exact hlast
    · walk_at "go"
      have s1 : Same H (upd H' d (.lst ([V.ref z] ++ as.map V.ref))) := by walk_at "fr"
      exact h b _ s1 (by walk_at "hp")
end
end Rd

namespace Rd
open PySem L2
section
variable {P : Program} {w : World} {K : PySem.W.Frag} {mg : Str → Option Value} {base : Heap}
theorem FunAt.void {x : Str} {st : Stmt} {ps : List Str} (F : FunAt K mg x st) (bo : BindOk x st ps) : Has P w K mg base CX0 0 x (fun _ _ _ _ => False) := by
  obtain ⟨f, fd, F, hm⟩ := F.ex
  exact ⟨f, fd, ps, ⟨fun _ _ _ _ h => h.elim, fun _ _ _ _ _ _ _ _ _ _ _ _ _ h => h.elim⟩, hm, F.kp, F.binds bo⟩
/-- asked of the same data twice: True -/
def spSame : Nat → Sp
  | 0 => fun _ _ _ _ => False
  | n + 1 => fun vs H Q _ => ∃ (x y : V) (d : PyData), vs = [x, y] ∧ Is H x d ∧ Is H y d ∧ Fl n d ∧ ∀ H', Same H H' → Q (.bl true) H'
theorem spSame_i {n : Nat} {x y : V} {d : PyData} {H : Hp} {Q : VK} {E : XK} (hx : Is H x d) (hy : Is H y d) (f : Fl n d) (k : ∀ H', Same H H' → Q (.bl true) H') : spSame (n + 1) [x, y] H Q E := ⟨x, y, d, rfl, hx, hy, f, k⟩
theorem Fl.get {n i : Nat} {ds : List PyData} {d : PyData} (h : PyData.canLayAll0 ds = true ∧ PyData.depthAll ds ≤ n) (e : ds[i]? = some d) : Fl n d := by
  induction ds generalizing i with
  | nil => simp at e
  | cons a r ih =>
    obtain ⟨h1, h2⟩ := h
    rw [PyData.canLayAll0, Bool.and_eq_true] at h1
    rw [PyData.depthAll] at h2
    cases i with
    | zero =>
      cases e
      exact ⟨h1.1, by omega⟩
    | succ i => exact ih (i := i) ⟨h1.2, by omega⟩ (by simpa using e)
set_option maxHeartbeats 8000000 in
theorem ok_law_same (B : Bl mg) (F : FunAt K mg "_law_same" s_law_same) : ∀ n, Has P w K mg base CX0 n "_law_same" (spSame n)
  | 0 => F.void bo_law_same
  | n + 1 => by
    have H_law_same : Has P w K mg base CX0 n "_law_same" (spSame n) := ok_law_same B F n
    refine F.ok sc_law_same bo_law_same (fun vs H Q E h => ?_) (fun f cdv A outer s H vs Q E hr h => ?_)
    · obtain ⟨x, y, d, rfl, _⟩ := h
      rfl
    · obtain ⟨x, y, d, rfl, hx, hy, hf, k⟩ := h
      refine ⟨_, (pss_cons (ps_if (pt_val (pe_callB (kcc_isi (K := K) rfl) rfl B.isinstance (by decide +kernel) (pa_cons (pv 1) (pa_cons (pe_tup (pa_cons (pe_bltn rfl B.tuple (by decide +kernel) (v := .ty "tuple") rfl) (pa_cons (pe_bltn rfl B.list (by decide +kernel) (v := .ty "list") rfl) pa_nil))) pa_nil)))) (pss_cons (ps_if (PW.pt (pw_or (pt_not (pt_val (pe_callB (kcc_isi (K := K) rfl) rfl B.isinstance (by decide +kernel) (pa_cons (pv 0) (pa_cons (pe_tup (pa_cons (pe_bltn rfl B.tuple (by decide +kernel) (v := .ty "tuple") rfl) (pa_cons (pe_bltn rfl B.list (by decide +kernel) (v := .ty "list") rfl) pa_nil))) pa_nil))))) (pw_or1 (pt_cmpR (kop_ne (K := K) rfl hr.units) (pe_callB (kcc_isi (K := K) rfl) rfl B.isinstance (by decide +kernel) (pa_cons (pv 0) (pa_cons (pe_bltn rfl B.list (by decide +kernel) (v := .ty "list") rfl) pa_nil))) (pe_callB (kcc_isi (K := K) rfl) rfl B.isinstance (by decide +kernel) (pa_cons (pv 1) (pa_cons (pe_bltn rfl B.list (by decide +kernel) (v := .ty "list") rfl) pa_nil))) (nomark _))))) (pss_one (ps_ret pe_bl)) pss_nil)
 (pss_cons (ps_if (pt_cmpR (kop_ne (K := K) rfl hr.units) (pe_callB (kc_len (K := K) rfl) rfl B.len (by decide +kernel) (pa_cons (pv 0) pa_nil)) (pe_callB (kc_len (K := K) rfl) rfl B.len (by decide +kernel) (pa_cons (pv 1) pa_nil)) (nomark _)) (pss_one (ps_ret pe_bl)) pss_nil)
 (pss_one (ps_ret (pe_cmpR (kop_eq (K := K) rfl hr.units) (pe_lc (own := [("_law_k", 2)]) (g := (gName 2)) rfl sc_law_same.nd (pi_range1 rfl B.range (pa_cons (pe_callB (kc_len (K := K) rfl) rfl B.len (by decide +kernel) (pa_cons (pv 1) pa_nil)) pa_nil)) (blkOk_by (N := ["_law_found", "_law_due", "_law_k"]) (sc := defScope s_law_same) (own := [("_law_k", 2)]) (by decide +kernel)) (fun _ _ _ _ _ => (pg_name (i := 2) sc_law_same.nd rfl (by first | exact Or.inl rfl | exact Or.inr rfl))) (fun _ _ _ _ _ => (pts_one (pt_not (pt_val (pe_has H_law_same hr (by omega) rfl pass0 (pa_cons (pe_ix (kix (K := K) rfl) (pv 0) (pv 2) (fun _ _ => rfl)) (pa_cons (pe_ix (kix (K := K) rfl) (pv 1) (pv 2) (fun _ _ => rfl)) pa_nil))))))) (fun _ _ _ _ _ => (pv 2))) (pe_lst pa_nil) (nomark _)))))) pss_nil)
 (pss_cons (ps_if (pt_cmpR op_isN (pv 1) pe_non (nomark _)) (pss_one (ps_ret (pe_cmpR op_isN (pv 0) pe_non (nomark _)))) pss_nil)
 (pss_cons (ps_if (pt_val (pe_callB (kcc_isi (K := K) rfl) rfl B.isinstance (by decide +kernel) (pa_cons (pv 1) (pa_cons (pe_bltn rfl B.str (by decide +kernel) (v := .ty "str") rfl) pa_nil)))) (pss_one (ps_ret (pe_and (pe_callB (kcc_isi (K := K) rfl) rfl B.isinstance (by decide +kernel) (pa_cons (pv 0) (pa_cons (pe_bltn rfl B.str (by decide +kernel) (v := .ty "str") rfl) pa_nil))) (pe_one (pe_cmpR (kop_eq (K := K) rfl hr.units) (pv 0) (pv 1) (nomark _)))))) pss_nil)
 (pss_cons (ps_if (PW.pt (pw_or (pt_val (pe_callB (kcc_isi (K := K) rfl) rfl B.isinstance (by decide +kernel) (pa_cons (pv 1) (pa_cons (pe_bltn rfl B.bool (by decide +kernel) (v := .ty "bool") rfl) pa_nil)))) (pw_or1 (pt_val (pe_callB (kcc_isi (K := K) rfl) rfl B.isinstance (by decide +kernel) (pa_cons (pv 0) (pa_cons (pe_bltn rfl B.bool (by decide +kernel) (v := .ty "bool") rfl) pa_nil))))))) (pss_one (ps_ret (pe_and (pe_callB (kcc_isi (K := K) rfl) rfl B.isinstance (by decide +kernel) (pa_cons (pv 1) (pa_cons (pe_bltn rfl B.bool (by decide +kernel) (v := .ty "bool") rfl) pa_nil))) (pe_and (pe_callB (kcc_isi (K := K) rfl) rfl B.isinstance (by decide +kernel) (pa_cons (pv 0) (pa_cons (pe_bltn rfl B.bool (by decide +kernel) (v := .ty "bool") rfl) pa_nil))) (pe_one (pe_cmpR (kop_eq (K := K) rfl hr.units) (pv 0) (pv 1) (nomark _))))))) pss_nil)
 (pss_one (ps_ret (pe_and (pe_callB (kcc_isi (K := K) rfl) rfl B.isinstance (by decide +kernel) (pa_cons (pv 0) (pa_cons (pe_bltn rfl B.int (by decide +kernel) (v := .ty "int") rfl) pa_nil))) (pe_one (pe_cmpR (kop_eq (K := K) rfl hr.units) (pv 0) (pv 1) (nomark _)))))))))), ?_⟩
      refine r_start (σ' := [some x, some y, none]) rfl ?_
      cases d with
      | dict kvs => cases hx
      | none =>
        cases hx
        cases hy
        walk_at "go"
        intro t nt
        walk_at "go"
        refine r_isi2 upd_same (.base .non) (b1 := false) (b2 := false) (by decide +kernel) (by decide +kernel) ?_
        walk_at "go"
        refine iteF ?_
        walk_at "go"
        refine ⟨rfl, ?_⟩
        walk_at "go"
        refine iteDT rfl ?_
        walk_at "go"
        exact ⟨rfl, k _ (same_new nt)⟩
      | bool v =>
        cases hx
        cases hy
        walk_at "go"
        intro t nt
        walk_at "go"
        refine r_isi2 upd_same (.base (.bl v)) (b1 := false) (b2 := false) (by decide +kernel) (by decide +kernel) ?_
        walk_at "go"
        refine iteF ?_
        walk_at "go"
        refine ⟨rfl, ?_⟩
        walk_at "go"
        refine iteDF (by simp) ?_
        walk_at "go"
        refine r_isi (.base (.bl v)) (b := false) (by decide +kernel) ?_
        walk_at "go"
        refine iteF ?_
        walk_at "go"
        refine r_isi (.base (.bl v)) (b := true) (by decide +kernel) ?_
        walk_at "go"
        refine iteT ?_
        walk_at "go"
        refine iteT ?_
        walk_at "go"
        refine r_isi (.base (.bl v)) (b := true) (by decide +kernel) ?_
        walk_at "go"
        refine iteT ?_
        walk_at "go"
        refine r_isi (.base (.bl v)) (b := true) (by decide +kernel) ?_
        walk_at "go"
        refine iteT ?_
        walk_at "go"
        rw [decide_eq_true rfl]
        exact k _ (same_new nt)
      | int v =>
        cases hx
        cases hy
        walk_at "go"
        intro t nt
        walk_at "go"
        refine r_isi2 upd_same (.base (.int v)) (b1 := false) (b2 := false) (by decide +kernel) (by decide +kernel) ?_
        walk_at "go"
        refine iteF ?_
        walk_at "go"
        refine ⟨rfl, ?_⟩
        walk_at "go"
        refine iteDF (by simp) ?_
        walk_at "go"
        refine r_isi (.base (.int v)) (b := false) (by decide +kernel) ?_
        walk_at "go"
        refine iteF ?_
        walk_at "go"
        refine r_isi (.base (.int v)) (b := false) (by decide +kernel) ?_
        walk_at "go"
        refine iteF ?_
        walk_at "go"
        refine r_isi (.base (.int v)) (b := false) (by decide +kernel) ?_
        walk_at "go"
        refine iteF ?_
        walk_at "go"
        refine r_isi (.base (.int v)) (b := true) (by decide +kernel) ?_
        walk_at "go"
        refine iteT ?_
        walk_at "go"
        rw [decide_eq_true rfl]
        exact k _ (same_new nt)
      | str v =>
        cases hx
        cases hy
        walk_at "go"
        intro t nt
        walk_at "go"
        refine r_isi2 upd_same (.base (.str v)) (b1 := false) (b2 := false) (by decide +kernel) (by decide +kernel) ?_
        walk_at "go"
        refine iteF ?_
        walk_at "go"
        refine ⟨rfl, ?_⟩
        walk_at "go"
        refine iteDF (by simp) ?_
        walk_at "go"
        refine r_isi (.base (.str v)) (b := true) (by decide +kernel) ?_
        walk_at "go"
        refine iteT ?_
        walk_at "go"
        refine r_isi (.base (.str v)) (b := true) (by decide +kernel) ?_
        walk_at "go"
        refine iteT ?_
        walk_at "go"
        refine .inl ⟨rfl, ?_⟩
        rw [decide_eq_true rfl]
        exact k _ (same_new nt)
      | list ds =>
        cases hx with
        | lst ha hxs =>
        rename_i a xs
        cases hy with
        | lst hb hys =>
        rename_i b ys
        have hd : PyData.canLayAll0 ds = true ∧ PyData.depthAll ds + 1 ≤ n := by
          have h1 := hf.1
          have h2 := hf.2
          rw [PyData.canLay0] at h1
          rw [PyData.depth] at h2
          exact ⟨h1, h2⟩
        obtain ⟨n', rfl⟩ : ∃ n', n = n' + 1 := ⟨n - 1, by omega⟩
        walk_at "go"
        intro t nt
        walk_at "go"
        refine r_isi2 upd_same (.base (.lst (at_new nt hb))) (b1 := false) (b2 := true) (by decide +kernel) (by decide +kernel) ?_
        walk_at "go"
        refine iteT ?_
        walk_at "go"
        intro t2 nt2
        walk_at "go"
        refine r_isi2 upd_same (.base (.lst (at_new nt2 (at_new nt ha)))) (b1 := false) (b2 := true) (by decide +kernel) (by decide +kernel) ?_
        walk_at "go"
        refine iteF ?_
        walk_at "go"
        refine r_isi (.base (.lst (at_new nt2 (at_new nt ha)))) (b := true) (by decide +kernel) ?_
        walk_at "go"
        refine r_isi (.base (.lst (at_new nt2 (at_new nt hb)))) (b := true) (by decide +kernel) ?_
        walk_at "go"
        refine iteF ?_
        walk_at "go"
        have hlen : xs.length = ys.length := by rw [hxs.len, hys.len]
        refine iteNF (by rw [hlen]) ?_
        walk_at "go"
        have s2 : Same H (upd (upd H t (.tup [.ty "tuple", .ty "list"])) t2 (.tup [.ty "tuple", .ty "list"])) := (same_new nt).trans (same_new nt2)
        generalize upd (upd H t (.tup [.ty "tuple", .ty "list"])) t2 (.tup [.ty "tuple", .ty "list"]) = H2 at s2 ⊢
        refine ⟨_, rfl, by omega, by omega, fun D nD => lcw_range (σw := [some (.ref a), some (.ref b), none]) (fun i H3 => Same H H3 ∧ H3 D = some (.lst [])) rfl ⟨s2.trans (same_new nD), upd_same⟩ (fun i H3 hi h3 => ?_) fun H3 h3 => ?_⟩
        · obtain ⟨s3, hD⟩ := h3
          walk_at "go"
          refine ⟨rfl, ?_⟩
          have hi' : i < ds.length := by rw [← hys.len]; simpa using hi
          obtain ⟨u, d1, g1, g2, g3⟩ := hxs.get hi'
          obtain ⟨v, d2, g4, g5, g6⟩ := hys.get hi'
          have e12 : d2 = d1 := Option.some.inj (g5.symm.trans g2)
          subst e12
          walk_at "go"
          refine r_ix (.inl (SqL.of (s3 _ _ ha))) (at_of (j := i) (by omega) g1) ?_
          walk_at "go"
          refine r_ix (.inl (SqL.of (s3 _ _ hb))) (at_of (j := i) (by omega) g4) ?_
          walk_at "go"
          refine spSame_i (Is.mono s3 _ _ g3) (Is.mono s3 _ _ g6) (Fl.get ⟨hd.1, by omega⟩ g2) fun H4 s4 => ?_
          walk_at "go"
          refine iteF ?_
          exact ⟨s3.trans s4, s4 _ _ hD⟩
        · obtain ⟨s3, hD⟩ := h3
          walk_at "go"
          intro e ne
          walk_at "go"
          refine r_eqIs (d := .list []) (n := 1) (.lst (at_new ne hD) .nil) (.lst upd_same .nil) (Fl.list (by simp)) ?_
          walk_at "go"
          exact k _ (s3.trans (same_new ne))
      | tuple ds =>
        cases hx with
        | tup ha hxs =>
        rename_i a xs
        cases hy with
        | tup hb hys =>
        rename_i b ys
        have hd : PyData.canLayAll0 ds = true ∧ PyData.depthAll ds + 1 ≤ n := by
          have h1 := hf.1
          have h2 := hf.2
          rw [PyData.canLay0] at h1
          rw [PyData.depth] at h2
          exact ⟨h1, h2⟩
        obtain ⟨n', rfl⟩ : ∃ n', n = n' + 1 := ⟨n - 1, by omega⟩
        walk_at "go"
        intro t nt
        walk_at "go"
        refine r_isi2 upd_same (.base (.tup (at_new nt hb))) (b1 := true) (b2 := false) (by decide +kernel) (by decide +kernel) ?_
        walk_at "go"
        refine iteT ?_
        walk_at "go"
        intro t2 nt2
        walk_at "go"
        refine r_isi2 upd_same (.base (.tup (at_new nt2 (at_new nt ha)))) (b1 := true) (b2 := false) (by decide +kernel) (by decide +kernel) ?_
        walk_at "go"
        refine iteF ?_
        walk_at "go"
        refine r_isi (.base (.tup (at_new nt2 (at_new nt ha)))) (b := false) (by decide +kernel) ?_
        walk_at "go"
        refine r_isi (.base (.tup (at_new nt2 (at_new nt hb)))) (b := false) (by decide +kernel) ?_
        walk_at "go"
        refine iteF ?_
        walk_at "go"
        have hlen : xs.length = ys.length := by rw [hxs.len, hys.len]
        refine iteNF (by rw [hlen]) ?_
        walk_at "go"
        have s2 : Same H (upd (upd H t (.tup [.ty "tuple", .ty "list"])) t2 (.tup [.ty "tuple", .ty "list"])) := (same_new nt).trans (same_new nt2)
        generalize upd (upd H t (.tup [.ty "tuple", .ty "list"])) t2 (.tup [.ty "tuple", .ty "list"]) = H2 at s2 ⊢
        refine ⟨_, rfl, by omega, by omega, fun D nD => lcw_range (σw := [some (.ref a), some (.ref b), none]) (fun i H3 => Same H H3 ∧ H3 D = some (.lst [])) rfl ⟨s2.trans (same_new nD), upd_same⟩ (fun i H3 hi h3 => ?_) fun H3 h3 => ?_⟩
        · obtain ⟨s3, hD⟩ := h3
          walk_at "go"
          refine ⟨rfl, ?_⟩
          have hi' : i < ds.length := by rw [← hys.len]; simpa using hi
          obtain ⟨u, d1, g1, g2, g3⟩ := hxs.get hi'
          obtain ⟨v, d2, g4, g5, g6⟩ := hys.get hi'
          have e12 : d2 = d1 := Option.some.inj (g5.symm.trans g2)
          subst e12
          walk_at "go"
          refine r_ix (.inr (SqT.of (s3 _ _ ha))) (at_of (j := i) (by omega) g1) ?_
          walk_at "go"
          refine r_ix (.inr (SqT.of (s3 _ _ hb))) (at_of (j := i) (by omega) g4) ?_
          walk_at "go"
          refine spSame_i (Is.mono s3 _ _ g3) (Is.mono s3 _ _ g6) (Fl.get ⟨hd.1, by omega⟩ g2) fun H4 s4 => ?_
          walk_at "go"
          refine iteF ?_
          exact ⟨s3.trans s4, s4 _ _ hD⟩
        · obtain ⟨s3, hD⟩ := h3
          walk_at "go"
          intro e ne
          walk_at "go"
          refine r_eqIs (d := .list []) (n := 1) (.lst (at_new ne hD) .nil) (.lst upd_same .nil) (Fl.list (by simp)) ?_
          walk_at "go"
          exact k _ (s3.trans (same_new ne))
end
end Rd

namespace Rd
open PySem L2 LamX
section
variable {P : Program} {w : World} {K : PySem.W.Frag} {mg : Str → Option Value} {base : Heap}
def chs (r p : Int) (x : Int × Int) (goal : Int) : List Int := if (goal - x.2) % r = 0 then [0] else [x.2 + (goal - x.2) % r + p - x.1, x.2 + (goal - x.2) % r - r - x.1]
theorem chs_pos (r p : Int) (x : Int × Int) (goal : Int) : 0 < (chs r p x goal).length := by
  unfold chs
  split
  · exact Nat.succ_pos _
  · exact Nat.succ_pos _
def spGoals (K : PySem.W.Frag) : Sp := fun vs H Q _ => ∃ (g : Addr) (r p : Int) (z : Addr) (x : Int × Int) (l : Addr) (gs : List Int) (most : Int), vs = [.ref g, .ref z, .ref l, .int most] ∧ GearAt H g r p ∧ H z = some (.tup [.int x.1, .int x.2]) ∧ Stg p x ∧ SqL K H l (gs.map V.int) ∧
  (gs.length : Int) ≤ most ∧ gs.length ≤ 1000 ∧ (∀ y ∈ gs, 0 ≤ y ∧ y < r) ∧ ∀ H', Same H H' → Q .non H'
theorem spGoals_i {g z l : Addr} {r p most : Int} {x : Int × Int} {gs : List Int} {H : Hp} {Q : VK} {E : XK} (G : GearAt H g r p) (hz : H z = some (.tup [.int x.1, .int x.2])) (hs : Stg p x) (hl : SqL K H l (gs.map V.int)) (hm : (gs.length : Int) ≤ most) (h1 : gs.length ≤ 1000) (hg : ∀ y ∈ gs, 0 ≤ y ∧ y < r)
    (k : ∀ H', Same H H' → Q .non H') : spGoals K [.ref g, .ref z, .ref l, .int most] H Q E := ⟨g, r, p, z, x, l, gs, most, rfl, G, hz, hs, hl, hm, h1, hg, k⟩
theorem ok_need_goals (B : Bl mg) (F : FunAt K mg "need_goals" s_need_goals) (H_need_standing : Has P w K mg base CX0 2 "need_standing" spNS) : Has P w K mg base CX0 3 "need_goals" (spGoals K) := by
  refine F.ok sc_need_goals bo_need_goals (fun vs H Q E h => ?_) (fun f cdv A outer s H vs Q E hr h => ?_)
  · obtain ⟨g, r, p, z, x, l, gs, most, rfl, _⟩ := h
    rfl
  · obtain ⟨g, r, p, z, x, l, gs, most, rfl, G, hz, hs, hl, hm, h1, hg, k⟩ := h
    refine ⟨_, (pss_cons (ps_expr (pe_has H_need_standing hr (by omega) rfl pass0 (pa_cons (pv 0) (pa_cons (pv 1) pa_nil))))
 (pss_one (ps_if (PW.pt (pw_or (pt_cmpR op_gt (pe_callB (kc_len (K := K) rfl) rfl B.len (by decide +kernel) (pa_cons (pv 2) pa_nil)) (pv 3) (nomark _)) (pw_or1 (pt_cmpR (kop_ne (K := K) rfl hr.units) (pe_lc (own := [("goal", 4)]) (g := (gName 4)) rfl sc_need_goals.nd (kpi_list (K := K) rfl (pv 2)) (blkOk_by (N := ["gear", "standing", "goals", "most", "goal"]) (sc := defScope s_need_goals) (own := [("goal", 4)]) (by decide +kernel)) (fun _ _ _ _ _ => (pg_name (i := 4) sc_need_goals.nd rfl (by first | exact Or.inl rfl | exact Or.inr rfl))) (fun _ _ _ _ _ => (pts_one (pt_not (pt_chain op_le op_lt pe_int (pv 4) (pe_ix (kix (K := K) rfl) (pv 0) pe_int (fun _ _ => rfl)))))) (fun _ _ _ _ _ => (pv 4))) (pe_lst pa_nil) (nomark _))))) (pss_one ps_never) pss_nil))), ?_⟩
    refine r_start (σ' := [some (.ref g), some (.ref z), some (.ref l), some (.int most), none]) rfl ?_
    walk_at "go"
    refine spNS_i G hz hs ?_
    walk_at "go"
    rw [List.length_map]
    refine iteDF (by omega) ?_
    walk_at "go"
    refine ⟨_, rfl, ⟨_, hl⟩, fun D nD => lcw_list (K := K) (a := l) (xs := gs.map V.int) (σw := [some (.ref g), some (.ref z), some (.ref l), some (.int most), none])
      (fun n H8 => Same H H8 ∧ H8 D = some (.lst [])) rfl ⟨same_new nD, upd_same⟩ (fun n H8 _ h => h.1.seq hl) (fun n y H8 hn h => ?_) fun H8 h => ?_⟩
    · obtain ⟨h8, hD⟩ := h
      obtain ⟨v, hv, rfl⟩ := map_at hn
      have hb := hg v (List.mem_of_getElem? hv)
      walk_at "go"
      refine ⟨rfl, ?_⟩
      walk_at "go"
      refine iteDT hb.1 ?_
      walk_at "go"
      refine r_ix (.inr (SqT.of (h8 _ _ G.at_))) (v := .int r) rfl ?_
      walk_at "go"
      refine iteNF hb.2 ?_
      walk_at "go"
      exact ⟨h8, hD⟩
    · obtain ⟨h8, hD⟩ := h
      walk_at "go"
      intro t nt
      refine r_neNil (ns := []) (at_new nt hD) upd_same ?_
      walk_at "go"
      refine iteF ?_
      walk_at "go"
      exact k _ (h8.trans (same_new nt))
def spChoices : Sp := fun vs H Q _ => ∃ (g : Addr) (r p : Int) (z : Addr) (x : Int × Int) (goal : Int), vs = [.ref g, .ref z, .int goal] ∧ H g = some (.tup [.int r, .int p]) ∧ 0 < r ∧ H z = some (.tup [.int x.1, .int x.2]) ∧
  ∀ (q : Addr) (H' : Hp), H q = none → Same H H' → H' q = some (.lst ((chs r p x goal).map V.int)) → Q (.ref q) H'
theorem spChoices_i {g z : Addr} {r p goal : Int} {x : Int × Int} {H : Hp} {Q : VK} {E : XK} (hg : H g = some (.tup [.int r, .int p])) (h0 : 0 < r) (hz : H z = some (.tup [.int x.1, .int x.2]))
    (k : ∀ (q : Addr) (H' : Hp), H q = none → Same H H' → H' q = some (.lst ((chs r p x goal).map V.int)) → Q (.ref q) H') : spChoices [.ref g, .ref z, .int goal] H Q E := ⟨g, r, p, z, x, goal, rfl, hg, h0, hz, k⟩
theorem ok_choices (F : FunAt K mg "choices" s_choices) : Has P w K mg base CX0 1 "choices" spChoices := by
  refine F.ok sc_choices bo_choices (fun vs H Q E h => ?_) (fun f cdv A outer s H vs Q E hr h => ?_)
  · obtain ⟨g, r, p, z, x, goal, rfl, _⟩ := h
    rfl
  · obtain ⟨g, r, p, z, x, goal, rfl, hg, h0, hz, k⟩ := h
    refine ⟨_, (pss_cons (ps_asg (pv 0) (kpg_tup (K := K) rfl rfl (pgs_cons (pg_name (i := 3) sc_choices.nd rfl (by first | exact Or.inl rfl | exact Or.inr rfl)) (pgs_cons (pg_name (i := 4) sc_choices.nd rfl (by first | exact Or.inl rfl | exact Or.inr rfl)) pgs_nil))))
 (pss_cons (ps_asg (pv 1) (kpg_tup (K := K) rfl rfl (pgs_cons (pg_name (i := 5) sc_choices.nd rfl (by first | exact Or.inl rfl | exact Or.inr rfl)) (pgs_cons (pg_name (i := 6) sc_choices.nd rfl (by first | exact Or.inl rfl | exact Or.inr rfl)) pgs_nil))))
 (pss_cons (ps_set (i := 7) sc_choices.nd rfl (by first | exact Or.inl rfl | exact Or.inr rfl) (pe_op op_mod (pe_op op_sub (pv 2) (pv 6)) (pv 3)))
 (pss_cons (ps_if (pt_cmpR (kop_eq (K := K) rfl hr.units) (pv 7) pe_int (nomark _)) (pss_one (ps_ret (pe_lst (pa_cons pe_int pa_nil)))) pss_nil)
 (pss_one (ps_ret (pe_lst (pa_cons (pe_op op_sub (pe_op (kop_add (K := K) rfl) (pe_op (kop_add (K := K) rfl) (pv 6) (pv 7)) (pv 4)) (pv 5)) (pa_cons (pe_op op_sub (pe_op op_sub (pe_op (kop_add (K := K) rfl) (pv 6) (pv 7)) (pv 3)) (pv 5)) pa_nil))))))))), ?_⟩
    refine r_start (σ' := [some (.ref g), some (.ref z), some (.int goal), none, none, none, none, none]) rfl ?_
    walk_at "go"
    refine r_I h0 ?_
    walk_at "go"
    refine iteD (fun c => ?_) (fun c => ?_)
    · walk_at "go"
      intro q nq
      walk_at "go"
      refine k q _ nq (same_new nq) ?_
      rw [upd_same, chs, if_pos c]
      rfl
    · walk_at "go"
      intro q nq
      walk_at "go"
      refine k q _ nq (same_new nq) ?_
      rw [upd_same, chs, if_neg c]
      rfl
/-- the fewest steps: what to tells -/
def Few (r p : Int) (x : Int × Int) (goal v : Int) : Prop := v ∈ chs r p x goal ∧ ∀ y ∈ chs r p x goal, cod v ≤ cod y
def spTo (K : PySem.W.Frag) (T : List (Addr × Str)) : Sp := fun vs H Q _ => ∃ (g : Addr) (r p : Int) (z : Addr) (x : Int × Int) (goal : Int), vs = [.ref g, .ref z, .int goal] ∧ GearAt H g r p ∧ H z = some (.tup [.int x.1, .int x.2]) ∧ Stg p x ∧ 0 ≤ goal ∧ goal < r ∧ Tabs T H ∧
  ∀ (v : Int) (H' : Hp), ExtN H H' → Tabs T H' → Few r p x goal v → Q (.int v) H'
theorem spTo_i {T : List (Addr × Str)} {g z : Addr} {r p goal : Int} {x : Int × Int} {H : Hp} {Q : VK} {E : XK} (G : GearAt H g r p) (hz : H z = some (.tup [.int x.1, .int x.2])) (hs : Stg p x) (h0 : 0 ≤ goal) (h1 : goal < r) (hT : Tabs T H)
    (k : ∀ (v : Int) (H' : Hp), ExtN H H' → Tabs T H' → Few r p x goal v → Q (.int v) H') : spTo K T [.ref g, .ref z, .int goal] H Q E := ⟨g, r, p, z, x, goal, rfl, G, hz, hs, h0, h1, hT, k⟩
theorem ok_to {TT : List (Addr × Str)} {c Pt : Addr} (B : Bl mg) (F : FunTab K mg "to" s_to c Pt) (TB : TabB base mg c Pt) (hmT : (Pt, ("to" ++ ".<locals>." ++ "<lambda>" : Str)) ∈ TT) (huT : ∀ p ∈ TT, p.1 = Pt → p.2 = ("to" ++ ".<locals>." ++ "<lambda>" : Str))
    (H_need_goals : Has P w K mg base CX0 3 "need_goals" (spGoals K)) (H_choices : Has P w K mg base CX0 1 "choices" spChoices) : Has P w K mg base CX0 4 "to" (spTo K TT) := by
  refine F.ok sc_to bo_to (fun vs H Q E h => ?_) (fun f A outer s H vs Q E hr h => ?_)
  · obtain ⟨g, r, p, z, x, goal, rfl, _⟩ := h
    rfl
  · obtain ⟨g, r, p, z, x, goal, rfl, G, hz, hs, h0, h1, hT, k⟩ := h
    refine ⟨_, (pss_cons (ps_expr (pe_has H_need_goals hr (by omega) rfl pass0 (pa_cons (pv 0) (pa_cons (pv 1) (pa_cons (pe_lst (pa_cons (pv 2) pa_nil)) (pa_cons pe_int pa_nil))))))
 (pss_one (ps_ret (pe_minKey (K := K) (T := TT) (k := 0) (a := "steps") rfl rfl B.min (pe_has H_choices hr (by omega) rfl pass0 (pa_cons (pv 0) (pa_cons (pv 1) (pa_cons (pv 2) pa_nil)))) TB rfl hmT huT (hr.mono (by omega)) ⟨rfl, rfl, rfl, by decide +kernel, rfl, by decide +kernel, by decide +kernel⟩ rfl rfl (fun _ _ _ _ _ => rfl) (fun _ _ _ _ _ _ => (pe_tup (pa_cons (pe_callB call_absA rfl B.abs (by decide +kernel) (pa_cons (pv 0) pa_nil)) (pa_cons (pe_op op_sub pe_int (pv 0)) pa_nil)))) (by intro n H Q k; walk_at "go"; intro t nt; exact k t nt))))), ?_⟩
    refine r_start (σ' := [some (.ref g), some (.ref z), some (.int goal)]) rfl ?_
    walk_at "go"
    intro t nt
    walk_at "go"
    refine spGoals_i (gs := [goal]) (G.mono (at_new nt G.at_)) (at_new nt hz) hs (SqL.of upd_same) (Int.le_refl 1) (show 1 ≤ 1000 by decide) (fun y hy => by rw [List.mem_singleton.mp hy]; exact ⟨h0, h1⟩) fun H2 h2 => ?_
    walk_at "go"
    refine r_minKey ?_
    walk_at "go"
    have h02 : Same H H2 := (same_new nt).trans h2
    refine spChoices_i (h02 _ _ G.at_) (by have := G.r2; omega) (h02 _ _ hz) fun q H3 nq h3 hq => ?_
    refine ⟨q, _, rfl, SqL.of hq, chs_pos _ _ _ _, hT.ext (h02.trans h3), fun m H' m1 m2 eN T2 => ?_⟩
    exact k m H' (ExtN.trans (ExtN.of (h02.trans h3)) eN) T2 ⟨m1, m2⟩
end
end Rd

namespace Rd
open PySem L2
/-- all (the sizes together, the steps) to goals, one behind the other -/
def rowsOf (r p : Int) : Int × Int → List Int → List (Int × List Int)
  | _, [] => [(0, [])]
  | x, g :: gs => (chs r p x g).flatMap fun k => (rowsOf r p (nx p x k) gs).map fun q => (q.1 + k.natAbs, k :: q.2)
/-- the best of some rows: the least sizes, of these the last steps -/
def BestR (L : List (Int × List Int)) (q : Int × List Int) : Prop := q ∈ L ∧ ∀ z ∈ L, q.1 ≤ z.1 ∧ (z.1 = q.1 → ltL q.2 z.2 = false)
theorem BestR.one {L : List (Int × List Int)} {q z : Int × List Int} (a : BestR L q) (b : BestR L z) : q = z := by
  have h1 := a.2 z b.1
  have h2 := b.2 q a.1
  have e : q.1 = z.1 := by omega
  exact Prod.ext e (ltL_tri _ _ (h1.2 e.symm) (h2.2 e))
/-- a best one behind each of the ways -/
def Behind (r p : Int) (x : Int × Int) (gs : List Int) (ks : List Int) (rws : List (Int × List Int)) : Prop := rws.length = ks.length ∧ ∀ (j : Nat) (k : Int) (q : Int × List Int), ks[j]? = some k → rws[j]? = some q → ∃ z, BestR (rowsOf r p (nx p x k) gs) z ∧ q = ((k.natAbs : Int) + z.1, k :: z.2)
theorem Behind.snoc {r p : Int} {x : Int × Int} {gs ks : List Int} {rws : List (Int × List Int)} {k : Int} {z : Int × List Int} (h : Behind r p x gs ks rws) (b : BestR (rowsOf r p (nx p x k) gs) z) : Behind r p x gs (ks ++ [k]) (rws ++ [((k.natAbs : Int) + z.1, k :: z.2)]) := by
  obtain ⟨h1, h2⟩ := h
  refine ⟨by simp [h1], fun j k' q e1 e2 => ?_⟩
  rcases at_snoc e1 with ⟨f1, g1⟩ | ⟨f1, rfl⟩
  · rcases at_snoc e2 with ⟨f2, g2⟩ | ⟨f2, rfl⟩
    · exact h2 j _ _ f1 f2
    · omega
  · rcases at_snoc e2 with ⟨f2, g2⟩ | ⟨f2, rfl⟩
    · omega
    · exact ⟨z, b, rfl⟩
theorem chs_le (r p : Int) (x : Int × Int) (goal : Int) : (chs r p x goal).length ≤ 2 := by
  unfold chs
  split
  · exact Nat.le_succ 1
  · exact Nat.le_refl 2
theorem best_of {r p : Int} {x : Int × Int} {g : Int} {gs : List Int} {rws : List (Int × List Int)} {q : Int × List Int} (h : Behind r p x gs (chs r p x g) rws) (hq : BestR rws q) : BestR (rowsOf r p x (g :: gs)) q := by
  obtain ⟨hl, hb⟩ := h
  obtain ⟨hm, ho⟩ := hq
  refine ⟨?_, fun z hz => ?_⟩
  · obtain ⟨j, hj⟩ := List.mem_iff_getElem?.mp hm
    have hlt : j < (chs r p x g).length := by
      rw [← hl]
      exact (List.getElem?_eq_some_iff.mp hj).1
    obtain ⟨z, hz, e⟩ := hb j _ q (List.getElem?_eq_getElem hlt) hj
    refine List.mem_flatMap.mpr ⟨_, List.getElem_mem hlt, List.mem_map.mpr ⟨z, hz.1, ?_⟩⟩
    rw [e]
    exact Prod.ext (Int.add_comm _ _) rfl
  · obtain ⟨k, hk, hz⟩ := List.mem_flatMap.mp hz
    obtain ⟨y, hy, e⟩ := List.mem_map.mp hz
    obtain ⟨j, hj⟩ := List.mem_iff_getElem?.mp hk
    have hlt : j < rws.length := by
      rw [hl]
      exact (List.getElem?_eq_some_iff.mp hj).1
    obtain ⟨w, hw, e2⟩ := hb j k _ hj (List.getElem?_eq_getElem hlt)
    have a := ho _ (List.getElem_mem hlt)
    rw [e2] at a
    have b := hw.2 y hy
    subst e
    dsimp only at a ⊢
    refine ⟨by omega, fun c => ?_⟩
    have e3 : y.1 = w.1 := by omega
    have a2 := a.2 (by omega)
    have b2 := b.2 e3
    refine ltL_le_trans (a := k :: y.2) (b := k :: w.2) ?_ a2
    rw [ltL, if_pos rfl]
    exact b2
section
variable {P : Program} {w : World} {K : PySem.W.Frag} {mg : Str → Option Value} {base : Heap}
theorem void_at {x : Str} {st : Stmt} {ps : List Str} (F : FunAt K mg x st) (bo : BindOk x st ps) : Has P w K mg base CX0 0 x (fun _ _ _ _ => False) := by
  obtain ⟨f, fd, F, hm⟩ := F.ex
  exact ⟨f, fd, ps, ⟨fun _ _ _ _ h => h.elim, fun _ _ _ _ _ _ _ _ _ _ _ _ _ h => h.elim⟩, hm, F.kp, F.binds bo⟩
def spBest (K : PySem.W.Frag) : Nat → Sp
  | 0 => fun _ _ _ _ => False
  | n + 1 => fun vs H Q _ => ∃ (g : Addr) (r p : Int) (z : Addr) (x : Int × Int) (l : Addr) (gs : List Int), vs = [.ref g, .ref z, .ref l] ∧ H g = some (.tup [.int r, .int p]) ∧ 0 < r ∧ H z = some (.tup [.int x.1, .int x.2]) ∧ H l = some (.lst (gs.map V.int)) ∧ gs.length ≤ n ∧ n ≤ 100 ∧
    ∀ (t a : Addr) (q : Int × List Int) (H' : Hp), H t = none → H a = none → Same H H' → H' t = some (.tup [.int q.1, .ref a]) → H' a = some (.lst (q.2.map V.int)) → q.2.length ≤ 100 → BestR (rowsOf r p x gs) q → Q (.ref t) H'
theorem spBest_i {n : Nat} {g z l : Addr} {r p : Int} {x : Int × Int} {gs : List Int} {H : Hp} {Q : VK} {E : XK} (hg : H g = some (.tup [.int r, .int p])) (h0 : 0 < r) (hz : H z = some (.tup [.int x.1, .int x.2])) (hl : H l = some (.lst (gs.map V.int))) (hn : gs.length ≤ n) (h1 : n ≤ 100)
    (k : ∀ (t a : Addr) (q : Int × List Int) (H' : Hp), H t = none → H a = none → Same H H' → H' t = some (.tup [.int q.1, .ref a]) → H' a = some (.lst (q.2.map V.int)) → q.2.length ≤ 100 → BestR (rowsOf r p x gs) q → Q (.ref t) H') :
    spBest K (n + 1) [.ref g, .ref z, .ref l] H Q E := ⟨g, r, p, z, x, l, gs, rfl, hg, h0, hz, hl, hn, h1, k⟩
theorem rows_len {r p : Int} : ∀ {gs : List Int} {x : Int × Int} {q : Int × List Int}, q ∈ rowsOf r p x gs → q.2.length = gs.length
  | [], _, q, h => by
    rw [List.mem_singleton.mp h]
  | g :: gs, x, q, h => by
    obtain ⟨k, _, h⟩ := List.mem_flatMap.mp h
    obtain ⟨z, hz, e⟩ := List.mem_map.mp h
    rw [← e]
    show z.2.length + 1 = gs.length + 1
    rw [rows_len hz]
theorem ok_best_path (B : Bl mg) (F : FunAt K mg "best_path" s_best_path) (H_choices : Has P w K mg base CX0 1 "choices" spChoices) (H_behind : Has P w K mg base CX0 1 "behind" spBehind) : ∀ n, Has P w K mg base CX0 (n + 1) "best_path" (spBest K n)
  | 0 => (void_at F bo_best_path).mono (by omega)
  | n + 1 => by
    have H_best_path : Has P w K mg base CX0 (n + 1) "best_path" (spBest K n) := ok_best_path B F H_choices H_behind n
    refine F.ok sc_best_path bo_best_path (fun vs H Q E h => ?_) (fun f cdv A outer s H vs Q E hr h => ?_)
    · obtain ⟨g, r, p, z, x, l, gs, rfl, _⟩ := h
      rfl
    · obtain ⟨g, r, p, z, x, l, gs, rfl, hg, h0, hz, hl, hn, h1, k⟩ := h
      refine ⟨_, (pss_cons (ps_if (pt_cmpR (kop_eq (K := K) rfl hr.units) (pv 2) (pe_lst pa_nil) (nomark _)) (pss_one (ps_ret (pe_tup (pa_cons pe_int (pa_cons (pe_lst pa_nil) pa_nil))))) pss_nil)
 (pss_cons (ps_set (i := 3) sc_best_path.nd rfl (by first | exact Or.inl rfl | exact Or.inr rfl) (pe_lst pa_nil))
 (pss_cons (ps_for PassesOwn.never rfl (kpi_list (K := K) rfl (pe_has H_choices hr (by omega) rfl pass0 (pa_cons (pv 0) (pa_cons (pv 1) (pa_cons (pe_ix (kix (K := K) rfl) (pv 2) pe_int (fun _ _ => rfl)) pa_nil))))) (pg_name (i := 4) sc_best_path.nd rfl (by first | exact Or.inl rfl | exact Or.inr rfl)) (pss_cons (ps_asg (pe_has H_best_path hr (by omega) rfl pass0 (pa_cons (pv 0) (pa_cons (pe_has H_behind hr (by omega) rfl pass0 (pa_cons (pv 0) (pa_cons (pv 1) (pa_cons (pv 4) pa_nil)))) (pa_cons (pe_slice (ksl (K := K) rfl) (pv 2) (po_some pe_int) po_none) pa_nil)))) (kpg_tup (K := K) rfl rfl (pgs_cons (pg_name (i := 5) sc_best_path.nd rfl (by first | exact Or.inl rfl | exact Or.inr rfl)) (pgs_cons (pg_name (i := 6) sc_best_path.nd rfl (by first | exact Or.inl rfl | exact Or.inr rfl)) pgs_nil))))
 (pss_one (ps_expr (kpe_bm (K := K) rfl PySem.F.plainAttrs_list PySem.F.slot_list_append PySem.F.type_list_append mt_append (pv 3) (pa_cons (pe_tup (pa_cons (pe_op (kop_add (K := K) rfl) (pe_callB call_absA rfl B.abs (by decide +kernel) (pa_cons (pv 4) pa_nil)) (pv 5)) (pa_cons (pe_op (kop_add (K := K) rfl) (pe_lst (pa_cons (pv 4) pa_nil)) (pv 6)) pa_nil))) pa_nil))))))
 (pss_cons (ps_set (i := 7) sc_best_path.nd rfl (by first | exact Or.inl rfl | exact Or.inr rfl) (pe_callB (kc_min (K := K) rfl rfl) rfl B.min (by decide +kernel) (pa_cons (pe_lc (own := [("size", 5), ("row", 8)]) (g := (gTup K 2 (gCons (gName 5) (gCons (gName 8) gNil)))) rfl sc_best_path.nd (kpi_list (K := K) rfl (pv 3)) (blkOk_by (N := ["gear", "standing", "goals", "found", "steps", "size", "rest", "least", "row"]) (sc := defScope s_best_path) (own := [("size", 5), ("row", 8)]) (by decide +kernel)) (fun _ _ _ _ _ => (kpg_tup (K := K) rfl rfl (pgs_cons (pg_name (i := 5) sc_best_path.nd rfl (by first | exact Or.inl rfl | exact Or.inr rfl)) (pgs_cons (pg_name (i := 8) sc_best_path.nd rfl (by first | exact Or.inl rfl | exact Or.inr rfl)) pgs_nil)))) (fun _ _ _ _ _ => pts_nil) (fun _ _ _ _ _ => (pv 5))) pa_nil)))
 (pss_one (ps_ret (pe_tup (pa_cons (pv 7) (pa_cons (pe_callB (kc_maxLL (K := K) rfl rfl hr.units) rfl B.max (by decide +kernel) (pa_cons (pe_lc (own := [("size", 5), ("row", 8)]) (g := (gTup K 2 (gCons (gName 5) (gCons (gName 8) gNil)))) rfl sc_best_path.nd (kpi_list (K := K) rfl (pv 3)) (blkOk_by (N := ["gear", "standing", "goals", "found", "steps", "size", "rest", "least", "row"]) (sc := defScope s_best_path) (own := [("size", 5), ("row", 8)]) (by decide +kernel)) (fun _ _ _ _ _ => (kpg_tup (K := K) rfl rfl (pgs_cons (pg_name (i := 5) sc_best_path.nd rfl (by first | exact Or.inl rfl | exact Or.inr rfl)) (pgs_cons (pg_name (i := 8) sc_best_path.nd rfl (by first | exact Or.inl rfl | exact Or.inr rfl)) pgs_nil)))) (fun _ _ _ _ _ => (pts_one (pt_cmpR (kop_eq (K := K) rfl hr.units) (pv 5) (pv 7) (nomark _)))) (fun _ _ _ _ _ => (pv 8))) pa_nil)) pa_nil))))))))), ?_⟩
      refine r_start (σ' := [some (.ref g), some (.ref z), some (.ref l), none, none, none, none, none, none]) rfl ?_
      walk_at "go"
      intro t0 n0
      refine r_eqNil (at_new n0 hl) upd_same ?_
      walk_at "go"
      have s0 : Same H (upd H t0 (.lst [])) := same_new n0
      generalize upd H t0 (.lst []) = H0 at s0
      cases gs with
      | nil =>
        refine iteDT rfl ?_
        walk_at "go"
        intro a na
        walk_at "go"
        intro t nt
        walk_at "go"
        exact k t a (0, []) _ (s0.free (na.symm ▸ (Same.free (same_new na) nt))) (s0.free na) ((s0.trans (same_new na)).trans (same_new nt)) upd_same (at_new nt upd_same) (by decide) ⟨List.mem_singleton.mpr rfl, fun z hz => by
          rw [List.mem_singleton.mp hz]
          exact ⟨Int.le_refl _, fun _ => ltL_irrefl _⟩⟩
      | cons gl gs =>
        refine iteDF (fun e => nomatch e) ?_
        walk_at "go"
        obtain ⟨m, rfl⟩ : ∃ m, n = m + 1 := ⟨n - 1, by rw [List.length_cons] at hn; omega⟩
        have hn' : gs.length ≤ m := by rw [List.length_cons] at hn; omega
        intro fd nfd
        walk_at "go"
        have s1 : Same H (upd H0 fd (.lst [])) := s0.trans (same_new nfd)
        have hfd : upd H0 fd (.lst []) fd = some (.lst []) := upd_same
        have nfH : H fd = none := s0.free nfd
        generalize upd H0 fd (.lst []) = H1 at s1 hfd ⊢
        refine r_ix (v := .int gl) (.inl (SqL.of (s1 _ _ hl))) (at_of (j := 0) rfl rfl) ?_
        walk_at "go"
        refine spChoices_i (s1 _ _ hg) h0 (s1 _ _ hz) fun cl H2 ncl h2 hcl => ?_
        have s2 : Same H H2 := s1.trans h2
        have hfd2 := h2 _ _ hfd
        have ncl' : cl ≠ fd := fun e => by rw [e, hfd] at ncl; cases ncl
        walk_at "go"
        refine ⟨_, rfl, ⟨_, SqL.of hcl⟩, fw_list (K := K) (a := cl) (xs := (chs r p x gl).map V.int) (fun j σ H3 => ∃ (v4 v5 v6 : Option V) (ts as : List Addr) (rws : List (Int × List Int)), σ = [some (.ref g), some (.ref z), some (.ref l), some (.ref fd), v4, v5, v6, none, none] ∧
            Same H H3 ∧ H3 cl = some (.lst ((chs r p x gl).map V.int)) ∧ H3 fd = some (.lst (ts.map V.ref)) ∧ NRows H3 ts as rws ∧ Behind r p x gs ((chs r p x gl).take j) rws ∧ (∀ a ∈ as, H a = none ∧ a ≠ fd) ∧ ∀ t ∈ ts, t ≠ fd)
          ⟨_, _, _, [], [], [], rfl, s2, hcl, hfd2, NRows.nil, ⟨rfl, fun j k q h => by simp at h⟩, fun a h => (by simp at h), fun a h => by simp at h⟩ (fun j σ H3 _ h => ?_) ?_ ?_⟩
        · obtain ⟨_, _, _, _, _, _, _, _, e, _⟩ := h
          exact SqL.of e
        · rintro j y σ H3 hj ⟨v4, v5, v6, ts, as, rws, rfl, s3, hcl3, hfd3, hN, hB, hA, hT⟩
          obtain ⟨kk, hkk, rfl⟩ := map_at hj
          have hjl : j < (chs r p x gl).length := (List.getElem?_eq_some_iff.mp hkk).1
          have hc2 : (chs r p x gl).length ≤ 2 := chs_le r p x gl
          walk_at "go"
          refine spBehind_i (s3 _ _ hg) (s3 _ _ hz) fun bz H4 nbz h4 hbz => ?_
          walk_at "go"
          have s4 : Same H H4 := s3.trans h4
          refine r_slL (SqL.of (s4 _ _ hl)) fun c nc => ?_
          rw [cut_drop V.int (gl :: gs) (by decide)]
          walk_at "go"
          refine spBest_i (gs := gs) (at_new nc (s4 _ _ hg)) h0 (at_new nc hbz) upd_same hn' (by omega) fun t5 a5 q5 H5 nt5 na5 h5 ht5 ha5 hq5 bst => ?_
          have h45 : Same H4 H5 := (same_new nc).trans h5
          walk_at "go"
          have h35 : Same H3 H5 := h4.trans h45
          refine ⟨r_tyL (h35 _ _ hfd3), ?_⟩
          walk_at "go"
          intro d6 nd6
          walk_at "go"
          refine r_addL upd_same (at_new nd6 ha5) (by rw [List.length_map]; show 1 + _ ≤ sizeLine; exact Nat.le_of_lt (small1000 (by omega))) fun c7 nc7 => ?_
          walk_at "go"
          intro t8 nt8
          walk_at "go"
          have h38 : Same H3 (upd (upd (upd H5 d6 (.lst [.int kk])) c7 (.lst ([.int kk] ++ q5.2.map V.int))) t8 (.tup [.int (kk.natAbs + q5.1), .ref c7])) := h35.trans ((same_new nd6).trans ((same_new nc7).trans (same_new nt8)))
          have ht8 : upd (upd (upd H5 d6 (.lst [.int kk])) c7 (.lst ([.int kk] ++ q5.2.map V.int))) t8 (.tup [.int (kk.natAbs + q5.1), .ref c7]) t8 = some (.tup [.int (kk.natAbs + q5.1), .ref c7]) := upd_same
          have hc7 : upd (upd (upd H5 d6 (.lst [.int kk])) c7 (.lst ([.int kk] ++ q5.2.map V.int))) t8 (.tup [.int (kk.natAbs + q5.1), .ref c7]) c7 = some (.lst ((kk :: q5.2).map V.int)) := at_new nt8 upd_same
          have c7H : H c7 = none := (s3.trans (h35.trans (same_new nd6))).free nc7
          have c7fd : c7 ≠ fd := (ne_of_none (at_new (u := .lst [.int kk]) nd6 (h35 _ _ hfd3)) nc7).symm
          have t8fd : t8 ≠ fd := (ne_of_none (at_new (u := .lst ([.int kk] ++ q5.2.map V.int)) nc7 (at_new (u := .lst [.int kk]) nd6 (h35 _ _ hfd3))) nt8).symm
          generalize upd (upd (upd H5 d6 (.lst [.int kk])) c7 (.lst ([.int kk] ++ q5.2.map V.int))) t8 (.tup [.int (kk.natAbs + q5.1), .ref c7]) = H8 at h38 ht8 hc7 ⊢
          have hts : ts.length ≤ 2 := by
            have := hN.1
            have := hB.1
            rw [List.length_take] at this
            omega
          refine r_appA (h38 _ _ hfd3) (by rw [List.length_map]; exact small1000 (by omega)) fun H9 e9 w9 => ?_
          walk_at "go"
          refine ⟨_, _, _, ts ++ [t8], as ++ [c7], rws ++ [((kk.natAbs : Int) + q5.1, kk :: q5.2)], rfl, fun b o e => w9 _ _ (ne_of_none e nfH) (h38 _ _ (s3 _ _ e)), w9 _ _ ncl' (h38 _ _ hcl3), by rw [e9]; simp, ?_, ?_, fun a ha => ?_, fun t ht => ?_⟩
          · refine NRows.snoc ((hN.mono fun b o e _ => h38 _ _ e).mono fun b o e ⟨i, hi⟩ => w9 _ _ ?_ e) (w9 _ _ t8fd ht8) (w9 _ _ c7fd hc7)
            rcases hi with hi | hi
            · exact hT b (List.mem_of_getElem? hi)
            · exact (hA b (List.mem_of_getElem? hi)).2
          · rw [take_snoc hkk]
            exact hB.snoc bst
          · rcases List.mem_append.mp ha with ha | ha
            · exact hA a ha
            · rw [List.mem_singleton.mp ha]
              exact ⟨c7H, c7fd⟩
          · rcases List.mem_append.mp ht with ht | ht
            · exact hT t ht
            · rw [List.mem_singleton.mp ht]
              exact t8fd
        · rintro σ H3 ⟨v4, v5, v6, ts, as, rws, rfl, s3, hcl3, hfd3, hN, hB, hA, hT⟩
          rw [List.length_map, List.take_length] at hB
          have hrl : rws.length = (chs r p x gl).length := hB.1
          have hr0 : 0 < rws.length := by rw [hrl]; exact chs_pos _ _ _ _
          have hr2 : rws.length ≤ 2 := by rw [hrl]; exact chs_le _ _ _ _
          obtain ⟨lt1, lt2, hNat⟩ := id hN
          walk_at "go"
          refine ⟨_, rfl, ⟨_, SqL.of hfd3⟩, fun D nD => lcw_list (K := K) (a := fd) (xs := ts.map V.ref) (σw := [some (.ref g), some (.ref z), some (.ref l), some (.ref fd), v4, none, v6, none, none])
            (fun i H8 => Same H3 H8 ∧ H8 D = some (.lst (((rws.take i).map Prod.fst).map V.int))) rfl ⟨same_new nD, upd_same⟩ (fun i H8 _ h => SqL.of (h.1 _ _ hfd3)) (fun i y H8 hi h => ?_) fun H8 h => ?_⟩
          · obtain ⟨h8, hD⟩ := h
            obtain ⟨t, ht, rfl⟩ := map_at hi
            have hil : i < rws.length := by rw [← lt1]; exact (List.getElem?_eq_some_iff.mp ht).1
            obtain ⟨a, ha⟩ : ∃ a, as[i]? = some a := ⟨_, List.getElem?_eq_getElem (by omega)⟩
            obtain ⟨row, hrow⟩ : ∃ row, rws[i]? = some row := ⟨_, List.getElem?_eq_getElem hil⟩
            have htt := h8 _ _ (hNat i t a row ht ha hrow).1
            walk_at "go"
            refine ⟨rfl, ?_⟩
            walk_at "go"
            refine iteT ?_
            walk_at "go"
            refine ⟨_, hD, by rw [List.length_map, List.length_map, List.length_take]; exact small1000 (by omega), fun b o e => at_wr (ne_of_none e nD) (h8 _ _ e), ?_⟩
            rw [upd_same, take_snoc hrow]
            simp
          obtain ⟨h8, hD⟩ := h
          rw [List.length_map, lt1, List.take_length] at hD
          have hfd8 := h8 _ _ hfd3
          walk_at "go"
          refine r_minL (SqL.of hD) (by rw [List.length_map]; exact hr0) fun least lm ll => ?_
          walk_at "go"
          refine ⟨_, rfl, ⟨_, SqL.of hfd8⟩, fun D2 nD2 => lcw_list (K := K) (a := fd) (xs := ts.map V.ref) (σw := [some (.ref g), some (.ref z), some (.ref l), some (.ref fd), v4, none, v6, some (.int least), none])
            (fun i H9 => Same H8 H9 ∧ ∃ (fs : List Addr) (frs : List (List Int)), H9 D2 = some (.lst (fs.map V.ref)) ∧ fs.length ≤ i ∧ Rows H9 fs frs ∧ (∀ a ∈ fs, H a = none ∧ a ≠ D2) ∧ ∀ q, q ∈ frs ↔ ∃ j, j < i ∧ rws[j]? = some (least, q)) rfl
            ⟨same_new nD2, [], [], upd_same, Nat.le_refl _, ⟨rfl, fun i a row h => by simp at h⟩, fun a h => by simp at h, fun q => ⟨fun h => (by simp at h), fun ⟨j, hj, _⟩ => by omega⟩⟩ (fun i H9 _ h => SqL.of (h.1 _ _ hfd8)) (fun i y H9 hi h => ?_) fun H9 h => ?_⟩
          · obtain ⟨h9, fs, frs, hD2, hle, hR, hF, hiff⟩ := h
            obtain ⟨t, ht, rfl⟩ := map_at hi
            have hil : i < rws.length := by rw [← lt1]; exact (List.getElem?_eq_some_iff.mp ht).1
            obtain ⟨a, ha⟩ : ∃ a, as[i]? = some a := ⟨_, List.getElem?_eq_getElem (by omega)⟩
            obtain ⟨row, hrow⟩ : ∃ row, rws[i]? = some row := ⟨_, List.getElem?_eq_getElem hil⟩
            have htt := h9 _ _ (h8 _ _ (hNat i t a row ht ha hrow).1)
            have haa8 := h8 _ _ (hNat i t a row ht ha hrow).2
            have haa := h9 _ _ haa8
            have aD2 : a ≠ D2 := ne_of_none haa8 nD2
            walk_at "go"
            refine ⟨rfl, ?_⟩
            walk_at "go"
            refine iteD (fun c => ?_) (fun c => ?_)
            · walk_at "go"
              refine ⟨_, hD2, by rw [List.length_map]; exact small1000 (by omega), fun b o e => at_wr (ne_of_none e nD2) (h9 _ _ e), fs ++ [a], frs ++ [row.2], by rw [upd_same]; simp, by rw [List.length_append, List.length_singleton]; omega, ?_, fun b hb => ?_, fun q => ?_⟩
              · refine ⟨by simp [hR.1], fun i' a' row' e1 e2 => ?_⟩
                rcases at_snoc e1 with ⟨f1, g1⟩ | ⟨f1, rfl⟩
                · rcases at_snoc e2 with ⟨f2, g2⟩ | ⟨f2, rfl⟩
                  · exact at_wr (hF a' (List.mem_of_getElem? f1)).2 (hR.2 i' a' row' f1 f2)
                  · have := hR.1
                    omega
                · rcases at_snoc e2 with ⟨f2, g2⟩ | ⟨f2, rfl⟩
                  · have := hR.1
                    omega
                  · exact at_wr aD2 haa
              · rcases List.mem_append.mp hb with hb | hb
                · exact hF b hb
                · rw [List.mem_singleton.mp hb]
                  exact ⟨(hA a (List.mem_of_getElem? ha)).1, aD2⟩
              · rw [List.mem_append, hiff, List.mem_singleton]
                constructor
                · rintro (⟨j, hj, e⟩ | rfl)
                  · exact ⟨j, by omega, e⟩
                  · exact ⟨i, by omega, by rw [hrow, ← c]⟩
                · rintro ⟨j, hj, e⟩
                  by_cases z : j = i
                  · subst z
                    rw [hrow] at e
                    exact .inr (congrArg Prod.snd (Option.some.inj e)).symm
                  · exact .inl ⟨j, by omega, e⟩
            · refine ⟨h9, fs, frs, hD2, by omega, hR, hF, fun q => ?_⟩
              rw [hiff]
              constructor
              · rintro ⟨j, hj, e⟩
                exact ⟨j, by omega, e⟩
              · rintro ⟨j, hj, e⟩
                by_cases z : j = i
                · subst z
                  rw [hrow] at e
                  exact absurd (congrArg Prod.fst (Option.some.inj e)) c
                · exact ⟨j, by omega, e⟩
          · obtain ⟨h9, fs, frs, hD2, hle, hR, hF, hiff⟩ := h
            rw [List.length_map, lt1] at hiff
            walk_at "go"
            have hp : 0 < frs.length := by
              obtain ⟨z, hz, e⟩ := List.mem_map.mp lm
              obtain ⟨j, hj⟩ := List.mem_iff_getElem?.mp hz
              have : z.2 ∈ frs := (hiff z.2).mpr ⟨j, (List.getElem?_eq_some_iff.mp hj).1, by rw [hj, ← e]⟩
              exact List.length_pos_of_mem this
            refine ⟨D2, fs, frs, rfl, SqL.of hD2, hR, hp, fun i a row ha hrow best => ?_⟩
            walk_at "go"
            intro t nt
            walk_at "go"
            have hs : Same H H9 := s3.trans (h8.trans h9)
            obtain ⟨j, hj, hrj⟩ := (hiff row).mp (List.mem_of_getElem? hrow)
            have bb : BestR rws (least, row) := ⟨List.mem_of_getElem? hrj, fun z hz => ⟨ll _ (List.mem_map.mpr ⟨z, hz, rfl⟩), fun e => by
              obtain ⟨j', hj'⟩ := List.mem_iff_getElem?.mp hz
              exact best z.2 ((hiff z.2).mpr ⟨j', (List.getElem?_eq_some_iff.mp hj').1, by rw [hj']; exact congrArg some (Prod.ext e rfl)⟩)⟩⟩
            have bo := best_of hB bb
            have hlen := rows_len bo.1
            exact k t a (least, row) _ (hs.free nt) (hF a (List.mem_of_getElem? ha)).1 (hs.trans (same_new nt)) upd_same (at_new nt (hR.2 i a row ha hrow)) (by rw [hlen]; omega) bo
def spPath (K : PySem.W.Frag) : Sp := fun vs H Q _ => ∃ (g : Addr) (r p : Int) (z : Addr) (x : Int × Int) (l : Addr) (gs : List Int), vs = [.ref g, .ref z, .ref l] ∧ GearAt H g r p ∧ H z = some (.tup [.int x.1, .int x.2]) ∧ Stg p x ∧ SqL K H l (gs.map V.int) ∧ gs.length ≤ 8 ∧ (∀ y ∈ gs, 0 ≤ y ∧ y < r) ∧
  ∀ (a : Addr) (q : Int × List Int) (H' : Hp), H a = none → Same H H' → H' a = some (.lst (q.2.map V.int)) → q.2.length ≤ 100 → BestR (rowsOf r p x gs) q → Q (.ref a) H'
theorem spPath_i {g z l : Addr} {r p : Int} {x : Int × Int} {gs : List Int} {H : Hp} {Q : VK} {E : XK} (G : GearAt H g r p) (hz : H z = some (.tup [.int x.1, .int x.2])) (hs : Stg p x) (hl : SqL K H l (gs.map V.int)) (hn : gs.length ≤ 8) (hg : ∀ y ∈ gs, 0 ≤ y ∧ y < r)
    (k : ∀ (a : Addr) (q : Int × List Int) (H' : Hp), H a = none → Same H H' → H' a = some (.lst (q.2.map V.int)) → q.2.length ≤ 100 → BestR (rowsOf r p x gs) q → Q (.ref a) H') : spPath K [.ref g, .ref z, .ref l] H Q E := ⟨g, r, p, z, x, l, gs, rfl, G, hz, hs, hl, hn, hg, k⟩
theorem ok_path (B : Bl mg) (F : FunAt K mg "path" s_path) (M_MOST_GOALS : Cn mg "MOST_GOALS" 8) (H_need_goals : Has P w K mg base CX0 3 "need_goals" (spGoals K)) (H_best_path : Has P w K mg base CX0 10 "best_path" (spBest K 9)) : Has P w K mg base CX0 11 "path" (spPath K) := by
  refine F.ok sc_path bo_path (fun vs H Q E h => ?_) (fun f cdv A outer s H vs Q E hr h => ?_)
  · obtain ⟨g, r, p, z, x, l, gs, rfl, _⟩ := h
    rfl
  · obtain ⟨g, r, p, z, x, l, gs, rfl, G, hz, hs, hl, hn, hg, k⟩ := h
    refine ⟨_, (pss_cons (ps_expr (pe_has H_need_goals hr (by omega) rfl pass0 (pa_cons (pv 0) (pa_cons (pv 1) (pa_cons (pv 2) (pa_cons (pe_cn M_MOST_GOALS rfl) pa_nil))))))
 (pss_one (ps_ret (pe_ix (kix (K := K) rfl) (pe_has H_best_path hr (by omega) rfl pass0 (pa_cons (pv 0) (pa_cons (pv 1) (pa_cons (pe_callTy (kc_list (K := K) rfl) rfl B.list (by decide +kernel) (pa_cons (pv 2) pa_nil)) pa_nil)))) pe_int (fun _ _ => rfl))))), ?_⟩
    refine r_start (σ' := [some (.ref g), some (.ref z), some (.ref l)]) rfl ?_
    walk_at "go"
    refine spGoals_i G hz hs hl (by omega) (by omega) hg fun H2 h2 => ?_
    walk_at "go"
    refine r_listOf (.inl (h2.seq hl)) fun c nc => ?_
    walk_at "go"
    have h3 : Same H (upd H2 c (.lst (gs.map V.int))) := h2.trans (same_new nc)
    refine spBest_i (h3 _ _ G.at_) (by have := G.r2; omega) (h3 _ _ hz) upd_same hn (by decide) fun t a q H4 nt na h4 ht ha hq bst => ?_
    walk_at "go"
    exact k a q H4 (h3.free na) (h3.trans h4) ha hq bst
/-- all orders of some places; n: at least their number -/
def perms : Nat → List Int → List (List Int)
  | 0, _ => [[]]
  | n + 1, ps => if ps = [] then [[]] else (List.range ps.length).flatMap fun k => (perms n (ps.take k ++ ps.drop (k + 1))).map (ps.getD k 0 :: ·)
def fac : Nat → Nat
  | 0 => 1
  | n + 1 => (n + 1) * fac n
theorem fac_pos : ∀ n, 0 < fac n
  | 0 => Nat.zero_lt_one
  | n + 1 => Nat.mul_pos (Nat.succ_pos n) (fac_pos n)
theorem perms_len : ∀ (n : Nat) (ps : List Int), ps.length ≤ n → (perms n ps).length ≤ fac n
  | 0, _, _ => Nat.le_refl 1
  | n + 1, ps, h => by
    rw [perms]
    split
    · exact fac_pos (n + 1)
    · have part : ∀ m, m ≤ ps.length → ((List.range m).flatMap fun k => (perms n (ps.take k ++ ps.drop (k + 1))).map (ps.getD k 0 :: ·)).length ≤ m * fac n := by
        intro m
        induction m with
        | zero => intro _; exact Nat.zero_le _
        | succ m ih =>
          intro hm
          rw [List.range_succ, List.flatMap_append, List.length_append]
          have a := ih (by omega)
          have b : ((List.flatMap (fun k => (perms n (ps.take k ++ ps.drop (k + 1))).map (ps.getD k 0 :: ·)) [m])).length ≤ fac n := by
            rw [List.flatMap_cons, List.flatMap_nil, List.append_nil, List.length_map]
            exact perms_len n _ (by rw [List.length_append, List.length_take, List.length_drop]; omega)
          rw [Nat.succ_mul]
          omega
      exact Nat.le_trans (part _ (Nat.le_refl _)) (Nat.mul_le_mul_right _ h)
theorem perms_row : ∀ (n : Nat) (ps row : List Int), row ∈ perms n ps → row.length ≤ n
  | 0, _, row, h => by
    rw [List.mem_singleton.mp h]
    exact Nat.le_refl 0
  | n + 1, ps, row, h => by
    rw [perms] at h
    split at h
    · rw [List.mem_singleton.mp h]
      exact Nat.zero_le _
    · obtain ⟨k, _, h⟩ := List.mem_flatMap.mp h
      obtain ⟨z, hz, e⟩ := List.mem_map.mp h
      rw [← e]
      exact Nat.succ_le_succ (perms_row n _ z hz)
theorem Rows.mono {H H' : Hp} {as : List Addr} {rows : List (List Int)} (h : Rows H as rows) (R : ∀ b o, H b = some o → b ∈ as → H' b = some o) : Rows H' as rows :=
  ⟨h.1, fun i a row h1 h2 => R _ _ (h.2 i a row h1 h2) (List.mem_of_getElem? h1)⟩
theorem Rows.nil {H : Hp} : Rows H [] [] := ⟨rfl, fun i a row h => by simp at h⟩
theorem Rows.snoc {H : Hp} {as : List Addr} {rows : List (List Int)} {a : Addr} {row : List Int} (h : Rows H as rows) (h2 : H a = some (.lst (row.map V.int))) : Rows H (as ++ [a]) (rows ++ [row]) := by
  refine ⟨by simp [h.1], fun i a' row' e1 e2 => ?_⟩
  rcases at_snoc e1 with ⟨f1, g1⟩ | ⟨f1, rfl⟩
  · rcases at_snoc e2 with ⟨f2, g2⟩ | ⟨f2, rfl⟩
    · exact h.2 i a' row' f1 f2
    · have := h.1
      omega
  · rcases at_snoc e2 with ⟨f2, g2⟩ | ⟨f2, rfl⟩
    · have := h.1
      omega
    · exact h2
theorem Rows.app {H : Hp} {as : List Addr} {rows : List (List Int)} (h : Rows H as rows) : ∀ {bs : List Addr} {rows2 : List (List Int)}, Rows H bs rows2 → Rows H (as ++ bs) (rows ++ rows2) := fun {bs rows2} h2 => by
  refine ⟨by rw [List.length_append, List.length_append, h.1, h2.1], fun i a row e1 e2 => ?_⟩
  rw [List.getElem?_append] at e1 e2
  rw [h.1] at e1
  by_cases c : i < rows.length
  · rw [if_pos c] at e1 e2
    exact h.2 i a row e1 e2
  · rw [if_neg c] at e1 e2
    exact h2.2 _ a row e1 e2
/-- lists at addresses that weren't there -/
def spAO (K : PySem.W.Frag) : Nat → Sp
  | 0 => fun _ _ _ _ => False
  | n + 1 => fun vs H Q _ => ∃ (l : Addr) (ps : List Int), vs = [.ref l] ∧ H l = some (.lst (ps.map V.int)) ∧ ps.length ≤ n ∧ n ≤ 5 ∧
    ∀ (q : Addr) (as : List Addr) (H' : Hp), H q = none → Same H H' → H' q = some (.lst (as.map V.ref)) → Rows H' as (perms n ps) → (∀ a ∈ as, H a = none ∧ a ≠ q) → Q (.ref q) H'
theorem spAO_i {n : Nat} {l : Addr} {ps : List Int} {H : Hp} {Q : VK} {E : XK} (hl : H l = some (.lst (ps.map V.int))) (hn : ps.length ≤ n) (h5 : n ≤ 5)
    (k : ∀ (q : Addr) (as : List Addr) (H' : Hp), H q = none → Same H H' → H' q = some (.lst (as.map V.ref)) → Rows H' as (perms n ps) → (∀ a ∈ as, H a = none ∧ a ≠ q) → Q (.ref q) H') : spAO K (n + 1) [.ref l] H Q E := ⟨l, ps, rfl, hl, hn, h5, k⟩
theorem fac_5 {n : Nat} (h : n ≤ 5) : fac n ≤ 120 := by
  match n, h with
  | 0, _ => decide
  | 1, _ => decide
  | 2, _ => decide
  | 3, _ => decide
  | 4, _ => decide
  | 5, _ => decide
theorem ok_all_orders (B : Bl mg) (F : FunAt K mg "all_orders" s_all_orders) : ∀ n, Has P w K mg base CX0 n "all_orders" (spAO K n)
  | 0 => void_at F bo_all_orders
  | n + 1 => by
    have H_all_orders : Has P w K mg base CX0 n "all_orders" (spAO K n) := ok_all_orders B F n
    refine F.ok sc_all_orders bo_all_orders (fun vs H Q E h => ?_) (fun f cdv A outer s H vs Q E hr h => ?_)
    · obtain ⟨l, ps, rfl, _⟩ := h
      rfl
    · obtain ⟨l, ps, rfl, hl, hn, h5, k⟩ := h
      refine ⟨_, (pss_cons (ps_if (pt_cmpR (kop_eq (K := K) rfl hr.units) (pv 0) (pe_lst pa_nil) (nomark _)) (pss_one (ps_ret (pe_lst (pa_cons (pe_lst pa_nil) pa_nil)))) pss_nil)
 (pss_cons (ps_set (i := 1) sc_all_orders.nd rfl (by first | exact Or.inl rfl | exact Or.inr rfl) (pe_lst pa_nil))
 (pss_cons (ps_for PassesOwn.never rfl (pi_range1 rfl B.range (pa_cons (pe_callB (kc_len (K := K) rfl) rfl B.len (by decide +kernel) (pa_cons (pv 0) pa_nil)) pa_nil)) (pg_name (i := 2) sc_all_orders.nd rfl (by first | exact Or.inl rfl | exact Or.inr rfl)) (pss_one (ps_expr (kpe_bm (K := K) rfl PySem.F.plainAttrs_list PySem.F.slot_list_extend PySem.F.type_list_extend mt_extend (pv 1) (pa_cons (pe_lc (own := [("rest", 3)]) (g := (gName 3)) rfl sc_all_orders.nd (kpi_list (K := K) rfl (pe_has H_all_orders hr (by omega) rfl pass0 (pa_cons (pe_op (kop_add (K := K) rfl) (pe_slice (ksl (K := K) rfl) (pv 0) po_none (po_some (pv 2))) (pe_slice (ksl (K := K) rfl) (pv 0) (po_some (pe_op (kop_add (K := K) rfl) (pv 2) pe_int)) po_none)) pa_nil))) (blkOk_by (N := ["places", "found", "k", "rest"]) (sc := defScope s_all_orders) (own := [("rest", 3)]) (by decide +kernel)) (fun _ _ _ _ _ => (pg_name (i := 3) sc_all_orders.nd rfl (by first | exact Or.inl rfl | exact Or.inr rfl))) (fun _ _ _ _ _ => pts_nil) (fun _ _ _ _ _ => (pe_op (kop_add (K := K) rfl) (pe_lst (pa_cons (pe_ix (kix (K := K) rfl) (pv 0) (pv 2) (fun _ _ => rfl)) pa_nil)) (pv 3)))) pa_nil)))))
 (pss_one (ps_ret (pv 1)))))), ?_⟩
      refine r_start (σ' := [some (.ref l), none, none, none]) rfl ?_
      walk_at "go"
      intro t0 n0
      walk_at "go"
      refine r_eqNil (at_new n0 hl) upd_same ?_
      walk_at "go"
      have s0 : Same H (upd H t0 (.lst [])) := same_new n0
      generalize upd H t0 (.lst []) = H0 at s0
      refine iteD (fun c => ?_) (fun c => ?_)
      · walk_at "go"
        intro a na
        walk_at "go"
        intro q nq
        refine k q [a] _ ((s0.trans (same_new na)).free nq) ((s0.trans (same_new na)).trans (same_new nq)) upd_same ?_ fun b hb => ?_
        · have e : perms n ps = [[]] := by
            rw [c]
            cases n with
            | zero => rfl
            | succ n => rw [perms, if_pos rfl]
          rw [e]
          exact Rows.snoc Rows.nil (at_new nq upd_same)
        · rw [List.mem_singleton.mp hb]
          exact ⟨s0.free na, ne_of_none upd_same nq⟩
      · walk_at "go"
        intro fd nfd
        walk_at "go"
        have hps : 0 < ps.length := List.length_pos_iff.mpr c
        obtain ⟨m, rfl⟩ : ∃ m, n = m + 1 := ⟨n - 1, by omega⟩
        have nfH : H fd = none := s0.free nfd
        rw [List.length_map]
        refine ⟨_, rfl, by omega, by omega, fw_range (fun j σ H3 => ∃ (v2 v3 : Option V) (as : List Addr), σ = [some (.ref l), some (.ref fd), v2, v3] ∧ Same H H3 ∧ H3 fd = some (.lst (as.map V.ref)) ∧
            Rows H3 as ((List.range j).flatMap fun k => (perms m (ps.take k ++ ps.drop (k + 1))).map (ps.getD k 0 :: ·)) ∧ ∀ a ∈ as, H a = none ∧ a ≠ fd)
          ⟨_, _, [], rfl, s0.trans (same_new nfd), upd_same, Rows.nil, fun a h => by simp at h⟩ ?_ ?_⟩
        · rintro j σ H3 hj ⟨v2, v3, as, rfl, s3, hfd3, hR, hA⟩
          have hjl : j < ps.length := hj
          have ej : (0 + (j : Int)).toNat = j := by omega
          have ej1 : (0 + (j : Int) + 1).toNat = j + 1 := by omega
          walk_at "go"
          refine ⟨r_tyL hfd3, ?_⟩
          walk_at "go"
          refine r_slL (SqL.of (s3 _ _ hl)) fun c1 nc1 => ?_
          rw [cut_take V.int ps (by omega), ej]
          walk_at "go"
          refine r_slL (SqL.of (at_new nc1 (s3 _ _ hl))) fun c2 nc2 => ?_
          rw [cut_drop V.int ps (by omega), ej1]
          walk_at "go"
          refine r_addL (at_new nc2 upd_same) upd_same (by rw [List.length_map, List.length_map, List.length_take, List.length_drop]; exact Nat.le_of_lt (small1000 (by omega))) fun c3 nc3 => ?_
          walk_at "go"
          have hc3 : upd (upd (upd H3 c1 (.lst ((ps.take j).map V.int))) c2 (.lst ((ps.drop (j + 1)).map V.int))) c3 (.lst ((ps.take j).map V.int ++ (ps.drop (j + 1)).map V.int)) c3 = some (.lst ((ps.take j ++ ps.drop (j + 1)).map V.int)) := by rw [upd_same, List.map_append]
          have s34 : Same H3 (upd (upd (upd H3 c1 (.lst ((ps.take j).map V.int))) c2 (.lst ((ps.drop (j + 1)).map V.int))) c3 (.lst ((ps.take j).map V.int ++ (ps.drop (j + 1)).map V.int))) := (same_new nc1).trans ((same_new nc2).trans (same_new nc3))
          generalize upd (upd (upd H3 c1 (.lst ((ps.take j).map V.int))) c2 (.lst ((ps.drop (j + 1)).map V.int))) c3 (.lst ((ps.take j).map V.int ++ (ps.drop (j + 1)).map V.int)) = H4 at hc3 s34
          refine spAO_i hc3 (by rw [List.length_append, List.length_take, List.length_drop]; omega) (by omega) fun q5 bs H5 nq5 h45 hq5 hR5 hF5 => ?_
          have s35 : Same H3 H5 := s34.trans h45
          walk_at "go"
          have hrl : bs.length = (perms m (ps.take j ++ ps.drop (j + 1))).length := hR5.1
          have hpl : (perms m (ps.take j ++ ps.drop (j + 1))).length ≤ 120 := Nat.le_trans (perms_len m _ (by rw [List.length_append, List.length_take, List.length_drop]; omega)) (fac_5 (by omega))
          generalize hX : perms m (ps.take j ++ ps.drop (j + 1)) = rws at hR5 hrl hpl
          have hrw : ∀ row ∈ rws, row.length ≤ m := fun row h => perms_row m _ row (by rw [hX]; exact h)
          refine ⟨q5, rfl, ⟨_, SqL.of hq5⟩, fun D nD => lcw_list (K := K) (a := q5) (xs := bs.map V.ref) (σw := [some (.ref l), some (.ref fd), some (.int (0 + j)), none])
            (fun i H8 => Same H5 H8 ∧ ∃ ds : List Addr, H8 D = some (.lst (ds.map V.ref)) ∧ Rows H8 ds ((rws.take i).map (ps.getD j 0 :: ·)) ∧ ∀ a ∈ ds, H5 a = none ∧ a ≠ D) rfl
            ⟨same_new nD, [], upd_same, Rows.nil, fun a h => by simp at h⟩ (fun i H8 _ h => SqL.of (h.1 _ _ hq5)) (fun i y H8 hi h => ?_) fun H8 h => ?_⟩
          · obtain ⟨h8, ds, hD, hR8, hF8⟩ := h
            obtain ⟨b, hb, rfl⟩ := map_at hi
            have hil : i < rws.length := by rw [← hrl]; exact (List.getElem?_eq_some_iff.mp hb).1
            obtain ⟨row, hrow⟩ : ∃ row, rws[i]? = some row := ⟨_, List.getElem?_eq_getElem hil⟩
            have hbb := h8 _ _ (hR5.2 i b row hb hrow)
            have hll := h8 _ _ (s35 _ _ (s3 _ _ hl))
            have hrlen := hrw row (List.mem_of_getElem? hrow)
            walk_at "go"
            refine ⟨rfl, ?_⟩
            walk_at "go"
            refine iteT ?_
            walk_at "go"
            refine r_ix (v := .int (ps.getD j 0)) (.inl (SqL.of hll)) (at_of (j := j) (by omega) (by rw [List.getElem?_map, List.getElem?_eq_getElem hjl, List.getD_eq_getElem?_getD, List.getElem?_eq_getElem hjl] <;> rfl)) ?_
            walk_at "go"
            intro d nd
            walk_at "go"
            refine r_addL upd_same (at_new nd hbb) (by rw [List.length_map]; show 1 + _ ≤ sizeLine; exact Nat.le_of_lt (small1000 (by omega))) fun c7 nc7 => ?_
            walk_at "go"
            have hds : ds.length ≤ 120 := by
              have := hR8.1
              rw [List.length_map, List.length_take] at this
              omega
            have h8c : Same H8 (upd (upd H8 d (.lst [.int (ps.getD j 0)])) c7 (.lst ([.int (ps.getD j 0)] ++ row.map V.int))) := (same_new nd).trans (same_new nc7)
            have hc7 : upd (upd H8 d (.lst [.int (ps.getD j 0)])) c7 (.lst ([.int (ps.getD j 0)] ++ row.map V.int)) c7 = some (.lst ((ps.getD j 0 :: row).map V.int)) := upd_same
            have c7D : c7 ≠ D := (ne_of_none (at_new (u := .lst [.int (ps.getD j 0)]) nd hD) nc7).symm
            refine ⟨_, h8c _ _ hD, by rw [List.length_map]; exact small1000 (by omega), fun b' o e => at_wr (ne_of_none e nD) (h8c _ _ (h8 _ _ e)), ds ++ [c7], by rw [upd_same]; simp, ?_, fun a ha => ?_⟩
            · rw [take_snoc hrow, List.map_append]
              exact Rows.snoc ((hR8.mono fun b' o e _ => h8c _ _ e).mono fun b' o e hb' => at_wr (hF8 b' hb').2 e) (at_wr c7D hc7)
            · rcases List.mem_append.mp ha with ha | ha
              · exact hF8 a ha
              · rw [List.mem_singleton.mp ha]
                exact ⟨(h8.trans (same_new nd)).free nc7, c7D⟩
          · obtain ⟨h8, ds, hD, hR8, hF8⟩ := h
            rw [List.length_map, hrl, List.take_length] at hR8
            walk_at "go"
            have hfd8 := h8 _ _ (s35 _ _ hfd3)
            have hds : ds.length ≤ 120 := by
              have := hR8.1
              rw [List.length_map] at this
              omega
            have has : as.length ≤ 600 := by
              have e := hR.1
              have part : ∀ q, q ≤ j → ((List.range q).flatMap fun k => (perms m (ps.take k ++ ps.drop (k + 1))).map (ps.getD k 0 :: ·)).length ≤ q * 120 := by
                intro q
                induction q with
                | zero => intro _; exact Nat.zero_le _
                | succ q ih =>
                  intro hq
                  rw [List.range_succ, List.flatMap_append, List.length_append]
                  have a := ih (by omega)
                  have b : ((List.flatMap (fun k => (perms m (ps.take k ++ ps.drop (k + 1))).map (ps.getD k 0 :: ·)) [q])).length ≤ 120 := by
                    rw [List.flatMap_cons, List.flatMap_nil, List.append_nil, List.length_map]
                    exact Nat.le_trans (perms_len m _ (by rw [List.length_append, List.length_take, List.length_drop]; omega)) (fac_5 (by omega))
                  rw [Nat.succ_mul]
                  omega
              have := part j (Nat.le_refl _)
              omega
            have Dfd : D ≠ fd := fun e => by
              rw [e] at nD
              rw [s35 _ _ hfd3] at nD
              cases nD
            refine r_extend hfd8 hD (by rw [List.length_map, List.length_map]; exact Nat.le_of_lt (small1000 (by omega))) fun H9 e9 w9 => ?_
            walk_at "go"
            have s38 : Same H3 H8 := s35.trans h8
            refine ⟨_, _, as ++ ds, rfl, fun b o e => w9 _ _ (ne_of_none e nfH) (s38 _ _ (s3 _ _ e)), by rw [e9]; simp, ?_, fun a ha => ?_⟩
            · rw [List.range_succ, List.flatMap_append, List.flatMap_cons, List.flatMap_nil, List.append_nil, hX]
              refine Rows.app ((hR.mono fun b o e _ => s38 _ _ e).mono fun b o e hb => w9 _ _ (hA b hb).2 e) (hR8.mono fun b o e hb => w9 _ _ ?_ e)
              exact fun z => by
                have := (hF8 b hb).1
                rw [z, s35 _ _ hfd3] at this
                cases this
            · rcases List.mem_append.mp ha with ha | ha
              · exact hA a ha
              · refine ⟨(s3.trans s35).free (hF8 a ha).1, fun z => ?_⟩
                have := (hF8 a ha).1
                rw [z, s35 _ _ hfd3] at this
                cases this
        · rintro σ H3 ⟨v2, v3, as, rfl, s3, hfd3, hR, hA⟩
          walk_at "go"
          refine k fd as H3 nfH s3 hfd3 ?_ hA
          rw [perms, if_neg c]
          exact hR
theorem perms_mem : ∀ (n : Nat) (ps row : List Int), row ∈ perms n ps → ∀ k ∈ row, k ∈ ps
  | 0, _, row, h, k, hk => by
    rw [List.mem_singleton.mp h] at hk
    cases hk
  | n + 1, ps, row, h, k, hk => by
    rw [perms] at h
    split at h
    · rw [List.mem_singleton.mp h] at hk
      cases hk
    · obtain ⟨i, hi, h⟩ := List.mem_flatMap.mp h
      obtain ⟨z, hz, e⟩ := List.mem_map.mp h
      rw [List.mem_range] at hi
      rw [← e] at hk
      rcases List.mem_cons.mp hk with e | hk
      · rw [e, List.getD_eq_getElem?_getD, List.getElem?_eq_getElem hi]
        exact List.getElem_mem hi
      · rcases List.mem_append.mp (perms_mem n _ z hz k hk) with m | m
        · exact List.mem_of_mem_take m
        · exact List.mem_of_mem_drop m
theorem perms_pos : ∀ (n : Nat) (ps : List Int), ps.length ≤ n → 0 < (perms n ps).length
  | 0, _, _ => Nat.zero_lt_one
  | n + 1, ps, h => by
    rw [perms]
    split
    · exact Nat.zero_lt_one
    · rename_i c
      have hp : 0 < ps.length := List.length_pos_iff.mpr c
      have a := perms_pos n (ps.take 0 ++ ps.drop (0 + 1)) (by rw [List.length_append, List.length_take, List.length_drop]; omega)
      obtain ⟨z, hz⟩ := List.exists_mem_of_length_pos a
      exact List.length_pos_of_mem (List.mem_flatMap.mpr ⟨0, List.mem_range.mpr hp, List.mem_map.mpr ⟨z, hz, rfl⟩⟩)
/-- the places 0, 1, .. -/
def idx (n : Nat) : List Int := (List.range n).map fun i : Nat => (i : Int)
theorem idx_rg (n : Nat) : rgV 0 (n : Int) = (idx n).map V.int := by
  unfold rgV idx
  rw [List.map_map, show ((n : Int) - 0).toNat = n by omega]
  refine List.map_congr_left fun i _ => ?_
  show V.int (0 + (i : Int)) = V.int (i : Int)
  congr 1
  omega
theorem idx_len (n : Nat) : (idx n).length = n := by
  unfold idx
  rw [List.length_map, List.length_range]
def pick (gs o : List Int) : List Int := o.map fun k => gs.getD k.toNat 0
/-- what tour tells: the least sum and the first order that has it -/
def TourR (r p : Int) (x : Int × Int) (gs : List Int) (q : Int × List Int) : Prop := q.2 ∈ perms 5 (idx gs.length) ∧ (∃ row, BestR (rowsOf r p x (pick gs q.2)) (q.1, row)) ∧
  ∀ o ∈ perms 5 (idx gs.length), ∀ (s : Int) (row : List Int), BestR (rowsOf r p x (pick gs o)) (s, row) → ltL (s :: o) (q.1 :: q.2) = false
def spTour (K : PySem.W.Frag) : Sp := fun vs H Q _ => ∃ (g : Addr) (r p : Int) (z : Addr) (x : Int × Int) (l : Addr) (gs : List Int), vs = [.ref g, .ref z, .ref l] ∧ GearAt H g r p ∧ H z = some (.tup [.int x.1, .int x.2]) ∧ Stg p x ∧ SqL K H l (gs.map V.int) ∧ gs.length ≤ 5 ∧ (∀ y ∈ gs, 0 ≤ y ∧ y < r) ∧
  ∀ (t a : Addr) (q : Int × List Int) (H' : Hp), H t = none → H a = none → Same H H' → H' t = some (.tup [.int q.1, .ref a]) → H' a = some (.lst (q.2.map V.int)) → q.2.length ≤ 100 → TourR r p x gs q → Q (.ref t) H'
theorem spTour_i {g z l : Addr} {r p : Int} {x : Int × Int} {gs : List Int} {H : Hp} {Q : VK} {E : XK} (G : GearAt H g r p) (hz : H z = some (.tup [.int x.1, .int x.2])) (hs : Stg p x) (hl : SqL K H l (gs.map V.int)) (hn : gs.length ≤ 5) (hg : ∀ y ∈ gs, 0 ≤ y ∧ y < r)
    (k : ∀ (t a : Addr) (q : Int × List Int) (H' : Hp), H t = none → H a = none → Same H H' → H' t = some (.tup [.int q.1, .ref a]) → H' a = some (.lst (q.2.map V.int)) → q.2.length ≤ 100 → TourR r p x gs q → Q (.ref t) H') : spTour K [.ref g, .ref z, .ref l] H Q E := ⟨g, r, p, z, x, l, gs, rfl, G, hz, hs, hl, hn, hg, k⟩
theorem r_lstRg1 {ta : TE} {σ : L2.St} {H : Hp} {Q : VK} (k : ta σ H fun x H1 => ∃ i, x = .int i ∧ RgOk 0 i ∧ ∀ q, H1 q = none → Q (.ref q) (upd H1 q (.lst (rgV 0 i)))) : tLstRg (tRg1 ta) σ H Q := k
theorem ok_tour (B : Bl mg) (F : FunAt K mg "tour" s_tour) (M_MOST_TOUR : Cn mg "MOST_TOUR" 5) (H_need_goals : Has P w K mg base CX0 3 "need_goals" (spGoals K)) (H_best_path : Has P w K mg base CX0 10 "best_path" (spBest K 9)) (H_all_orders : Has P w K mg base CX0 6 "all_orders" (spAO K 6)) : Has P w K mg base CX0 11 "tour" (spTour K) := by
  refine F.ok sc_tour bo_tour (fun vs H Q E h => ?_) (fun f cdv A outer s H vs Q E hr h => ?_)
  · obtain ⟨g, r, p, z, x, l, gs, rfl, _⟩ := h
    rfl
  · obtain ⟨g, r, p, z, x, l, gs, rfl, G, hz, hs, hl, hn, hg, k⟩ := h
    refine ⟨_, (pss_cons (ps_expr (pe_has H_need_goals hr (by omega) rfl pass0 (pa_cons (pv 0) (pa_cons (pv 1) (pa_cons (pv 2) (pa_cons (pe_cn M_MOST_TOUR rfl) pa_nil))))))
 (pss_cons (ps_set (i := 3) sc_tour.nd rfl (by first | exact Or.inl rfl | exact Or.inr rfl) (pe_lst pa_nil))
 (pss_cons (ps_for PassesOwn.never rfl (kpi_list (K := K) rfl (pe_has H_all_orders hr (by omega) rfl pass0 (pa_cons (pe_listRg rfl rfl B.list (prg_1 rfl B.range (pe_callB (kc_len (K := K) rfl) rfl B.len (by decide +kernel) (pa_cons (pv 2) pa_nil)))) pa_nil))) (pg_name (i := 4) sc_tour.nd rfl (by first | exact Or.inl rfl | exact Or.inr rfl)) (pss_one (ps_expr (kpe_bm (K := K) rfl PySem.F.plainAttrs_list PySem.F.slot_list_append PySem.F.type_list_append mt_append (pv 3) (pa_cons (pe_tup (pa_cons (pe_ix (kix (K := K) rfl) (pe_has H_best_path hr (by omega) rfl pass0 (pa_cons (pv 0) (pa_cons (pv 1) (pa_cons (pe_lc (own := [("k", 5)]) (g := (gName 5)) rfl sc_tour.nd (kpi_list (K := K) rfl (pv 4)) (blkOk_by (N := ["gear", "standing", "goals", "found", "order", "k"]) (sc := defScope s_tour) (own := [("k", 5)]) (by decide +kernel)) (fun _ _ _ _ _ => (pg_name (i := 5) sc_tour.nd rfl (by first | exact Or.inl rfl | exact Or.inr rfl))) (fun _ _ _ _ _ => pts_nil) (fun _ _ _ _ _ => (pe_ix (kix (K := K) rfl) (pv 2) (pv 5) (fun _ _ => rfl)))) pa_nil)))) pe_int (fun _ _ => rfl)) (pa_cons (pv 4) pa_nil))) pa_nil)))))
 (pss_one (ps_ret (pe_callB (kc_minTL (K := K) rfl rfl hr.units) rfl B.min (by decide +kernel) (pa_cons (pv 3) pa_nil))))))), ?_⟩
    refine r_start (σ' := [some (.ref g), some (.ref z), some (.ref l), none, none, none]) rfl ?_
    walk_at "go"
    refine spGoals_i G hz hs hl (by omega) (by omega) hg fun H2 h2 => ?_
    walk_at "go"
    intro fd nfd
    walk_at "go"
    have s3 : Same H (upd H2 fd (.lst [])) := h2.trans (same_new nfd)
    have hfd : upd H2 fd (.lst []) fd = some (.lst []) := upd_same
    have nfH : H fd = none := h2.free nfd
    generalize upd H2 fd (.lst []) = H3 at s3 hfd ⊢
    refine r_lstRg1 ?_
    have hl3 := s3.seq hl
    walk_at "go"
    rw [List.length_map]
    refine ⟨⟨by omega, by omega, by omega, by omega, by omega⟩, fun q4 nq4 => ?_⟩
    rw [idx_rg]
    walk_at "go"
    refine spAO_i upd_same (by rw [idx_len]; exact hn) (by decide) fun q5 as H5 nq5 h5 hq5 hR5 hF5 => ?_
    have h35 : Same H3 H5 := (same_new nq4).trans h5
    have s5 : Same H H5 := s3.trans h35
    have hfd5 := h35 _ _ hfd
    have q5fd : q5 ≠ fd := fun e => by
      rw [e, at_new (u := .lst ((idx gs.length).map V.int)) nq4 hfd] at nq5
      cases nq5
    have hAfd : ∀ a ∈ as, H a = none ∧ a ≠ fd := fun a ha => by
      refine ⟨(s3.trans (same_new nq4)).free (hF5 a ha).1, fun e => ?_⟩
      have := (hF5 a ha).1
      rw [e, at_new (u := .lst ((idx gs.length).map V.int)) nq4 hfd] at this
      cases this
    have hpos := perms_pos 5 (idx gs.length) (by rw [idx_len]; exact hn)
    have hle : (perms 5 (idx gs.length)).length ≤ 120 := perms_len 5 _ (by rw [idx_len]; exact hn)
    have hro : ∀ o ∈ perms 5 (idx gs.length), o.length ≤ 5 ∧ ∀ k ∈ o, ∃ n : Nat, k = n ∧ n < gs.length := fun o ho => ⟨perms_row 5 _ o ho, fun k hk => by
      obtain ⟨n, hn, e⟩ := List.mem_map.mp (perms_mem 5 _ o ho k hk)
      exact ⟨n, e.symm, List.mem_range.mp hn⟩⟩
    have hlen5 : as.length = (perms 5 (idx gs.length)).length := hR5.1
    walk_at "go"
    refine ⟨q5, rfl, ⟨_, SqL.of hq5⟩, fw_list (K := K) (a := q5) (xs := as.map V.ref) (fun j σ H6 => ∃ (v4 v5 : Option V) (ts : List Addr) (rws : List (Int × List Int)), σ = [some (.ref g), some (.ref z), some (.ref l), some (.ref fd), v4, v5] ∧ Same H H6 ∧ H6 q5 = some (.lst (as.map V.ref)) ∧
        H6 fd = some (.lst (ts.map V.ref)) ∧ Rows H6 as (perms 5 (idx gs.length)) ∧ NRows H6 ts (as.take j) rws ∧ (∀ t ∈ ts, H t = none ∧ t ≠ fd) ∧ ∀ (i : Nat) (q : Int × List Int), rws[i]? = some q → (perms 5 (idx gs.length))[i]? = some q.2 ∧ ∃ row, BestR (rowsOf r p x (pick gs q.2)) (q.1, row))
      ⟨_, _, [], [], rfl, s5, hq5, hfd5, hR5, NRows.nil, fun t h => (by simp at h), fun i q h => by simp at h⟩ (fun j σ H6 _ h => ?_) ?_ ?_⟩
    · obtain ⟨_, _, _, _, _, _, e, _⟩ := h
      exact SqL.of e
    · rintro j y σ H6 hj ⟨v4, v5, ts, rws, rfl, s6, hq6, hfd6, hR6, hN, hT, hB⟩
      obtain ⟨a, ha, rfl⟩ := map_at hj
      have hjl : j < as.length := (List.getElem?_eq_some_iff.mp ha).1
      obtain ⟨o, ho⟩ : ∃ o, (perms 5 (idx gs.length))[j]? = some o := ⟨_, List.getElem?_eq_getElem (by omega)⟩
      have hom := List.mem_of_getElem? ho
      obtain ⟨ho5, hok⟩ := hro o hom
      have hao := hR6.2 j a o ha ho
      walk_at "go"
      refine ⟨r_tyL hfd6, ?_⟩
      walk_at "go"
      refine ⟨a, rfl, ⟨_, SqL.of hao⟩, fun D nD => lcw_list (K := K) (a := a) (xs := o.map V.int) (σw := [some (.ref g), some (.ref z), some (.ref l), some (.ref fd), some (.ref a), none])
        (fun i H8 => Same H6 H8 ∧ H8 D = some (.lst (((o.take i).map fun k => gs.getD k.toNat 0).map V.int))) rfl ⟨same_new nD, upd_same⟩ (fun i H8 _ h => SqL.of (h.1 _ _ hao)) (fun i y H8 hi h => ?_) fun H8 h => ?_⟩
      · obtain ⟨h8, hD⟩ := h
        obtain ⟨kk, hk, rfl⟩ := map_at hi
        obtain ⟨n, rfl, hnl⟩ := hok kk (List.mem_of_getElem? hk)
        have hl8 : SqL K H8 l (gs.map V.int) := (s6.trans h8).seq hl
        walk_at "go"
        refine ⟨rfl, ?_⟩
        walk_at "go"
        refine iteT ?_
        walk_at "go"
        refine r_ix (v := .int (gs.getD n 0)) (.inl hl8) (at_of (j := n) rfl (by rw [List.getElem?_map, List.getElem?_eq_getElem hnl, List.getD_eq_getElem?_getD, List.getElem?_eq_getElem hnl] <;> rfl)) ?_
        refine ⟨_, hD, by rw [List.length_map, List.length_map, List.length_take]; exact small1000 (by omega), fun b' o' e => at_wr (ne_of_none e nD) (h8 _ _ e), ?_⟩
        rw [upd_same, take_snoc hk]
        simp
      · obtain ⟨h8, hD⟩ := h
        rw [List.length_map, List.take_length] at hD
        have s8 : Same H H8 := s6.trans h8
        walk_at "go"
        refine spBest_i (gs := pick gs o) (s8 _ _ G.at_) (by have := G.r2; omega) (s8 _ _ hz) hD (by unfold pick; rw [List.length_map]; omega) (by decide) fun t9 a9 q9 H9 nt9 na9 h9 ht9 ha9 hq9 bst => ?_
        walk_at "go"
        have h69 : Same H6 H9 := h8.trans h9
        intro t nt
        walk_at "go"
        have h6t : Same H6 (upd H9 t (.tup [.int q9.1, .ref a])) := h69.trans (same_new nt)
        have ht : upd H9 t (.tup [.int q9.1, .ref a]) t = some (.tup [.int q9.1, .ref a]) := upd_same
        have tfd : t ≠ fd := (ne_of_none (h69 _ _ hfd6) nt).symm
        have tH : H t = none := (s6.trans h69).free nt
        generalize upd H9 t (.tup [.int q9.1, .ref a]) = H10 at h6t ht ⊢
        have hts : ts.length ≤ 120 := by
          have e1 := hN.1
          have e2 := hN.2.1
          rw [List.length_take] at e2
          omega
        refine r_appA (h6t _ _ hfd6) (by rw [List.length_map]; exact small1000 (by omega)) fun H11 e11 w11 => ?_
        walk_at "go"
        have amem := List.mem_of_getElem? ha
        have hrl : rws.length = j := by
          have e2 := hN.2.1
          rw [List.length_take] at e2
          omega
        refine ⟨_, _, ts ++ [t], rws ++ [(q9.1, o)], rfl, fun b o' e => w11 _ _ (ne_of_none e nfH) (h6t _ _ (s6 _ _ e)), w11 _ _ q5fd (h6t _ _ hq6), by rw [e11]; simp, ?_, ?_, fun b hb => ?_, fun i q e => ?_⟩
        · exact (hR6.mono fun b o' e _ => h6t _ _ e).mono fun b o' e hb => w11 _ _ (hAfd b hb).2 e
        · rw [take_snoc ha]
          refine NRows.snoc ((hN.mono fun b o' e _ => h6t _ _ e).mono fun b o' e ⟨i, hi⟩ => w11 _ _ ?_ e) (w11 _ _ tfd ht) (w11 _ _ (hAfd a amem).2 (h6t _ _ hao))
          rcases hi with hi | hi
          · exact (hT b (List.mem_of_getElem? hi)).2
          · exact (hAfd b (List.mem_of_mem_take (List.mem_of_getElem? hi))).2
        · rcases List.mem_append.mp hb with hb | hb
          · exact hT b hb
          · rw [List.mem_singleton.mp hb]
            exact ⟨tH, tfd⟩
        · rcases at_snoc e with ⟨f1, _⟩ | ⟨f1, rfl⟩
          · exact hB i q f1
          · rw [f1, hrl]
            exact ⟨ho, q9.2, bst⟩
    · rintro σ H6 ⟨v4, v5, ts, rws, rfl, s6, hq6, hfd6, hR6, hN, hT, hB⟩
      rw [List.length_map, List.take_length] at hN
      have hrl : rws.length = (perms 5 (idx gs.length)).length := by
        have := hN.2.1
        omega
      walk_at "go"
      refine ⟨fd, ts, as, rws, rfl, SqL.of hfd6, hN, by omega, fun i t row ht hrow best => ?_⟩
      obtain ⟨a, ha⟩ : ∃ a, as[i]? = some a := ⟨_, List.getElem?_eq_getElem (by
        have := (List.getElem?_eq_some_iff.mp hrow).1
        have := hN.2.1
        omega)⟩
      obtain ⟨e1, e2⟩ := hN.2.2 i t a row ht ha hrow
      obtain ⟨b1, b2⟩ := hB i row hrow
      have hm := List.mem_of_getElem? b1
      refine k t a row H6 (hT t (List.mem_of_getElem? ht)).1 (hAfd a (List.mem_of_getElem? ha)).1 s6 e1 e2 (by have := (hro _ hm).1; omega) ⟨hm, b2, fun o' ho' s' row' bb => ?_⟩
      obtain ⟨j, hj⟩ := List.mem_iff_getElem?.mp ho'
      have hjl : j < rws.length := by
        rw [hrl]
        exact (List.getElem?_eq_some_iff.mp hj).1
      obtain ⟨c1, row2, c2⟩ := hB j _ (List.getElem?_eq_getElem hjl)
      rw [hj] at c1
      have e3 := Option.some.inj c1
      rw [← e3] at c2
      have e4 := bb.one c2
      have e5 : s' = (rws[j]'hjl).1 := congrArg Prod.fst e4
      rw [e5, e3]
      exact best _ (List.getElem_mem hjl)
end
end Rd

namespace Rd
open PySem L2
theorem TourR.one {r p : Int} {x : Int × Int} {gs : List Int} {q z : Int × List Int} (a : TourR r p x gs q) (b : TourR r p x gs z) : q = z := by
  obtain ⟨a1, ⟨ra, a2⟩, a3⟩ := a
  obtain ⟨b1, ⟨rb, b2⟩, b3⟩ := b
  have h1 := a3 z.2 b1 z.1 rb b2
  have h2 := b3 q.2 a1 q.1 ra a2
  have e := ltL_tri _ _ h2 h1
  injection e with e1 e2
  exact Prod.ext e1 e2
theorem perms_sorted {n : Nat} (h : n ≤ 5) : (perms 5 (idx n)).Pairwise fun a b => ltL a b = true := by
  match n, h with
  | 0, _ => decide +kernel
  | 1, _ => decide +kernel
  | 2, _ => decide +kernel
  | 3, _ => decide +kernel
  | 4, _ => decide +kernel
  | 5, _ => decide +kernel
theorem first_tour {r p : Int} {x : Int × Int} {gs : List Int} {s : Int} {o row : List Int} {jo : Nat} (hn : gs.length ≤ 5) (h1 : (perms 5 (idx gs.length))[jo]? = some o) (h2 : BestR (rowsOf r p x (pick gs o)) (s, row))
    (h3 : ∀ (i : Nat) (o' : List Int) (s' : Int) (row' : List Int), (perms 5 (idx gs.length))[i]? = some o' → BestR (rowsOf r p x (pick gs o')) (s', row') → s ≤ s' ∧ (s' = s → jo ≤ i)) : TourR r p x gs (s, o) := by
  refine ⟨List.mem_of_getElem? h1, ⟨row, h2⟩, fun o' ho' s' row' bb => ?_⟩
  obtain ⟨i, hi⟩ := List.mem_iff_getElem?.mp ho'
  obtain ⟨a, b⟩ := h3 i o' s' row' hi bb
  dsimp only
  rw [ltL]
  by_cases c : s' = s
  · rw [if_pos c]
    have d := b c
    by_cases e : jo = i
    · rw [← e, h1] at hi
      rw [Option.some.inj hi]
      exact ltL_irrefl _
    · obtain ⟨l1, g1⟩ := List.getElem?_eq_some_iff.mp h1
      obtain ⟨l2, g2⟩ := List.getElem?_eq_some_iff.mp hi
      have := List.pairwise_iff_getElem.mp (perms_sorted hn) jo i l1 l2 (by omega)
      rw [g1, g2] at this
      exact ltL_asym _ _ this
  · rw [if_neg c]
    exact decide_eq_false (by omega)
end Rd

namespace Rd
open PySem L2
section
variable {P : Program} {w : World} {K : PySem.W.Frag} {mg : Str → Option Value} {base : Heap}
/-- the standings behind no move and behind each -/
def ends (p : Int) (z : Int × Int) (ms : List Int) : List (Int × Int) := z :: traj p z ms
theorem ends_at (p : Int) (z : Int × Int) (ms : List Int) {i : Nat} (h : i ≤ ms.length) : (ends p z ms)[i]? = some (pos p z (ms.take i)) := by
  induction ms generalizing z i with
  | nil =>
    have : i = 0 := by simpa using h
    subst this
    rfl
  | cons k r ih =>
    cases i with
    | zero => rfl
    | succ i => exact ih (nx p z k) (by simpa using h)
theorem ends_len (p : Int) (z : Int × Int) (ms : List Int) : (ends p z ms).length = ms.length + 1 := by
  unfold ends
  rw [List.length_cons, traj_len]
/-- pairs of two pairs -/
def Duos (H : Hp) (ts : List Addr) (xs ys : List (Int × Int)) : Prop := ts.length = xs.length ∧ ∀ (i : Nat) (t : Addr) (x y : Int × Int), ts[i]? = some t → xs[i]? = some x → ys[i]? = some y →
  ∃ a b : Addr, H t = some (.tup [.ref a, .ref b]) ∧ H a = some (.tup [.int x.1, .int x.2]) ∧ H b = some (.tup [.int y.1, .int y.2])
theorem Duos.mono {H H' : Hp} {ts : List Addr} {xs ys : List (Int × Int)} (d : Duos H ts xs ys) (R : Same H H') : Duos H' ts xs ys := ⟨d.1, fun i t x y h1 h2 h3 => by
  obtain ⟨a, b, e1, e2, e3⟩ := d.2 i t x y h1 h2 h3
  exact ⟨a, b, R _ _ e1, R _ _ e2, R _ _ e3⟩⟩
def spBE (K : PySem.W.Frag) : Sp := fun vs H Q _ => ∃ (g : Addr) (r p : Int) (l : Addr) (ms : List Int), vs = [.ref g, .ref l] ∧ H g = some (.tup [.int r, .int p]) ∧ SqL K H l (ms.map V.int) ∧ ms.length ≤ 100 ∧
  ∀ (q : Addr) (ts : List Addr) (H' : Hp), H q = none → Same H H' → H' q = some (.lst (ts.map V.ref)) → Duos H' ts (ends p (0, -p) ms) (ends p (0, 0) ms) → Q (.ref q) H'
theorem spBE_i {g l : Addr} {r p : Int} {ms : List Int} {H : Hp} {Q : VK} {E : XK} (hg : H g = some (.tup [.int r, .int p])) (hl : SqL K H l (ms.map V.int)) (hm : ms.length ≤ 100)
    (h : ∀ (q : Addr) (ts : List Addr) (H' : Hp), H q = none → Same H H' → H' q = some (.lst (ts.map V.ref)) → Duos H' ts (ends p (0, -p) ms) (ends p (0, 0) ms) → Q (.ref q) H') : spBE K [.ref g, .ref l] H Q E := ⟨g, r, p, l, ms, rfl, hg, hl, hm, h⟩
theorem ok_both_ends (B : Bl mg) (F : FunAt K mg "both_ends" s_both_ends) (H_all_behind : Has P w K mg base CX0 2 "all_behind" (spAB K)) : Has P w K mg base CX0 3 "both_ends" (spBE K) := by
  refine F.ok sc_both_ends bo_both_ends (fun vs H Q E h => ?_) (fun f cdv A outer s H vs Q E hr h => ?_)
  · obtain ⟨g, r, p, l, ms, rfl, _⟩ := h
    rfl
  · obtain ⟨g, r, p, l, ms, rfl, hg, hl, hm, h⟩ := h
    refine ⟨_, (pss_cons (ps_set (i := 2) sc_both_ends.nd rfl (by first | exact Or.inl rfl | exact Or.inr rfl) (pe_lst (pa_cons (pe_tup (pa_cons pe_int (pa_cons (pe_op op_sub pe_int (pe_ix (kix (K := K) rfl) (pv 0) pe_int (fun _ _ => rfl))) pa_nil))) pa_nil)))
 (pss_cons (ps_set (i := 3) sc_both_ends.nd rfl (by first | exact Or.inl rfl | exact Or.inr rfl) (pe_lst (pa_cons (pe_tup (pa_cons pe_int (pa_cons pe_int pa_nil))) pa_nil)))
 (pss_one (ps_ret (pe_listZip (K := K) rfl rfl rfl B.list rfl B.zip (pe_op (kop_add (K := K) rfl) (pv 2) (pe_has H_all_behind hr (by omega) rfl pass0 (pa_cons (pv 0) (pa_cons (pe_ix (kix (K := K) rfl) (pv 2) pe_int (fun _ _ => rfl)) (pa_cons (pv 1) pa_nil))))) (pe_op (kop_add (K := K) rfl) (pv 3) (pe_has H_all_behind hr (by omega) rfl pass0 (pa_cons (pv 0) (pa_cons (pe_ix (kix (K := K) rfl) (pv 3) pe_int (fun _ _ => rfl)) (pa_cons (pv 1) pa_nil)))))))))), ?_⟩
    refine r_start (σ' := [some (.ref g), some (.ref l), none, none]) rfl ?_
    walk_at "go"
    intro t1 n1
    walk_at "go"
    intro lo n2
    walk_at "go"
    intro t3 n3
    walk_at "go"
    intro hi n4
    walk_at "go"
    refine r_listZip ?_
    walk_at "go"
    -- the four that were made
    have s4 := (same_new (u := .tup [.int 0, .int (0 - p)]) n1).trans ((same_new (u := .lst [.ref t1]) n2).trans ((same_new (u := .tup [.int 0, .int 0]) n3).trans (same_new (u := .lst [.ref t3]) n4)))
    have e1 : upd (upd (upd (upd H t1 (.tup [.int 0, .int (0 - p)])) lo (.lst [.ref t1])) t3 (.tup [.int 0, .int 0])) hi (.lst [.ref t3]) t1 = some (.tup [.int 0, .int (0 - p)]) := by walk_at "hp"
    have e2 : upd (upd (upd (upd H t1 (.tup [.int 0, .int (0 - p)])) lo (.lst [.ref t1])) t3 (.tup [.int 0, .int 0])) hi (.lst [.ref t3]) lo = some (.lst [.ref t1]) := by walk_at "hp"
    have e3 : upd (upd (upd (upd H t1 (.tup [.int 0, .int (0 - p)])) lo (.lst [.ref t1])) t3 (.tup [.int 0, .int 0])) hi (.lst [.ref t3]) t3 = some (.tup [.int 0, .int 0]) := by walk_at "hp"
    have e4 : upd (upd (upd (upd H t1 (.tup [.int 0, .int (0 - p)])) lo (.lst [.ref t1])) t3 (.tup [.int 0, .int 0])) hi (.lst [.ref t3]) hi = some (.lst [.ref t3]) := upd_same
    generalize upd (upd (upd (upd H t1 (.tup [.int 0, .int (0 - p)])) lo (.lst [.ref t1])) t3 (.tup [.int 0, .int 0])) hi (.lst [.ref t3]) = H4 at s4 e1 e2 e3 e4 ⊢
    refine spAB_i (s4 _ _ hg) (x := (0, 0 - p)) e1 (s4.seq hl) (by omega) fun q5 as5 H5 nq5 s5 hq5 ht5 => ?_
    refine r_addL (s5 _ _ e2) hq5 (by rw [List.length_map, ht5.1, traj_len]; show 1 + _ ≤ _; exact Nat.le_of_lt (small1000 (by omega))) fun d6 nd6 => ?_
    walk_at "go"
    have s6 : Same H4 (upd H5 d6 (.lst ([V.ref t1] ++ as5.map V.ref))) := by walk_at "fr"
    have e6 : upd H5 d6 (.lst ([V.ref t1] ++ as5.map V.ref)) d6 = some (.lst ([V.ref t1] ++ as5.map V.ref)) := upd_same
    have ht6 : Tups (upd H5 d6 (.lst ([V.ref t1] ++ as5.map V.ref))) as5 (traj p (0, 0 - p) ms) := ht5.mono fun b xs e => at_new nd6 e
    generalize upd H5 d6 (.lst ([V.ref t1] ++ as5.map V.ref)) = H6 at s6 e6 ht6 ⊢
    have hg6 : H6 g = some (.tup [.int r, .int p]) := by walk_at "hp"
    have e36 : H6 t3 = some (.tup [.int 0, .int 0]) := by walk_at "hp"
    have e46 : H6 hi = some (.lst [.ref t3]) := by walk_at "hp"
    walk_at "go"
    refine spAB_i hg6 (x := (0, 0)) e36 (s6.seq (s4.seq hl)) (by omega) fun q7 as7 H7 nq7 s7 hq7 ht7 => ?_
    refine r_addL (s7 _ _ e46) hq7 (by rw [List.length_map, ht7.1, traj_len]; show 1 + _ ≤ _; exact Nat.le_of_lt (small1000 (by omega))) fun d8 nd8 => ?_
    have s8 : Same H6 (upd H7 d8 (.lst ([V.ref t3] ++ as7.map V.ref))) := by walk_at "fr"
    have e8 : upd H7 d8 (.lst ([V.ref t3] ++ as7.map V.ref)) d8 = some (.lst ([V.ref t3] ++ as7.map V.ref)) := upd_same
    have ht8 : Tups (upd H7 d8 (.lst ([V.ref t3] ++ as7.map V.ref))) as7 (traj p (0, 0) ms) := ht7.mono fun b xs e => at_new nd8 e
    generalize upd H7 d8 (.lst ([V.ref t3] ++ as7.map V.ref)) = H8 at s8 e8 ht8 ⊢
    have l5 : as5.length = ms.length := by rw [ht5.1, traj_len]
    have l7 : as7.length = ms.length := by rw [ht7.1, traj_len]
    have e1' : H8 t1 = some (.tup [.int (0, 0 - p).1, .int (0, 0 - p).2]) := s8 _ _ (s6 _ _ e1)
    have e3' : H8 t3 = some (.tup [.int ((0, 0) : Int × Int).1, .int ((0, 0) : Int × Int).2]) := s8 _ _ e36
    have T1 : Tups H8 (t1 :: as5) (ends p (0, 0 - p) ms) := ⟨by rw [ends_len, List.length_cons, l5], fun i a x h1 h2 => by
      cases i with
      | zero => cases h1; cases h2; exact e1'
      | succ i => exact (ht6.mono fun b xs e => s8 _ _ e).2 i a x h1 h2⟩
    have T2 : Tups H8 (t3 :: as7) (ends p (0, 0) ms) := ⟨by rw [ends_len, List.length_cons, l7], fun i a x h1 h2 => by
      cases i with
      | zero => cases h1; cases h2; exact e3'
      | succ i => exact ht8.2 i a x h1 h2⟩
    refine ⟨d6, d8, [V.ref t1] ++ as5.map V.ref, [V.ref t3] ++ as7.map V.ref, rfl, rfl, SqL.of (s8 _ _ e6), SqL.of e8, by simp [l5, l7], by simp, fun H9 p9 ts s9 np9 hp9 lts hts => ?_⟩
    have s09 : Same H H9 := s4.trans (s6.trans (s8.trans s9))
    walk_at "go"
    have z0 : (0 : Int) - p = -p := by omega
    rw [z0] at T1
    refine h p9 ts H9 ?_ s09 hp9 ⟨by rw [lts, ends_len]; simp [l5], fun i t x y h1 h2 h3 => ?_⟩
    · exact (s4.trans (s6.trans s8)).free np9
    · have hi : i < ms.length + 1 := by
        have := (List.getElem?_eq_some_iff.mp h2).1
        rwa [ends_len] at this
      have a1 : (t1 :: as5)[i]? = some ((t1 :: as5)[i]'(by simp [l5]; omega)) := List.getElem?_eq_getElem _
      have a2 : (t3 :: as7)[i]? = some ((t3 :: as7)[i]'(by simp [l7]; omega)) := List.getElem?_eq_getElem _
      refine ⟨_, _, hts i t _ _ h1 (show ((t1 :: as5).map V.ref)[i]? = _ by rw [List.getElem?_map, a1]; rfl) (show ((t3 :: as7).map V.ref)[i]? = _ by rw [List.getElem?_map, a2]; rfl), s9 _ _ (T1.2 i _ x a1 h2), s9 _ _ (T2.2 i _ y a2 h3)⟩
def spKnown (K : PySem.W.Frag) : Sp := fun vs H Q _ => ∃ (g : Addr) (r p : Int) (l : Addr) (ms : List Int), vs = [.ref g, .ref l] ∧ GearAt H g r p ∧ SqL K H l (ms.map V.int) ∧ ms.length ≤ 100 ∧
  ∀ (q : Addr) (H' : Hp), H q = none → Same H H' → H' q = some (.tup [.int (pos p (0, -p) ms).1, .int (pos p (0, -p) ms).2, .int (pos p (0, 0) ms).2]) → Q (.ref q) H'
theorem spKnown_i {g l : Addr} {r p : Int} {ms : List Int} {H : Hp} {Q : VK} {E : XK} (G : GearAt H g r p) (hl : SqL K H l (ms.map V.int)) (hm : ms.length ≤ 100)
    (h : ∀ (q : Addr) (H' : Hp), H q = none → Same H H' → H' q = some (.tup [.int (pos p (0, -p) ms).1, .int (pos p (0, -p) ms).2, .int (pos p (0, 0) ms).2]) → Q (.ref q) H') : spKnown K [.ref g, .ref l] H Q E := ⟨g, r, p, l, ms, rfl, G, hl, hm, h⟩
theorem ok_known (F : FunAt K mg "known" s_known) (H_need_gear : Has P w K mg base CX0 1 "need_gear" spNG) (H_need_moves : Has P w K mg base CX0 1 "need_moves" (spNM K)) (H_both_ends : Has P w K mg base CX0 3 "both_ends" (spBE K)) : Has P w K mg base CX0 4 "known" (spKnown K) := by
  refine F.ok sc_known bo_known (fun vs H Q E h => ?_) (fun f cdv A outer s H vs Q E hr h => ?_)
  · obtain ⟨g, r, p, l, ms, rfl, _⟩ := h
    rfl
  · obtain ⟨g, r, p, l, ms, rfl, G, hl, hm, h⟩ := h
    refine ⟨_, (pss_cons (ps_expr (pe_has H_need_gear hr (by omega) rfl pass0 (pa_cons (pv 0) pa_nil)))
 (pss_cons (ps_expr (pe_has H_need_moves hr (by omega) rfl pass0 (pa_cons (pv 1) pa_nil)))
 (pss_cons (ps_asg (pe_ix (kix (K := K) rfl) (pe_has H_both_ends hr (by omega) rfl pass0 (pa_cons (pv 0) (pa_cons (pv 1) pa_nil))) (pe_un un_neg pe_int) (fun _ _ => rfl)) (kpg_tup (K := K) rfl rfl (pgs_cons (pg_name (i := 2) sc_known.nd rfl (by first | exact Or.inl rfl | exact Or.inr rfl)) (pgs_cons (pg_name (i := 3) sc_known.nd rfl (by first | exact Or.inl rfl | exact Or.inr rfl)) pgs_nil))))
 (pss_one (ps_ret (pe_tup (pa_cons (pe_ix (kix (K := K) rfl) (pv 2) pe_int (fun _ _ => rfl)) (pa_cons (pe_ix (kix (K := K) rfl) (pv 2) pe_int (fun _ _ => rfl)) (pa_cons (pe_ix (kix (K := K) rfl) (pv 3) pe_int (fun _ _ => rfl)) pa_nil))))))))), ?_⟩
    refine r_start (σ' := [some (.ref g), some (.ref l), none, none]) rfl ?_
    walk_at "go"
    refine spNG_i G ?_
    walk_at "go"
    refine spNM_i hl hm ?_
    walk_at "go"
    refine spBE_i G.at_ hl hm fun q ts H1 nq s1 hq hd => ?_
    walk_at "go"
    have lt : ts.length = ms.length + 1 := by rw [hd.1, ends_len]
    obtain ⟨t, ht⟩ : ∃ t, ts[ms.length]? = some t := ⟨ts[ms.length]'(by omega), List.getElem?_eq_getElem _⟩
    have x1 := ends_at p (0, -p) ms (Nat.le_refl _)
    have x2 := ends_at p (0, 0) ms (Nat.le_refl _)
    rw [List.take_length] at x1 x2
    obtain ⟨a, b, g1, g2, g3⟩ := hd.2 _ t _ _ ht x1 x2
    refine r_ix (.inl (SqL.of hq)) (at_neg1 (n := ms.length) (by rw [List.length_map]; exact lt) (by rw [List.getElem?_map, ht]; rfl)) ?_
    walk_at "go"
    intro q2 nq2
    walk_at "go"
    exact h q2 _ (s1.free nq2) (by walk_at "fr") upd_same
end
end Rd

namespace Rd
open PySem L2
section
variable {P : Program} {w : World} {K : PySem.W.Frag} {mg : Str → Option Value} {base : Heap}
/-- behind i moves the shaft is known -/
def Kn (p : Int) (ms : List Int) (i : Nat) : Prop := pos p (0, -p) (ms.take i) = pos p (0, 0) (ms.take i)
instance (p : Int) (ms : List Int) (i : Nat) : Decidable (Kn p ms i) := inferInstanceAs (Decidable (_ = _))
/-- what settled tells -/
def SetV (p : Int) (ms : List Int) (v : V) : Prop := (∃ j : Nat, v = .int j ∧ j ≤ ms.length ∧ Kn p ms j ∧ ∀ i, i < j → ¬ Kn p ms i) ∨ (v = .non ∧ ∀ i, i ≤ ms.length → ¬ Kn p ms i)
theorem SetV.one {p : Int} {ms : List Int} {u v : V} (a : SetV p ms u) (b : SetV p ms v) : u = v := by
  rcases a with ⟨j, rfl, hj, kj, fj⟩ | ⟨rfl, na⟩
  · rcases b with ⟨i, rfl, hi, ki, fi⟩ | ⟨rfl, nb⟩
    · have : i = j := by
        rcases Nat.lt_trichotomy i j with h | h | h
        · exact absurd ki (fj i h)
        · exact h
        · exact absurd kj (fi j h)
      rw [this]
    · exact absurd kj (nb j hj)
  · rcases b with ⟨i, rfl, hi, ki, fi⟩ | ⟨rfl, nb⟩
    · exact absurd ki (na i hi)
    · rfl
def spSettled (K : PySem.W.Frag) : Sp := fun vs H Q _ => ∃ (g : Addr) (r p : Int) (l : Addr) (ms : List Int), vs = [.ref g, .ref l] ∧ GearAt H g r p ∧ SqL K H l (ms.map V.int) ∧ ms.length ≤ 100 ∧
  ∀ (v : V) (H' : Hp), Same H H' → SetV p ms v → Q v H'
theorem spSettled_i {g l : Addr} {r p : Int} {ms : List Int} {H : Hp} {Q : VK} {E : XK} (G : GearAt H g r p) (hl : SqL K H l (ms.map V.int)) (hm : ms.length ≤ 100)
    (h : ∀ (v : V) (H' : Hp), Same H H' → SetV p ms v → Q v H') : spSettled K [.ref g, .ref l] H Q E := ⟨g, r, p, l, ms, rfl, G, hl, hm, h⟩
theorem ok_settled (B : Bl mg) (F : FunAt K mg "settled" s_settled) (H_need_gear : Has P w K mg base CX0 1 "need_gear" spNG) (H_need_moves : Has P w K mg base CX0 1 "need_moves" (spNM K)) (H_both_ends : Has P w K mg base CX0 3 "both_ends" (spBE K)) : Has P w K mg base CX0 4 "settled" (spSettled K) := by
  refine F.ok sc_settled bo_settled (fun vs H Q E h => ?_) (fun f cdv A outer s H vs Q E hr h => ?_)
  · obtain ⟨g, r, p, l, ms, rfl, _⟩ := h
    rfl
  · obtain ⟨g, r, p, l, ms, rfl, G, hl, hm, h⟩ := h
    refine ⟨_, (pss_cons (ps_expr (pe_has H_need_gear hr (by omega) rfl pass0 (pa_cons (pv 0) pa_nil)))
 (pss_cons (ps_expr (pe_has H_need_moves hr (by omega) rfl pass0 (pa_cons (pv 1) pa_nil)))
 (pss_cons (ps_for PassesOwn.never rfl (kpi_enum (K := K) rfl rfl B.enumerate (pa_cons (pe_has H_both_ends hr (by omega) rfl pass0 (pa_cons (pv 0) (pa_cons (pv 1) pa_nil))) pa_nil)) (kpg_tup (K := K) rfl rfl (pgs_cons (pg_name (i := 2) sc_settled.nd rfl (by first | exact Or.inl rfl | exact Or.inr rfl)) (pgs_cons (kpg_tup (K := K) rfl rfl (pgs_cons (pg_name (i := 3) sc_settled.nd rfl (by first | exact Or.inl rfl | exact Or.inr rfl)) (pgs_cons (pg_name (i := 4) sc_settled.nd rfl (by first | exact Or.inl rfl | exact Or.inr rfl)) pgs_nil))) pgs_nil))) (pss_one (ps_if (pt_cmpR (kop_eq (K := K) rfl hr.units) (pv 3) (pv 4) (nomark _)) (pss_one (ps_ret (pv 2))) pss_nil)))
 (pss_one (ps_ret pe_non))))), ?_⟩
    refine r_start (σ' := [some (.ref g), some (.ref l), none, none, none]) rfl ?_
    walk_at "go"
    refine spNG_i G ?_
    walk_at "go"
    refine spNM_i hl hm ?_
    walk_at "go"
    refine spBE_i G.at_ hl hm fun q ts H1 nq s1 hq hd => ?_
    have lt : ts.length = ms.length + 1 := by rw [hd.1, ends_len]
    refine ⟨_, _, rfl, SqL.of hq, fw_enum (K := K) (a := q) (xs := ts.map V.ref) (fun i σ H2 => ∃ v2 v3 v4, σ = [some (.ref g), some (.ref l), v2, v3, v4] ∧ Same H1 H2 ∧ ∀ j, j < i → ¬ Kn p ms j)
      ⟨_, _, _, rfl, Same.refl _, fun j hj => by omega⟩ (fun i σ H2 _ ⟨_, _, _, _, h2, _⟩ => SqL.of (h2 _ _ hq)) ?_ ?_⟩
    · rintro i y σ H2 T hi ⟨v2, v3, v4, rfl, h2, hn⟩ nT
      obtain ⟨t, ht, rfl⟩ := map_at hi
      have hil : i ≤ ms.length := by
        have := (List.getElem?_eq_some_iff.mp ht).1
        omega
      obtain ⟨a, b, e1, e2, e3⟩ := hd.2 i t _ _ ht (ends_at p (0, -p) ms hil) (ends_at p (0, 0) ms hil)
      have e1' := at_new (u := .tup [.int (i : Nat), .ref t]) nT (h2 _ _ e1)
      have e2' := at_new (u := .tup [.int (i : Nat), .ref t]) nT (h2 _ _ e2)
      have e3' := at_new (u := .tup [.int (i : Nat), .ref t]) nT (h2 _ _ e3)
      have s3 : Same H1 (upd H2 T (.tup [.int (i : Nat), .ref t])) := h2.trans (same_new nT)
      have eT : upd H2 T (.tup [.int (i : Nat), .ref t]) T = some (.tup [.int (i : Nat), .ref t]) := upd_same
      generalize upd H2 T (.tup [.int (i : Nat), .ref t]) = H3 at e1' e2' e3' s3 eT ⊢
      walk_at "go"
      refine r_eqPair e2' e3' ?_
      walk_at "go"
      refine iteD (fun c => ?_) (fun c => ?_)
      · walk_at "go"
        exact h _ _ (s1.trans s3) (.inl ⟨i, rfl, hil, c, hn⟩)
      · walk_at "go"
        refine ⟨_, _, _, rfl, s3, fun j hj => ?_⟩
        by_cases e : j = i
        · subst e
          exact c
        · exact hn j (by omega)
    · rintro σ H2 ⟨v2, v3, v4, rfl, h2, hn⟩
      walk_at "go"
      rw [List.length_map] at hn
      exact h _ _ (s1.trans h2) (.inr ⟨rfl, fun i hi => hn i (by omega)⟩)
end
end Rd

namespace Rd
open PySem L2 TL
theorem eqv_strs : ∀ ys : List Str, PyData.eqv (.list (ys.map PyData.str)) (.list []) = decide (ys = [])
  | [] => by simp [PyData.eqv, PyData.eqvAll]
  | y :: r => by simp [PyData.eqv, PyData.eqvAll]
theorem IsAll.strs {H : Hp} : ∀ ys : List Str, IsAll H (ys.map V.str) (ys.map PyData.str)
  | [] => .nil
  | y :: r => .cons (.str y) (IsAll.strs r)
theorem Fl.str (n : Nat) {z : Str} (h : PyData.strOk z = true) : Fl n (.str z) := ⟨by rw [PyData.canLay0]; exact h, by rw [PyData.depth]; omega⟩
theorem Fl.strs (n : Nat) {ys : List Str} (h : ∀ y ∈ ys, PyData.strOk y = true) : Fl (n + 1) (.list (ys.map PyData.str)) := Fl.list fun d hd => by
  obtain ⟨z, hz, rfl⟩ := List.mem_map.mp hd
  exact Fl.str _ (h z hz)
section
variable {P : Program} {w : World} {K : PySem.W.Frag} {mg : Str → Option Value} {base : Heap}
theorem r_neNilS {H : Hp} {Q : VK} {a b : Addr} {ys : List Str} (h : H a = some (.lst (ys.map V.str))) (h2 : H b = some (.lst [])) (ok : ∀ y ∈ ys, PyData.strOk y = true) (k : Q (.bl (!decide (ys = []))) H) : rNeA K (.ref a) (.ref b) H Q := by
  refine .inr ⟨.list (ys.map PyData.str), .list [], Is.dp _ _ (.lst h (IsAll.strs ys)), Is.dp _ _ (.lst h2 .nil), (Fl.strs 0 ok).shaped (by decide), (Fl.list (n := 0) (ds := []) (by simp)).shaped (by decide), ?_⟩
  rw [eqv_strs]
  exact k
def optV : Option Int → V
  | some k => .int k
  | none => .non
theorem str_iff {z : Str} {l : List Nat} : z = ⟨l.toArray⟩ ↔ tl z = l := ⟨fun e => by rw [e], fun e => ext_tl (by rw [e])⟩
def spStepsOf : Sp := fun vs H Q _ => ∃ z : Str, vs = [.str z] ∧ z.length ≤ sizeLine ∧ (∀ c ∈ tl z, c < 128) ∧ ∀ H', Same H H' → Q (optV (stepsL (tl z))) H'
theorem spStepsOf_i {z : Str} {H : Hp} {Q : VK} {E : XK} (hz : z.length ≤ sizeLine) (ha : ∀ c ∈ tl z, c < 128) (k : ∀ H', Same H H' → Q (optV (stepsL (tl z))) H') : spStepsOf [.str z] H Q E := ⟨z, rfl, hz, ha, k⟩
theorem ok_steps_of (B : Bl mg) (F : FunAt K mg "steps_of" s_steps_of) (M_MOST_FIGURES : Cn mg "MOST_FIGURES" 30) (M_FIGURES : CnS mg "FIGURES" "0123456789") : Has P w K mg base CX0 1 "steps_of" spStepsOf := by
  refine F.ok sc_steps_of bo_steps_of (fun vs H Q E h => ?_) (fun f cdv A outer s H vs Q E hr h => ?_)
  · obtain ⟨z, rfl, _⟩ := h
    rfl
  · obtain ⟨z, rfl, hz, ha, k⟩ := h
    refine ⟨_, (pss_cons (ps_if (pt_cmpR (kop_eq (K := K) rfl hr.units) (pv 0) pe_str (nomark _)) (pss_one (ps_ret pe_int)) pss_nil)
 (pss_cons (ps_set (i := 1) sc_steps_of.nd rfl (by first | exact Or.inl rfl | exact Or.inr rfl) (pe_slice (ksl (K := K) rfl) (pv 0) (po_some pe_int) po_none))
 (pss_cons (ps_if (PW.pt (pw_or (pt_cmpR (kop_notIn (K := K) rfl) (pe_slice (ksl (K := K) rfl) (pv 0) po_none (po_some pe_int)) (pe_tup (pa_cons pe_str (pa_cons pe_str pa_nil))) rfl) (pw_or (pt_not (pt_chain op_le op_le pe_int (pe_callB (kc_len (K := K) rfl) rfl B.len (by decide +kernel) (pa_cons (pv 1) pa_nil)) (pe_cn M_MOST_FIGURES rfl))) (pw_or1 (pt_cmpR (kop_eq (K := K) rfl hr.units) (pe_ix (kix (K := K) rfl) (pv 1) pe_int (fun _ _ => rfl)) pe_str (nomark _)))))) (pss_one (ps_ret pe_non)) pss_nil)
 (pss_cons (ps_if (pt_cmpR (kop_ne (K := K) rfl hr.units) (pe_lc (own := [("sign", 2)]) (g := (gName 2)) rfl sc_steps_of.nd (pi_str (pv 1)) (blkOk_by (N := ["word", "size", "sign"]) (sc := defScope s_steps_of) (own := [("sign", 2)]) (by decide +kernel)) (fun _ _ _ _ _ => (pg_name (i := 2) sc_steps_of.nd rfl (by first | exact Or.inl rfl | exact Or.inr rfl))) (fun _ _ _ _ _ => (pts_one (pt_cmpR op_nsign (pv 2) (pe_cnS M_FIGURES rfl) rfl))) (fun _ _ _ _ _ => (pv 2))) (pe_lst pa_nil) (nomark _)) (pss_one (ps_ret pe_non)) pss_nil)
 (pss_one (ps_ret (pe_ifExp (pt_cmpR (kop_eq (K := K) rfl hr.units) (pe_ix (kix (K := K) rfl) (pv 0) pe_int (fun _ _ => rfl)) pe_str (nomark _)) (pe_callTy kc_intS rfl B.int (by decide +kernel) (pa_cons (pv 1) pa_nil)) (pe_op op_sub pe_int (pe_callTy kc_intS rfl B.int (by decide +kernel) (pa_cons (pv 1) pa_nil)))))))))), ?_⟩
    refine r_start (σ' := [some (.str z), none, none]) rfl ?_
    walk_at "go"
    refine r_eqS ?_
    walk_at "go"
    refine iteD (fun c0 => ?_) (fun c0 => ?_)
    · walk_at "go"
      have e : tl z = [48] := by rw [c0]; decide +kernel
      have := k H (Same.refl H)
      rw [e] at this
      exact this
    have n0 : tl z ≠ [48] := fun e => c0 (ext_tl (by rw [e]; decide +kernel))
    walk_at "go"
    refine r_slS hz ?_
    have hs1 := tl_cut1 z
    have hsl : (cutS z (some 1) none).length ≤ sizeLine := Nat.le_trans (cutS_length _ _ _) hz
    generalize cutS z (some 1) none = sz at hs1 hsl ⊢
    walk_at "go"
    refine r_slS hz ?_
    have hs0 := tl_cut01 z
    generalize cutS z none (some 1) = s0 at hs0 ⊢
    have inS : s0 ∈ ([("+" : Str), "-"] : List Str) ↔ ((tl z).take 1 = [43] ∨ (tl z).take 1 = [45]) := by
      have e1 : ("+" : Str) = ⟨[43].toArray⟩ := by decide +kernel
      have e2 : ("-" : Str) = ⟨[45].toArray⟩ := by decide +kernel
      rw [List.mem_cons, List.mem_cons, e1, e2, str_iff, str_iff, hs0]
      simp
    walk_at "go"
    intro t1 n1
    refine r_notInT (ys := [("+" : Str), "-"]) upd_same ?_
    walk_at "go"
    have S1 : Same H (upd H t1 (.tup [V.str "+", V.str "-"])) := same_new n1
    generalize upd H t1 (.tup [V.str "+", V.str "-"]) = H1 at S1 ⊢
    have none_ : ∀ {H'}, Same H H' → stepsL (tl z) = none → Q .non H' := fun {H'} h e => by
      have := k H' h
      rw [e] at this
      exact this
    refine iteN (fun c1 => ?_) (fun c1 => ?_)
    · refine iteT ?_
      walk_at "go"
      refine none_ S1 ?_
      unfold stepsL
      rw [if_neg n0, if_neg fun h => c1 (inS.mpr h)]
    have c1' := inS.mp c1
    have fin_no : ¬ (1 ≤ ((tl z).drop 1).length ∧ ((tl z).drop 1).length ≤ 30 ∧ ((tl z).drop 1).head? ≠ some 48 ∧ ((tl z).drop 1).all digit = true) → stepsL (tl z) = none := fun h => by
      unfold stepsL
      rw [if_neg n0, if_pos c1', if_neg h]
    rw [← hs1] at fin_no
    have slen : (sz.length : Int) = ((tl sz).length : Int) := by rw [len_tl]
    walk_at "go"
    refine r_lenStr hsl ?_
    walk_at "go"
    refine iteD (fun c2 => ?_) (fun c2 => ?_)
    rotate_left
    · walk_at "go"
      refine iteT ?_
      walk_at "go"
      exact none_ S1 (fin_no fun h => by omega)
    walk_at "go"
    refine iteN (fun c3 => ?_) (fun c3 => ?_)
    · refine iteT ?_
      walk_at "go"
      exact none_ S1 (fin_no fun h => by omega)
    walk_at "go"
    obtain ⟨c, r, er⟩ : ∃ c r, tl sz = c :: r := by
      cases e : tl sz with
      | nil => rw [e] at slen; simp at slen; omega
      | cons c r => exact ⟨c, r, rfl⟩
    refine r_ixS (c := c) hsl (by rw [show sz.cps.toList = c :: r from er]; first | exact L2.atI_nat rfl | exact L2.atI_nat (i := 0) rfl | (unfold atI ixN; rfl) | simp [atI, ixN]) ?_
    walk_at "go"
    refine r_eqS ?_
    walk_at "go"
    have e0 : ("0" : Str) = ⟨[48].toArray⟩ := by decide +kernel
    refine iteD (fun c4 => ?_) (fun c4 => ?_)
    · walk_at "go"
      refine none_ S1 (fin_no fun h => h.2.2.1 ?_)
      rw [e0, str_iff] at c4
      have : ([c] : List Nat) = [48] := c4
      rw [er, (List.cons.inj this).1]
      rfl
    have hc48 : (tl sz).head? ≠ some 48 := fun e => c4 (by
      rw [er] at e
      rw [Option.some.inj (show some c = some 48 from e), e0])
    walk_at "go"
    refine r_iStr ?_
    walk_at "go"
    refine ⟨sz, rfl, fun D nD => lcw_str (z := sz) (σw := [some (.str z), some (.str sz), none])
      (fun i H8 => Same H1 H8 ∧ H8 D = some (.lst ((((tl sz).take i).filter fun c => !digit c).map fun c => V.str ⟨#[c]⟩))) rfl ⟨same_new nD, upd_same⟩ (fun i c H8 hi h => ?_) fun H8 h => ?_⟩
    · obtain ⟨h8, hD⟩ := h
      walk_at "go"
      refine ⟨rfl, ?_⟩
      walk_at "go"
      refine r_nsign ?_
      walk_at "go"
      have hfig : c ∈ tl ("0123456789" : Str) ↔ digit c = true := by
        have : tl ("0123456789" : Str) = [48, 49, 50, 51, 52, 53, 54, 55, 56, 57] := by decide +kernel
        rw [this]
        unfold digit
        rw [decide_eq_true_iff]
        simp only [List.mem_cons, List.not_mem_nil, or_false]
        omega
      have hil : i < (tl sz).length := (List.getElem?_eq_some_iff.mp hi).1
      refine iteN (fun c5 => ?_) (fun c5 => ?_)
      · walk_at "go"
        have hf : digit c = false := by
          cases e : digit c with
          | false => rfl
          | true => exact absurd (hfig.mpr e) c5
        refine ⟨_, hD, ?_, fun b o e => at_wr (ne_of_none e nD) (h8 _ _ e), ?_⟩
        · rw [List.length_map]
          refine Nat.lt_of_le_of_lt (List.length_filter_le _ _) ?_
          rw [List.length_take]
          have : 31 < sizeLine := small1000 (by decide)
          omega
        · rw [upd_same, take_snoc hi, List.filter_append]
          simp [hf]
      · refine ⟨h8, ?_⟩
        have hf : digit c = true := hfig.mp c5
        rw [hD, take_snoc hi, List.filter_append]
        simp [hf]
    obtain ⟨h8, hD⟩ := h
    rw [List.take_length] at hD
    have hD' : H8 D = some (.lst ((((tl sz).filter fun c => !digit c).map fun c => (⟨#[c]⟩ : Str)).map V.str)) := by
      rw [hD, List.map_map]
      rfl
    walk_at "go"
    intro t9 n9
    refine r_neNilS (at_new n9 hD') upd_same (fun y hy => ?_) ?_
    · obtain ⟨c', hc', rfl⟩ := List.mem_map.mp hy
      have hm : c' ∈ tl z := by
        have := (List.mem_filter.mp hc').1
        rw [hs1] at this
        exact List.mem_of_mem_drop this
      have := ha c' hm
      unfold PyData.strOk
      simp
      omega
    walk_at "go"
    have S9 : Same H (upd H8 t9 (.lst [])) := (S1.trans h8).trans (same_new n9)
    generalize upd H8 t9 (.lst []) = H9 at S9 ⊢
    refine iteN (fun c6 => ?_) (fun c6 => ?_)
    · walk_at "go"
      refine none_ S9 (fin_no fun h => c6 ?_)
      rw [List.map_eq_nil_iff, List.filter_eq_nil_iff]
      intro a ha' hb
      have := List.all_eq_true.mp h.2.2.2 a ha'
      rw [this] at hb
      cases hb
    rw [List.map_eq_nil_iff, List.filter_eq_nil_iff] at c6
    have hall : (tl sz).all digit = true := List.all_eq_true.mpr fun a ha' => by
      have := c6 a ha'
      cases e : digit a with
      | true => rfl
      | false => rw [e] at this; exact absurd rfl this
    have hval : PySem.intText? sz = some ((NumText.digitsVal (tl sz) : Nat) : Int) := PySem.intText_digits ((allDigits_iff _).mp hall) (by rw [show sz.cps.toList = tl sz from rfl, er]; exact List.cons_ne_nil _ _) (by omega)
    have hgood : stepsL (tl z) = some (if (tl z).take 1 = [43] then (NumText.digitsVal (tl sz) : Int) else 0 - (NumText.digitsVal (tl sz) : Int)) := by
      unfold stepsL
      rw [if_neg n0, if_pos c1', ← hs1, if_pos ⟨by omega, by omega, hc48, hall⟩]
    have kk := k H9 S9
    rw [hgood] at kk
    obtain ⟨c7, r7, er7⟩ : ∃ c r, tl z = c :: r := by
      cases e : tl z with
      | nil => rw [e] at c1'; simp at c1'
      | cons c r => exact ⟨c, r, rfl⟩
    walk_at "go"
    refine r_ixS (c := c7) hz (by rw [show z.cps.toList = c7 :: r7 from er7]; first | exact L2.atI_nat rfl | exact L2.atI_nat (i := 0) rfl | (unfold atI ixN; rfl) | simp [atI, ixN]) ?_
    walk_at "go"
    refine r_eqS ?_
    walk_at "go"
    have ep : ((⟨#[c7]⟩ : Str) = "+") ↔ (tl z).take 1 = [43] := by
      have e1 : ("+" : Str) = ⟨[43].toArray⟩ := by decide +kernel
      rw [e1, str_iff, er7]
      exact Iff.rfl
    refine iteD (fun c8 => ?_) (fun c8 => ?_)
    · rw [if_pos (ep.mp c8)] at kk
      walk_at "go"
      exact r_intS hval (by omega) kk
    · rw [if_neg fun h => c8 (ep.mpr h)] at kk
      walk_at "go"
      refine r_intS hval (by omega) ?_
      walk_at "go"
      exact kk
theorem log_ok {k : Int} (h : k.natAbs < 10 ^ 30) : ((k.natAbs : Nat) : Int).natAbs.log2 < 1920 := by
  rw [Int.natAbs_natCast]
  have h2 : k.natAbs < 2 ^ 100 := Nat.lt_of_lt_of_le h (by decide)
  have := PySem.Flt.log2_lt_of (show 0 < 100 by decide) h2
  omega
def spWord : Sp := fun vs H Q _ => ∃ k : Int, vs = [.int k] ∧ k.natAbs < 10 ^ 30 ∧ ∀ H', Same H H' → Q (.str (wordS k)) H'
theorem spWord_i {k : Int} {H : Hp} {Q : VK} {E : XK} (h : k.natAbs < 10 ^ 30) (q : ∀ H', Same H H' → Q (.str (wordS k)) H') : spWord [.int k] H Q E := ⟨k, rfl, h, q⟩
theorem ok_word_of (B : Bl mg) (F : FunAt K mg "word_of" s_word_of) : Has P w K mg base CX0 1 "word_of" spWord := by
  refine F.ok sc_word_of bo_word_of (fun vs H Q E h => ?_) (fun f cdv A outer s H vs Q E hr h => ?_)
  · obtain ⟨k, rfl, _⟩ := h
    rfl
  · obtain ⟨k, rfl, h30, q⟩ := h
    refine ⟨_, (pss_one (ps_ret (pe_ifExp (pt_cmpR (kop_eq (K := K) rfl hr.units) (pv 0) pe_int (nomark _)) pe_str (pe_op (kop_add (K := K) rfl) (pe_ix (kix (K := K) rfl) (pe_lst (pa_cons pe_str (pa_cons pe_str pa_nil))) (pe_callTy call_intA rfl B.int (by decide +kernel) (pa_cons (pe_cmpR op_gt (pv 0) pe_int (nomark _)) pa_nil)) (fun _ _ => rfl)) (pe_callTy kc_str rfl B.str (by decide +kernel) (pa_cons (pe_callB call_absA rfl B.abs (by decide +kernel) (pa_cons (pv 0) pa_nil)) pa_nil)))))), ?_⟩
    refine r_start (σ' := [some (.int k)]) rfl ?_
    walk_at "go"
    refine iteD (fun c => ?_) (fun c => ?_)
    · walk_at "go"
      have e : ("0" : Str) = wordS k := by
        refine ext_tl ?_
        rw [tl_word, wordL, if_pos c]
        decide +kernel
      rw [e]
      exact q H (Same.refl H)
    · walk_at "go"
      intro l nl
      walk_at "go"
      refine r_ix (v := .str (if 0 < k then "+" else "-")) (.inl (SqL.of upd_same)) ?_ ?_
      · by_cases p : 0 < k
        · rw [if_pos p, decide_eq_true p]
          rfl
        · rw [if_neg p, decide_eq_false p]
          rfl
      walk_at "go"
      refine r_strI (log_ok h30) ?_
      have e1 : tl (Str.ofString (toString ((k.natAbs : Nat) : Int))) = numL k.natAbs := tl_num _
      have l30 : (numL k.natAbs).length ≤ 30 := numL_len (by decide) h30
      have e2 : tl ((if 0 < k then "+" else "-" : Str)) = [if 0 < k then 43 else 45] := by
        by_cases p : 0 < k
        · rw [if_pos p, if_pos p]
          decide +kernel
        · rw [if_neg p, if_neg p]
          decide +kernel
      refine r_addS ?_ ?_
      · rw [len_tl, len_tl, e1, e2]
        have : 31 < sizeLine := small1000 (by decide)
        show 1 + _ ≤ _
        omega
      · have e : ((if 0 < k then "+" else "-" : Str)) ++ Str.ofString (toString ((k.natAbs : Nat) : Int)) = wordS k := by
          refine ext_tl ?_
          rw [tl_append, e1, e2, tl_word, wordL, if_neg c]
          rfl
        show Q (.str ((if 0 < k then "+" else "-" : Str) ++ Str.ofString (toString ((k.natAbs : Nat) : Int)))) _
        rw [e]
        exact q _ (same_new nl)
def spWritten (K : PySem.W.Frag) : Sp := fun vs H Q _ => ∃ (l : Addr) (ms : List Int), vs = [.ref l] ∧ SqL K H l (ms.map V.int) ∧ ms.length ≤ 100 ∧ (∀ m ∈ ms, m.natAbs < 10 ^ 30) ∧ ∀ H', Same H H' → Q (.str (textS ms)) H'
theorem spWritten_i {l : Addr} {ms : List Int} {H : Hp} {Q : VK} {E : XK} (hl : SqL K H l (ms.map V.int)) (h : ms.length ≤ 100) (hm : ∀ m ∈ ms, m.natAbs < 10 ^ 30) (k : ∀ H', Same H H' → Q (.str (textS ms)) H') : spWritten K [.ref l] H Q E := ⟨l, ms, rfl, hl, h, hm, k⟩
theorem ok_written (B : Bl mg) (F : FunAt K mg "written" s_written) (H_need_moves : Has P w K mg base CX0 1 "need_moves" (spNM K)) (H_word_of : Has P w K mg base CX0 1 "word_of" spWord) : Has P w K mg base CX0 2 "written" (spWritten K) := by
  refine F.ok sc_written bo_written (fun vs H Q E h => ?_) (fun f cdv A outer s H vs Q E hr h => ?_)
  · obtain ⟨l, ms, rfl, _⟩ := h
    rfl
  · obtain ⟨l, ms, rfl, hl, hm, hb, k⟩ := h
    refine ⟨_, (pss_cons (ps_expr (pe_has H_need_moves hr (by omega) rfl pass0 (pa_cons (pv 0) pa_nil)))
 (pss_one (ps_ret (kpe_join (K := K) rfl pe_str (pe_lc (own := [("steps", 1)]) (g := (gName 1)) rfl sc_written.nd (kpi_list (K := K) rfl (pv 0)) (blkOk_by (N := ["moves", "steps"]) (sc := defScope s_written) (own := [("steps", 1)]) (by decide +kernel)) (fun _ _ _ _ _ => (pg_name (i := 1) sc_written.nd rfl (by first | exact Or.inl rfl | exact Or.inr rfl))) (fun _ _ _ _ _ => pts_nil) (fun _ _ _ _ _ => (pe_has H_word_of hr (by omega) rfl pass0 (pa_cons (pv 1) pa_nil)))))))), ?_⟩
    refine r_start (σ' := [some (.ref l), none]) rfl ?_
    walk_at "go"
    refine spNM_i hl hm ?_
    walk_at "go"
    refine r_m1 ?_
    walk_at "go"
    refine ⟨⟨_, rfl⟩, ?_⟩
    walk_at "go"
    refine ⟨_, rfl, ⟨_, hl⟩, fun D nD => lcw_list (K := K) (a := l) (xs := ms.map V.int) (σw := [some (.ref l), none])
      (fun i H8 => Same H H8 ∧ H8 D = some (.lst (((ms.take i).map wordS).map V.str))) rfl ⟨same_new nD, upd_same⟩ (fun i H8 _ h => h.1.seq hl) (fun i y H8 hi h => ?_) fun H8 h => ?_⟩
    · obtain ⟨h8, hD⟩ := h
      obtain ⟨m, hmm, rfl⟩ := map_at hi
      walk_at "go"
      refine ⟨rfl, ?_⟩
      walk_at "go"
      refine iteT ?_
      walk_at "go"
      refine spWord_i (hb m (List.mem_of_getElem? hmm)) fun H9 h9 => ?_
      refine ⟨_, h9 _ _ hD, by rw [List.length_map, List.length_map, List.length_take]; exact small1000 (by omega), fun b o e => at_wr (ne_of_none e nD) (h9 _ _ (h8 _ _ e)), ?_⟩
      rw [upd_same, take_snoc hmm]
      simp
    · obtain ⟨h8, hD⟩ := h
      rw [List.length_map, List.take_length] at hD
      have sum_le : ∀ ls : List Int, (∀ m ∈ ls, m.natAbs < 10 ^ 30) → ((ls.map wordS).map (·.length)).sum ≤ ls.length * 31 := by
        intro ls
        induction ls with
        | nil => intro _; exact Nat.zero_le _
        | cons a r ih =>
          intro h
          have x := word_len (h a List.mem_cons_self)
          have y := ih fun m hm => h m (List.mem_cons_of_mem _ hm)
          rw [List.map_cons, List.map_cons, List.sum_cons, List.length_cons, Nat.succ_mul]
          omega
      have sl := sum_le ms hb
      refine r_join (SqL.of hD) ?_ ?_
      · rw [List.length_map]
        have : (" " : Str).length = 1 := by decide +kernel
        rw [this]
        omega
      · have e : (" " : Str) = ⟨#[32]⟩ := by decide +kernel
        rw [e]
        exact k H8 h8
def spRead (K : PySem.W.Frag) : Sp := fun vs H Q _ => ∃ (ms : List Int), vs = [.str (textS ms)] ∧ ms.length ≤ 100 ∧ (∀ m ∈ ms, m.natAbs < 10 ^ 30) ∧ ∀ (q : Addr) (H' : Hp), H q = none → Same H H' → H' q = some (.lst (ms.map V.int)) → Q (.ref q) H'
theorem spRead_i {ms : List Int} {H : Hp} {Q : VK} {E : XK} (h : ms.length ≤ 100) (hm : ∀ m ∈ ms, m.natAbs < 10 ^ 30) (k : ∀ (q : Addr) (H' : Hp), H q = none → Same H H' → H' q = some (.lst (ms.map V.int)) → Q (.ref q) H') : spRead K [.str (textS ms)] H Q E := ⟨ms, rfl, h, hm, k⟩
theorem word_ascii (k : Int) : ∀ c ∈ wordL k, c < 128 := by
  unfold wordL
  split
  · intro c h
    rw [List.mem_singleton.mp h]
    decide
  · intro c h
    rcases List.mem_cons.mp h with e | e
    · split at e <;> omega
    · have := numL_digits _ c e
      omega
theorem ok_read_moves (B : Bl mg) (F : FunAt K mg "read_moves" s_read_moves) (H_need_moves : Has P w K mg base CX0 1 "need_moves" (spNM K)) (H_steps_of : Has P w K mg base CX0 1 "steps_of" spStepsOf) : Has P w K mg base CX0 2 "read_moves" (spRead K) := by
  refine F.ok sc_read_moves bo_read_moves (fun vs H Q E h => ?_) (fun f cdv A outer s H vs Q E hr h => ?_)
  · obtain ⟨ms, rfl, _⟩ := h
    rfl
  · obtain ⟨ms, rfl, hm, hb, k⟩ := h
    have tlen := text_len hb
    have tsz : (textS ms).length + 2 ≤ sizeLine := by
      rw [PySem.sizeLine_eq]
      omega
    refine ⟨_, (pss_cons (ps_set (i := 1) sc_read_moves.nd rfl (by first | exact Or.inl rfl | exact Or.inr rfl) (pe_lst pa_nil))
 (pss_cons (ps_for PassesOwn.never rfl (kpi_enum (K := K) rfl rfl B.enumerate (pa_cons (pe_mid (pe_ifExp (pt_cmpR (kop_ne (K := K) rfl hr.units) (pv 0) pe_str (nomark _)) (kpe_split (pv 0) pe_str) (pe_lst pa_nil))) pa_nil)) (kpg_tup (K := K) rfl rfl (pgs_cons (pg_name (i := 2) sc_read_moves.nd rfl (by first | exact Or.inl rfl | exact Or.inr rfl)) (pgs_cons (pg_name (i := 3) sc_read_moves.nd rfl (by first | exact Or.inl rfl | exact Or.inr rfl)) pgs_nil))) (pss_cons (ps_set (i := 4) sc_read_moves.nd rfl (by first | exact Or.inl rfl | exact Or.inr rfl) (pe_has H_steps_of hr (by omega) rfl pass0 (pa_cons (pv 3) pa_nil)))
 (pss_cons (ps_if (pt_cmpR op_isN (pv 4) pe_non (nomark _)) (pss_one ps_never) pss_nil)
 (pss_one (ps_expr (kpe_bm (K := K) rfl PySem.F.plainAttrs_list PySem.F.slot_list_append PySem.F.type_list_append mt_append (pv 1) (pa_cons (pv 4) pa_nil)))))))
 (pss_cons (ps_expr (pe_has H_need_moves hr (by omega) rfl pass0 (pa_cons (pv 1) pa_nil)))
 (pss_one (ps_ret (pv 1)))))), ?_⟩
    refine r_start (σ' := [some (.str (textS ms)), none, none, none, none]) rfl ?_
    walk_at "go"
    intro fd nfd
    walk_at "go"
    have hfd : upd H fd (.lst []) fd = some (.lst []) := upd_same
    have s0 : Same H (upd H fd (.lst [])) := same_new nfd
    generalize upd H fd (.lst []) = H0 at s0 hfd ⊢
    refine r_mid (fun v H' => ∃ wl, v = .ref wl ∧ Same H0 H' ∧ H' wl = some (.lst ((ms.map wordS).map V.str)) ∧ wl ≠ fd) ?_ ?_
    · walk_at "go"
      refine r_neS ?_
      walk_at "go"
      have ee : ("" : Str) = ⟨#[]⟩ := by decide +kernel
      refine iteN (fun c => ?_) (fun c => ?_)
      · have hne : ms ≠ [] := fun e => c (by rw [e, textS_nil, ee])
        walk_at "go"
        refine r_m1 ?_
        walk_at "go"
        refine ⟨⟨_, rfl⟩, ?_⟩
        walk_at "go"
        refine r_split (by decide +kernel) tsz fun wl nwl => ?_
        have e : (" " : Str) = ⟨#[32]⟩ := by decide +kernel
        rw [e, split_text hne]
        exact ⟨wl, rfl, same_new nwl, upd_same, (ne_of_none hfd nwl).symm⟩
      · have hnil : ms = [] := by
          cases ms with
          | nil => rfl
          | cons a r => exact absurd (c.trans ee) (text_ne (List.cons_ne_nil a r))
        subst hnil
        walk_at "go"
        intro wl nwl
        exact ⟨wl, rfl, same_new nwl, upd_same, (ne_of_none hfd nwl).symm⟩
    · rintro _ H1 ⟨wl, rfl, h1, hwl, wfd⟩
      walk_at "go"
      refine ⟨wl, _, rfl, SqL.of hwl, fw_enum (K := K) (a := wl) (xs := (ms.map wordS).map V.str) (fun i σ H2 => ∃ v2 v3 v4, σ = [some (.str (textS ms)), some (.ref fd), v2, v3, v4] ∧ Same H H2 ∧ H2 wl = some (.lst ((ms.map wordS).map V.str)) ∧ H2 fd = some (.lst ((ms.take i).map V.int)))
        ⟨_, _, _, rfl, s0.trans h1, hwl, h1 _ _ hfd⟩ (fun i σ H2 _ h => ?_) ?_ ?_⟩
      · obtain ⟨_, _, _, _, _, h, _⟩ := h
        exact SqL.of h
      · rintro i y σ H2 T hi ⟨v2, v3, v4, rfl, s2, hwl2, hfd2⟩ nT
        obtain ⟨z, hz, rfl⟩ := map_at hi
        rw [List.getElem?_map] at hz
        obtain ⟨m, hmm, rfl⟩ : ∃ m, ms[i]? = some m ∧ z = wordS m := by
          cases e : ms[i]? with
          | none => rw [e] at hz; cases hz
          | some m => rw [e] at hz; exact ⟨m, rfl, (Option.some.inj hz).symm⟩
        have h30 := hb m (List.mem_of_getElem? hmm)
        have wl31 := word_len h30
        have s3 : Same H2 (upd H2 T (.tup [.int (i : Nat), .str (wordS m)])) := same_new nT
        have hT : upd H2 T (.tup [.int (i : Nat), .str (wordS m)]) T = some (.tup [.int (i : Nat), .str (wordS m)]) := upd_same
        generalize upd H2 T (.tup [.int (i : Nat), .str (wordS m)]) = H3 at s3 hT ⊢
        walk_at "go"
        refine spStepsOf_i (by have : 31 < sizeLine := small1000 (by decide); omega) (by rw [tl_word]; exact word_ascii m) fun H4 h4 => ?_
        rw [tl_word, stepsL_word h30]
        show gName _ (.int m) _ _ _
        walk_at "go"
        refine ⟨rfl, ?_⟩
        walk_at "go"
        refine iteDF (fun e => nomatch e) ?_
        walk_at "go"
        have s24 := s3.trans h4
        have hil : i < ms.length := (List.getElem?_eq_some_iff.mp hmm).1
        refine ⟨r_tyL (s24 _ _ hfd2), ?_⟩
        walk_at "go"
        refine r_appA (s24 _ _ hfd2) (by rw [List.length_map, List.length_take]; exact small1000 (by omega)) fun H5 e5 w5 => ?_
        walk_at "go"
        exact ⟨_, _, _, rfl, fun b o e => w5 _ _ (ne_of_none e nfd) (s24 _ _ (s2 _ _ e)), w5 _ _ wfd (s24 _ _ hwl2), by rw [e5, take_snoc hmm]; simp⟩
      · rintro σ H2 ⟨v2, v3, v4, rfl, s2, hwl2, hfd2⟩
        rw [List.length_map, List.length_map, List.take_length] at hfd2
        walk_at "go"
        refine spNM_i (SqL.of hfd2) hm ?_
        walk_at "go"
        exact k fd H2 nfd s2 hfd2
end
end Rd

namespace Rd
open PySem L2
/-! ## marks, plain -/
/-- marks of a round -/
structure Marks (r : Int) (ms : List Int) : Prop where
  few : ms.length ≤ 12
  some_ : 0 < ms.length
  rise : ms.Pairwise (· < ·)
  in_ : ∀ m ∈ ms, 0 ≤ m ∧ m < r
theorem rise_one {a b : List Int} (ha : a.Pairwise (· < ·)) (hb : b.Pairwise (· < ·)) (h : ∀ i, i ∈ a ↔ i ∈ b) : a = b := by
  have na : a.Nodup := ha.imp fun h e => by omega
  have nb : b.Nodup := hb.imp fun h e => by omega
  exact List.Perm.eq_of_pairwise (le := (· ≤ ·)) (fun x y _ _ h1 h2 => Int.le_antisymm h1 h2) (ha.imp fun h => Int.le_of_lt h) (hb.imp fun h => Int.le_of_lt h) ((List.perm_ext_iff_of_nodup na nb).mpr h)
/-- the number of the least size by which the shaft would be at a mark -/
def offT (r s m : Int) : Int := (0 - (r - 1) / 2) + (m - s - (0 - (r - 1) / 2)) % r
section
variable {P : Program} {w : World} {K : PySem.W.Frag} {mg : Str → Option Value} {base : Heap}
def spNMk : Sp := fun vs H Q _ => ∃ (g : Addr) (r p : Int) (l : Addr) (ms : List Int), vs = [.ref g, .ref l] ∧ GearAt H g r p ∧ H l = some (.tup (ms.map V.int)) ∧ Marks r ms ∧ ∀ H', Same H H' → Q .non H'
theorem spNMk_i {g l : Addr} {r p : Int} {ms : List Int} {H : Hp} {Q : VK} {E : XK} (G : GearAt H g r p) (hl : H l = some (.tup (ms.map V.int))) (M : Marks r ms) (k : ∀ H', Same H H' → Q .non H') : spNMk [.ref g, .ref l] H Q E := ⟨g, r, p, l, ms, rfl, G, hl, M, k⟩
theorem ok_need_marks (B : Bl mg) (F : FunAt K mg "need_marks" s_need_marks) (M_MOST_MARKS : Cn mg "MOST_MARKS" 12) (H_need_gear : Has P w K mg base CX0 1 "need_gear" spNG) : Has P w K mg base CX0 2 "need_marks" spNMk := by
  refine F.ok sc_need_marks bo_need_marks (fun vs H Q E h => ?_) (fun f cdv A outer s H vs Q E hr h => ?_)
  · obtain ⟨g, r, p, l, ms, rfl, _⟩ := h
    rfl
  · obtain ⟨g, r, p, l, ms, rfl, G, hl, M, k⟩ := h
    have m1 := M.few
    have m2 := M.some_
    refine ⟨_, (pss_cons (ps_expr (pe_has H_need_gear hr (by omega) rfl pass0 (pa_cons (pv 0) pa_nil)))
 (pss_cons (ps_set (i := 2) sc_need_marks.nd rfl (by first | exact Or.inl rfl | exact Or.inr rfl) (pe_and (pe_chain op_le op_le pe_int (pe_callB (kc_len (K := K) rfl) rfl B.len (by decide +kernel) (pa_cons (pv 1) pa_nil)) (pe_cn M_MOST_MARKS rfl)) (pe_one (pe_cmpR (kop_eq (K := K) rfl hr.units) (pe_callB (kc_sortedS (w := w) rfl rfl) rfl B.sorted (by decide +kernel) (pa_cons (pe_callTy (kc_setI (K := K) (w := w) rfl rfl rfl) rfl B.set (by decide +kernel) (pa_cons (pv 1) pa_nil)) pa_nil)) (pe_callTy (kc_list (K := K) rfl) rfl B.list (by decide +kernel) (pa_cons (pv 1) pa_nil)) (nomark _)))))
 (pss_one (ps_if (PW.pt (pw_or (pt_not (pt_val (pv 2))) (pw_or1 (pt_cmpR (kop_ne (K := K) rfl hr.units) (pe_lc (own := [("mark", 3)]) (g := (gName 3)) rfl sc_need_marks.nd (kpi_tup (K := K) rfl (pv 1)) (blkOk_by (N := ["gear", "marks", "good", "mark"]) (sc := defScope s_need_marks) (own := [("mark", 3)]) (by decide +kernel)) (fun _ _ _ _ _ => (pg_name (i := 3) sc_need_marks.nd rfl (by first | exact Or.inl rfl | exact Or.inr rfl))) (fun _ _ _ _ _ => (pts_one (pt_not (pt_chain op_le op_lt pe_int (pv 3) (pe_ix (kix (K := K) rfl) (pv 0) pe_int (fun _ _ => rfl)))))) (fun _ _ _ _ _ => (pv 3))) (pe_lst pa_nil) (nomark _))))) (pss_one ps_never) pss_nil)))), ?_⟩
    refine r_start (σ' := [some (.ref g), some (.ref l), none, none]) rfl ?_
    walk_at "go"
    refine spNG_i G ?_
    walk_at "go"
    rw [List.length_map]
    refine iteDT (by omega) ?_
    walk_at "go"
    refine iteDT (by omega) ?_
    walk_at "go"
    refine r_setI (.inr (SqT.of hl)) (by omega) fun p3 c n3 hc => ?_
    walk_at "go"
    refine r_sortedS (ns := ms) (c := c) upd_same (by omega) fun ms' p4 h1 h2 h3 n4 => ?_
    have e := rise_one h1 M.rise h2
    subst e
    walk_at "go"
    have hl4 := at_new (u := .lst (ms'.map V.int)) n4 (at_new (u := SetO w p3 (fun j => decide (j ∈ ms')) c) n3 hl)
    refine r_listOf (.inr (SqT.of hl4)) fun l5 n5 => ?_
    walk_at "go"
    refine r_eqIs (d := dInts ms') (n := 1) (Is.ints (at_new n5 upd_same)) (Is.ints upd_same) (Fl.ints 0 _) ?_
    have s5 : Same H (upd (upd (upd H p3 (SetO w p3 (fun j => decide (j ∈ ms')) c)) p4 (.lst (ms'.map V.int))) l5 (.lst (ms'.map V.int))) := (same_new n3).trans ((same_new n4).trans (same_new n5))
    generalize upd (upd (upd H p3 (SetO w p3 (fun j => decide (j ∈ ms')) c)) p4 (.lst (ms'.map V.int))) l5 (.lst (ms'.map V.int)) = H5 at s5 ⊢
    walk_at "go"
    refine iteF ?_
    walk_at "go"
    refine r_iTup ?_
    walk_at "go"
    refine ⟨_, rfl, ⟨_, SqT.of (s5 _ _ hl)⟩, fun D nD => lcw_tup (K := K) (a := l) (xs := ms'.map V.int) (σw := [some (.ref g), some (.ref l), some (.bl true), none])
      (fun n H8 => Same H5 H8 ∧ H8 D = some (.lst [])) rfl ⟨same_new nD, upd_same⟩ (fun n H8 _ h => SqT.of (h.1 _ _ (s5 _ _ hl))) (fun n y H8 hn h => ?_) fun H8 h => ?_⟩
    · obtain ⟨h8, hD⟩ := h
      obtain ⟨v, hv, rfl⟩ := map_at hn
      have hb := M.in_ v (List.mem_of_getElem? hv)
      have hg8 := h8 _ _ (s5 _ _ G.at_)
      walk_at "go"
      refine ⟨rfl, ?_⟩
      walk_at "go"
      refine iteDT hb.1 ?_
      walk_at "go"
      refine iteNF hb.2 ?_
      walk_at "go"
      exact ⟨h8, hD⟩
    · obtain ⟨h8, hD⟩ := h
      walk_at "go"
      intro t nt
      refine r_neNil (ns := []) (at_new nt hD) upd_same ?_
      walk_at "go"
      refine iteF ?_
      walk_at "go"
      exact k _ (s5.trans (h8.trans (same_new nt)))
def spMarks (K : PySem.W.Frag) : Sp := fun vs H Q _ => ∃ (st a : Addr) (ns : List Int) (g : Addr) (r p : Int), vs = [.ref st, .ref g] ∧ St H st a ∧ SqL K H a (ns.map V.int) ∧ H g = some (.tup [.int r, .int p]) ∧ 0 < r ∧ r ≤ 1000000 ∧
  ∀ (l : Addr) (ms : List Int) (H' : Hp), Marks r ms → St H' st a → Fr H H' → H' l = some (.tup (ms.map V.int)) → Q (.ref l) H'
theorem spMarks_i {st a g : Addr} {ns : List Int} {r p : Int} {H : Hp} {Q : VK} {E : XK} (s : St H st a) (hS : SqL K H a (ns.map V.int)) (hg : H g = some (.tup [.int r, .int p])) (h0 : 0 < r) (h1 : r ≤ 1000000)
    (k : ∀ (l : Addr) (ms : List Int) (H' : Hp), Marks r ms → St H' st a → Fr H H' → H' l = some (.tup (ms.map V.int)) → Q (.ref l) H') : spMarks K [.ref st, .ref g] H Q E := ⟨st, a, ns, g, r, p, rfl, s, hS, hg, h0, h1, k⟩
theorem ok_law_marks (B : Bl mg) (F : FunAt K mg "_law_marks" s_law_marks) (H_law_drawn : Has P w K mg base CX0 1 "_law_drawn" (spDrawn K)) : Has P w K mg base CX0 2 "_law_marks" (spMarks K) := by
  refine F.ok sc_law_marks bo_law_marks (fun vs H Q E h => ?_) (fun f cdv A outer s H vs Q E hr h => ?_)
  · obtain ⟨st, a, ns, g, r, p, rfl, _⟩ := h
    rfl
  · obtain ⟨st, a, ns, g, r, p, rfl, hs, hS, hg, h0, h1, k⟩ := h
    refine ⟨_, (pss_cons (ps_setLc (i := 2) (own := [("_law_k", 3)]) (g := (gName 3)) rfl sc_law_marks.nd rfl rfl (sw_true rfl rfl rfl (by decide +kernel)) (pi_range1 rfl B.range (pa_cons (pe_op (kop_add (K := K) rfl) pe_int (pe_has H_law_drawn hr (by omega) rfl pass0 (pa_cons (pv 0) (pa_cons (pe_ix (kix (K := K) rfl) (pe_lst (pa_cons pe_int (pa_cons pe_int pa_nil))) (pe_has H_law_drawn hr (by omega) rfl pass0 (pa_cons (pv 0) (pa_cons pe_int pa_nil))) (fun _ _ => rfl)) pa_nil)))) pa_nil)) (blkOk_by (N := ["_law_state", "_law_gear_here", "_law_some", "_law_k"]) (sc := defScope s_law_marks) (own := [("_law_k", 3)]) (by decide +kernel)) (fun _ _ _ _ _ => (pg_name (i := 3) sc_law_marks.nd rfl (by first | exact Or.inl rfl | exact Or.inr rfl))) (fun _ _ _ _ _ => pts_nil) (fun _ _ _ _ _ => (pe_has H_law_drawn hr (by omega) rfl pass0 (pa_cons (pv 0) (pa_cons (pe_ix (kix (K := K) rfl) (pv 1) pe_int (fun _ _ => rfl)) pa_nil)))))
 (pss_one (ps_ret (pe_callTy (kc_tup (K := K) rfl) rfl B.tuple (by decide +kernel) (pa_cons (pe_callB (kc_sortedS (w := w) rfl rfl) rfl B.sorted (by decide +kernel) (pa_cons (pe_callTy (kc_setI (K := K) (w := w) rfl rfl rfl) rfl B.set (by decide +kernel) (pa_cons (pv 2) pa_nil)) pa_nil)) pa_nil))))), ?_⟩
    refine r_start (σ' := [some (.ref st), some (.ref g), none, none]) rfl ?_
    walk_at "go"
    intro t1 n1
    walk_at "go"
    refine spDrawn_i (by walk_at "ss") (by walk_at "sq") (by omega) (by decide) fun v2 H2 a2 b2 s2 R2 => ?_
    obtain ⟨mo, e2, m2⟩ := pick2 3 12 a2 (by omega)
    refine r_ix (by walk_at "sq") e2 ?_
    walk_at "go"
    refine spDrawn_i s2 (by walk_at "sq") (by omega) (small200 (by omega) (by omega)) fun n3 H3 a3 b3 s3 R3 => ?_
    have R03 : Fr H H3 := by walk_at "fr"
    have hS3 := fr_sq R03 hS
    have hg3 := R03 _ _ hg nst_tup
    walk_at "go"
    refine ⟨_, rfl, by omega, by omega, fun D nD => lcw_range (σw := [some (.ref st), some (.ref g), none, none])
      (fun j H7 => ∃ gs : List Int, gs.length = j ∧ (∀ y ∈ gs, 0 ≤ y ∧ y < r) ∧ St H7 st a ∧ Fr H3 H7 ∧ H7 D = some (.lst (gs.map V.int))) rfl ⟨[], rfl, by simp, s3.new nD, fr_new nD (Fr.refl _), upd_same⟩ (fun j H7 hj h => ?_) fun H7 h => ?_⟩
    · obtain ⟨gs, hgl, hgb, s7, R7, hD⟩ := h
      have hS7 := fr_sq R7 hS3
      walk_at "go"
      refine ⟨rfl, ?_⟩
      walk_at "go"
      refine iteT ?_
      walk_at "go"
      refine spDrawn_i s7 hS7 (by omega) (small200 (by omega) (by omega)) fun v8 H8 a8 b8 s8 R8 => ?_
      have hD8 := R8 _ _ hD nst_ints
      refine ⟨_, hD8, by rw [List.length_map]; exact small1000 (by omega), gs ++ [v8], by simp [hgl], fun y hy => ?_, s8.wr hD8 nst_ints, fun b o e n => at_wr (ne_of_none e nD) (R8 _ _ (R7 _ _ e n) n), by rw [upd_same]; simp⟩
      rcases List.mem_append.mp hy with hy | hy
      · exact hgb y hy
      · rw [List.mem_singleton.mp hy]
        exact ⟨a8, b8⟩
    obtain ⟨gs, hgl, hgb, s7, R7, hD⟩ := h
    walk_at "go"
    refine r_setI (.inl (SqL.of hD)) (by omega) fun p8 c n8 hc => ?_
    walk_at "go"
    refine r_sortedS (ns := gs) (c := c) upd_same (by omega) fun ms p9 h1' h2' h3' n9 => ?_
    walk_at "go"
    refine r_tupL (SqL.of upd_same) fun l n10 => ?_
    walk_at "go"
    have R8 : Fr H (upd H7 p8 (SetO w p8 (fun j => decide (j ∈ gs)) c)) := (R03.trans R7).same (same_new n8)
    have s8 := s7.new (u := SetO w p8 (fun j => decide (j ∈ gs)) c) n8
    refine k l ms _ ⟨by omega, ?_, h1', fun m hm => hgb m ((h2' m).mp hm)⟩ ((s8.new n9).new n10) ((R8.same (same_new n9)).same (same_new n10)) upd_same
    obtain ⟨y, hy⟩ := List.exists_mem_of_length_pos (show 0 < gs.length by omega)
    exact List.length_pos_of_mem ((h2' y).mpr hy)
/-- the ways between marks, the last one over the round's end -/
def gaps (r : Int) (ms : List Int) : List Int := ((List.range (ms.length - 1)).map fun k => ms.getD (k + 1) 0 - ms.getD k 0) ++ [ms.getD 0 0 - ms.getD (ms.length - 1) 0 + r]
def Least (r : Int) (ms : List Int) (d : Int) : Prop := d ∈ gaps r ms ∧ ∀ y ∈ gaps r ms, d ≤ y
theorem Least.one {r : Int} {ms : List Int} {d e : Int} (a : Least r ms d) (b : Least r ms e) : d = e := Int.le_antisymm (a.2 e b.1) (b.2 d a.1)
/-- the k-th of sure's ways -/
def way (r : Int) (ms : List Int) (k : Nat) : Int := (ms.getD k 0 - (if k = 0 then ms.getD (ms.length - 1) 0 else ms.getD (k - 1) 0)) % r
theorem Marks.lt {r : Int} {ms : List Int} (M : Marks r ms) {i j : Nat} (h : i < j) (hj : j < ms.length) : ms.getD i 0 < ms.getD j 0 := by
  rw [List.getD_eq_getElem?_getD, List.getD_eq_getElem?_getD, List.getElem?_eq_getElem (show i < ms.length by omega), List.getElem?_eq_getElem hj]
  exact List.pairwise_iff_getElem.mp M.rise i j (by omega) hj h
theorem Marks.bnd {r : Int} {ms : List Int} (M : Marks r ms) {i : Nat} (h : i < ms.length) : 0 ≤ ms.getD i 0 ∧ ms.getD i 0 < r := by
  rw [List.getD_eq_getElem?_getD, List.getElem?_eq_getElem h]
  exact M.in_ _ (List.getElem_mem h)
theorem way_gap {r : Int} {ms : List Int} (M : Marks r ms) (h2 : 1 < ms.length) {k : Nat} (hk : k < ms.length) : way r ms k = if k = 0 then ms.getD 0 0 - ms.getD (ms.length - 1) 0 + r else ms.getD k 0 - ms.getD (k - 1) 0 := by
  unfold way
  have b := M.bnd hk
  split
  · rename_i c
    subst c
    have l := M.lt (show 0 < ms.length - 1 by omega) (show ms.length - 1 < ms.length by omega)
    have b2 := M.bnd (show ms.length - 1 < ms.length by omega)
    rw [← Int.add_emod_right]
    exact Int.emod_eq_of_lt (by omega) (by omega)
  · have l := M.lt (show k - 1 < k by omega) hk
    have b2 := M.bnd (show k - 1 < ms.length by omega)
    exact Int.emod_eq_of_lt (by omega) (by omega)
theorem least_ways {r : Int} {ms : List Int} (M : Marks r ms) (h2 : 1 < ms.length) {d : Int} (hm : d ∈ (List.range ms.length).map (way r ms)) (hl : ∀ y ∈ (List.range ms.length).map (way r ms), d ≤ y) : Least r ms d := by
  have sub : ∀ y, y ∈ gaps r ms ↔ y ∈ (List.range ms.length).map (way r ms) := by
    intro y
    unfold gaps
    rw [List.mem_append, List.mem_map, List.mem_map, List.mem_singleton]
    constructor
    · rintro (⟨k, hk, rfl⟩ | rfl)
      · rw [List.mem_range] at hk
        exact ⟨k + 1, List.mem_range.mpr (by omega), by rw [way_gap M h2 (by omega), if_neg (by omega), Nat.add_sub_cancel]⟩
      · exact ⟨0, List.mem_range.mpr (by omega), by rw [way_gap M h2 (by omega), if_pos rfl]⟩
    · rintro ⟨k, hk, rfl⟩
      rw [List.mem_range] at hk
      rw [way_gap M h2 hk]
      split
      · exact .inr rfl
      · rename_i c
        exact .inl ⟨k - 1, List.mem_range.mpr (by omega), by rw [show k - 1 + 1 = k by omega]⟩
  exact ⟨(sub d).mpr hm, fun y hy => hl y ((sub y).mp hy)⟩
theorem least_alone {r : Int} {ms : List Int} (h : ms.length = 1) : Least r ms r := by
  have e : gaps r ms = [r] := by
    unfold gaps
    rw [h]
    show ([] ++ [ms.getD 0 0 - ms.getD 0 0 + r]) = [r]
    rw [List.nil_append, Int.sub_self, Int.zero_add]
  exact ⟨by rw [e]; exact List.mem_singleton.mpr rfl, fun y hy => by rw [e] at hy; rw [List.mem_singleton.mp hy]; exact Int.le_refl _⟩
def spSure : Sp := fun vs H Q _ => ∃ (g : Addr) (r p : Int) (l : Addr) (ms : List Int), vs = [.ref g, .ref l] ∧ GearAt H g r p ∧ H l = some (.tup (ms.map V.int)) ∧ Marks r ms ∧
  ∀ (t : Addr) (d : Int) (H' : Hp), Least r ms d → Same H H' → H t = none → H' t = some (.tup [.int ((r - 1) / 2), .int ((d - 1) / 2)]) → Q (.ref t) H'
theorem spSure_i {g l : Addr} {r p : Int} {ms : List Int} {H : Hp} {Q : VK} {E : XK} (G : GearAt H g r p) (hl : H l = some (.tup (ms.map V.int))) (M : Marks r ms)
    (k : ∀ (t : Addr) (d : Int) (H' : Hp), Least r ms d → Same H H' → H t = none → H' t = some (.tup [.int ((r - 1) / 2), .int ((d - 1) / 2)]) → Q (.ref t) H') : spSure [.ref g, .ref l] H Q E := ⟨g, r, p, l, ms, rfl, G, hl, M, k⟩
theorem at_getD {ms : List Int} {k : Nat} (h : k < ms.length) : (ms.map V.int)[k]? = some (.int (ms.getD k 0)) := by
  rw [List.getElem?_map, List.getElem?_eq_getElem h, List.getD_eq_getElem?_getD, List.getElem?_eq_getElem h]
  rfl
theorem ok_sure (B : Bl mg) (F : FunAt K mg "sure" s_sure) (H_need_marks : Has P w K mg base CX0 2 "need_marks" spNMk) : Has P w K mg base CX0 3 "sure" spSure := by
  refine F.ok sc_sure bo_sure (fun vs H Q E h => ?_) (fun f cdv A outer s H vs Q E hr h => ?_)
  · obtain ⟨g, r, p, l, ms, rfl, _⟩ := h
    rfl
  · obtain ⟨g, r, p, l, ms, rfl, G, hl, M, k⟩ := h
    have m1 := M.few
    have m2 := M.some_
    have r2 := G.r2
    refine ⟨_, (pss_cons (ps_expr (pe_has H_need_marks hr (by omega) rfl pass0 (pa_cons (pv 0) (pa_cons (pv 1) pa_nil))))
 (pss_cons (ps_set (i := 2) sc_sure.nd rfl (by first | exact Or.inl rfl | exact Or.inr rfl) (pe_ix (kix (K := K) rfl) (pv 0) pe_int (fun _ _ => rfl)))
 (pss_cons (ps_setLc (i := 3) (own := [("k", 5)]) (g := (gName 5)) rfl sc_sure.nd rfl rfl (sw_true rfl rfl rfl (by decide +kernel)) (pi_range1 rfl B.range (pa_cons (pe_callB (kc_len (K := K) rfl) rfl B.len (by decide +kernel) (pa_cons (pv 1) pa_nil)) pa_nil)) (blkOk_by (N := ["gear", "marks", "around", "ways", "least", "k"]) (sc := defScope s_sure) (own := [("k", 5)]) (by decide +kernel)) (fun _ _ _ _ _ => (pg_name (i := 5) sc_sure.nd rfl (by first | exact Or.inl rfl | exact Or.inr rfl))) (fun _ _ _ _ _ => pts_nil) (fun _ _ _ _ _ => (pe_op op_mod (pe_op op_sub (pe_ix (kix (K := K) rfl) (pv 1) (pv 5) (fun _ _ => rfl)) (pe_ix (kix (K := K) rfl) (pv 1) (pe_op op_sub (pv 5) pe_int) (fun _ _ => rfl))) (pv 2))))
 (pss_cons (ps_set (i := 4) sc_sure.nd rfl (by first | exact Or.inl rfl | exact Or.inr rfl) (pe_mid (pe_ifExp (pt_cmpR op_gt (pe_callB (kc_len (K := K) rfl) rfl B.len (by decide +kernel) (pa_cons (pv 1) pa_nil)) pe_int (nomark _)) (pe_callB (kc_min (K := K) rfl rfl) rfl B.min (by decide +kernel) (pa_cons (pv 3) pa_nil)) (pv 2))))
 (pss_one (ps_ret (pe_tup (pa_cons (pe_op op_fdivW (pe_op op_sub (pv 2) pe_int) pe_int) (pa_cons (pe_op op_fdivW (pe_op op_sub (pv 4) pe_int) pe_int) pa_nil))))))))), ?_⟩
    refine r_start (σ' := [some (.ref g), some (.ref l), none, none, none, none]) rfl ?_
    walk_at "go"
    refine spNMk_i G hl M fun H2 h2 => ?_
    have hg2 := h2 _ _ G.at_
    have hl2 := h2 _ _ hl
    walk_at "go"
    rw [List.length_map]
    refine ⟨_, rfl, by omega, by omega, fun D nD => lcw_range (σw := [some (.ref g), some (.ref l), some (.int r), none, none, none])
      (fun j H7 => Same H2 H7 ∧ H7 D = some (.lst (((List.range j).map (way r ms)).map V.int))) rfl ⟨same_new nD, upd_same⟩ (fun j H7 hj h => ?_) fun H7 h => ?_⟩
    · obtain ⟨h7, hD⟩ := h
      have hl7 := h7 _ _ hl2
      have hjl : j < ms.length := by omega
      walk_at "go"
      refine ⟨rfl, ?_⟩
      walk_at "go"
      refine iteT ?_
      walk_at "go"
      refine r_ix (v := .int (ms.getD j 0)) (.inr (SqT.of hl7)) (at_of (j := j) (by omega) (at_getD hjl)) ?_
      walk_at "go"
      refine r_ix (v := .int (if j = 0 then ms.getD (ms.length - 1) 0 else ms.getD (j - 1) 0)) (.inr (SqT.of hl7)) ?_ ?_
      · by_cases c : j = 0
        · subst c
          rw [if_pos rfl]
          have := at_neg1 (xs := ms.map V.int) (n := ms.length - 1) (v := .int (ms.getD (ms.length - 1) 0)) (by rw [List.length_map]; omega) (at_getD (by omega))
          exact this
        · rw [if_neg c]
          exact at_of (j := j - 1) (by omega) (at_getD (by omega))
      walk_at "go"
      refine r_I (show 0 < r by omega) ?_
      refine ⟨_, hD, by rw [List.length_map, List.length_map, List.length_range]; exact small1000 (by omega), fun b o e => at_wr (ne_of_none e nD) (h7 _ _ e), ?_⟩
      rw [upd_same, List.range_succ, List.map_append, List.map_append]
      rfl
    obtain ⟨h7, hD⟩ := h
    have e1 : ((ms.length : Nat) : Int).toNat = ms.length := by omega
    rw [e1] at hD
    have hl7 := h7 _ _ hl2
    walk_at "go"
    refine r_mid (fun v H' => H' = H7 ∧ ∃ d, v = .int d ∧ Least r ms d) ?_ ?_
    · walk_at "go"
      rw [List.length_map]
      refine iteD (fun c => ?_) (fun c => ?_)
      · walk_at "go"
        refine r_minL (SqL.of hD) (by rw [List.length_map, List.length_range]; omega) fun d d1 d2 => ?_
        exact ⟨rfl, d, rfl, least_ways M (by omega) d1 d2⟩
      · walk_at "go"
        exact ⟨rfl, r, rfl, least_alone (by omega)⟩
    · rintro _ _ ⟨rfl, d, rfl, hd⟩
      walk_at "go"
      refine r_I ⟨by decide, by decide +kernel⟩ ?_
      walk_at "go"
      refine r_I ⟨by decide, by decide +kernel⟩ ?_
      walk_at "go"
      intro t nt
      walk_at "go"
      have s7 := h2.trans h7
      exact k t d _ hd (s7.trans (same_new nt)) (s7.free nt) upd_same
end
end Rd

namespace Rd
open PySem L2 LamX TL
/-- what stands in an answer's list -/
inductive El (H : Hp) : V → PyData → Prop
  | int (i : Int) : El H (.int i) (.int i)
  | non : El H .non .none
  | str {z : Str} (h : PyData.strOk z = true) : El H (.str z) (.str z)
  | pr {a : Addr} {x : Int × Int} (h : H a = some (.tup [.int x.1, .int x.2])) : El H (.ref a) (dPair x)
  | tri {a : Addr} {i j k : Int} (h : H a = some (.tup [.int i, .int j, .int k])) : El H (.ref a) (.tuple [.int i, .int j, .int k])
  | lis {a : Addr} {ns : List Int} (h : H a = some (.lst (ns.map V.int))) : El H (.ref a) (dInts ns)
theorem El.is {H : Hp} {v : V} {d : PyData} (h : El H v d) : Is H v d := by
  cases h with
  | int i => exact .int i
  | non => exact .non
  | str h => exact .str _
  | pr h => exact Is.pair h
  | tri h => exact .tup h (.cons (.int _) (.cons (.int _) (.cons (.int _) .nil)))
  | lis h => exact Is.ints h
theorem El.fl {H : Hp} {v : V} {d : PyData} (h : El H v d) : Fl 1 d := by
  cases h with
  | int i => exact Fl.int _ _
  | non => exact Fl.non _
  | str h => exact Fl.str _ h
  | pr h => exact Fl.pair 0 _
  | tri h =>
    exact Fl.tuple fun d hd => by
      simp at hd
      rcases hd with rfl | rfl | rfl <;> exact Fl.int _ _
  | lis h => exact Fl.ints 0 _
theorem El.frn {H H' : Hp} (R : FrN H H') {v : V} {d : PyData} (h : El H v d) : El H' v d := by
  cases h with
  | int i => exact .int i
  | non => exact .non
  | str h => exact .str h
  | pr h => exact .pr (R.tup h)
  | tri h => exact .tri (R.tup h)
  | lis h => exact .lis (R.ints h)
def Els (H : Hp) (xs : List V) (ds : List PyData) : Prop := xs.length = ds.length ∧ ∀ (i : Nat) (v : V) (d : PyData), xs[i]? = some v → ds[i]? = some d → El H v d
theorem Els.nil {H : Hp} : Els H [] [] := ⟨rfl, fun i v d h => by simp at h⟩
theorem Els.frn {H H' : Hp} (R : FrN H H') {xs : List V} {ds : List PyData} (h : Els H xs ds) : Els H' xs ds := ⟨h.1, fun i v d h1 h2 => (h.2 i v d h1 h2).frn R⟩
theorem Els.cons {H : Hp} {v : V} {d : PyData} {xs : List V} {ds : List PyData} (a : El H v d) (h : Els H xs ds) : Els H (v :: xs) (d :: ds) := ⟨congrArg (· + 1) h.1, fun i w e h1 h2 => by
  cases i with
  | zero =>
    cases h1
    cases h2
    exact a
  | succ i => exact h.2 i w e (by simpa using h1) (by simpa using h2)⟩
theorem Els.app {H : Hp} : ∀ {xs : List V} {ds : List PyData} {ys : List V} {es : List PyData}, Els H xs ds → Els H ys es → Els H (xs ++ ys) (ds ++ es)
  | [], [], _, _, _, b => b
  | [], _ :: _, _, _, a, _ => nomatch a.1
  | _ :: _, [], _, _, a, _ => nomatch a.1
  | x :: xs, d :: ds, _, _, a, b => .cons (a.2 0 x d rfl rfl) (Els.app ⟨Nat.succ.inj a.1, fun i v e h1 h2 => a.2 (i + 1) v e (by simpa using h1) (by simpa using h2)⟩ b)
theorem Els.ints {H : Hp} : ∀ ns : List Int, Els H (ns.map V.int) (ns.map PyData.int)
  | [] => .nil
  | n :: r => .cons (.int n) (Els.ints r)
theorem Els.tups {H : Hp} : ∀ {as : List Addr} {xs : List (Int × Int)}, Tups H as xs → Els H (as.map V.ref) (xs.map dPair)
  | [], [], _ => .nil
  | [], _ :: _, t => nomatch t.1
  | _ :: _, [], t => nomatch t.1
  | a :: as, x :: xs, t => .cons (.pr (t.2 0 a x rfl rfl)) (Els.tups ⟨Nat.succ.inj t.1, fun i b y h1 h2 => t.2 (i + 1) b y (by simpa using h1) (by simpa using h2)⟩)
theorem Els.all {H : Hp} : ∀ {xs : List V} {ds : List PyData}, Els H xs ds → IsAll H xs ds
  | [], [], _ => .nil
  | [], _ :: _, t => nomatch t.1
  | _ :: _, [], t => nomatch t.1
  | x :: xs, d :: ds, t => .cons (t.2 0 x d rfl rfl).is (Els.all ⟨Nat.succ.inj t.1, fun i b y h1 h2 => t.2 (i + 1) b y (by simpa using h1) (by simpa using h2)⟩)
theorem Els.fl {H : Hp} {xs : List V} {ds : List PyData} (h : Els H xs ds) : Fl 2 (.list ds) := Fl.list fun d hd => by
  obtain ⟨i, hi⟩ := List.mem_iff_getElem?.mp hd
  have l : i < xs.length := by rw [h.1]; exact (List.getElem?_eq_some_iff.mp hi).1
  exact (h.2 i _ d (List.getElem?_eq_getElem l) hi).fl
/-- the data of a case, and where it stands -/
structure CD where
  g : Addr
  z : Addr
  l : Addr
  gl : Addr
  mr : Addr
  r : Int
  p : Int
  x : Int × Int
  ms : List Int
  gs : List Int
  mks : List Int
structure CaseAt (H : Hp) (c : Addr) (D : CD) : Prop where
  at_ : H c = some (.tup [.ref D.g, .ref D.z, .ref D.l, .ref D.gl, .ref D.mr])
  G : GearAt H D.g D.r D.p
  hz : H D.z = some (.tup [.int D.x.1, .int D.x.2])
  hs : Stg D.p D.x
  hl : H D.l = some (.lst (D.ms.map V.int))
  hm : D.ms.length ≤ 12
  hb : ∀ m ∈ D.ms, m.natAbs < 10 ^ 30
  hgl : H D.gl = some (.lst (D.gs.map V.int))
  hg : D.gs.length ≤ 4
  hgb : ∀ y ∈ D.gs, 0 ≤ y ∧ y < D.r
  hmk : H D.mr = some (.tup (D.mks.map V.int))
  M : Marks D.r D.mks
theorem CaseAt.frn {H H' : Hp} {c : Addr} {D : CD} (R : FrN H H') (C : CaseAt H c D) : CaseAt H' c D := ⟨R.tup C.at_, C.G.mono (R.tup C.G.at_), R.tup C.hz, C.hs, R.ints C.hl, C.hm, C.hb, R.ints C.hgl, C.hg, C.hgb, R.tup C.hmk, C.M⟩
inductive SetD (p : Int) (ms : List Int) : PyData → Prop
  | at_ {j : Nat} : SetV p ms (.int j) → SetD p ms (.int j)
  | no : SetV p ms .non → SetD p ms .none
theorem SetD.one {p : Int} {ms : List Int} {d e : PyData} (a : SetD p ms d) (b : SetD p ms e) : d = e := by
  cases a with
  | at_ a =>
    cases b with
    | at_ b => have := SetV.one a b; injection this with this; rw [this]
    | no b => exact nomatch SetV.one a b
  | no a =>
    cases b with
    | at_ b => exact nomatch SetV.one a b
    | no b => rfl
/-- what is told of a case -/
def AnsD (way : Nat) (D : CD) (ds : List PyData) : Prop := match way with
  | 0 => ds = (traj D.p D.x D.ms).map dPair ++ [dPair (pos D.p D.x D.ms)]
  | 1 => ∃ sd d, SetD D.p D.ms sd ∧ Least D.r D.mks d ∧ ds = [.tuple [.int (pos D.p (0, -D.p) D.ms).1, .int (pos D.p (0, -D.p) D.ms).2, .int (pos D.p (0, 0) D.ms).2], sd, dPair ((D.r - 1) / 2, (d - 1) / 2)]
  | 2 => ∃ q, BestR (rowsOf D.r D.p D.x D.gs) q ∧ ds = q.2.map PyData.int
  | 3 => ∃ (fs : List Int) (q : Int × List Int), fs.length = D.gs.length ∧ (∀ (i : Nat) (f y : Int), fs[i]? = some f → D.gs[i]? = some y → Few D.r D.p D.x y f) ∧ TourR D.r D.p D.x D.gs q ∧ ds = fs.map PyData.int ++ [.int q.1, dInts q.2]
  | _ => ds = .str (textS D.ms) :: D.ms.map PyData.int
theorem Few.one {r p : Int} {x : Int × Int} {y f g : Int} (a : Few r p x y f) (b : Few r p x y g) : f = g := cod_inj (Int.le_antisymm (a.2 g b.1) (b.2 f a.1))
theorem AnsD.one {way : Nat} {D : CD} {ds es : List PyData} (a : AnsD way D ds) (b : AnsD way D es) : ds = es := by
  match way with
  | 0 => exact a.trans b.symm
  | 1 =>
    obtain ⟨sd, d, h1, h2, rfl⟩ := a
    obtain ⟨se, e, k1, k2, rfl⟩ := b
    rw [h1.one k1, h2.one k2]
  | 2 =>
    obtain ⟨q, h1, rfl⟩ := a
    obtain ⟨z, k1, rfl⟩ := b
    rw [h1.one k1]
  | 3 =>
    obtain ⟨fs, q, h1, h2, h3, rfl⟩ := a
    obtain ⟨gs, z, k1, k2, k3, rfl⟩ := b
    rw [h3.one k3]
    have : fs = gs := List.ext_getElem? fun i => by
      by_cases hi : i < D.gs.length
      · have e1 := List.getElem?_eq_getElem (l := fs) (i := i) (by omega)
        have e2 := List.getElem?_eq_getElem (l := gs) (i := i) (by omega)
        have e3 := List.getElem?_eq_getElem (l := D.gs) hi
        rw [e1, e2, (h2 i _ _ e1 e3).one (k2 i _ _ e2 e3)]
      · rw [List.getElem?_eq_none (by omega), List.getElem?_eq_none (by omega)]
    rw [this]
  | _ + 4 => exact (show ds = .str (textS D.ms) :: D.ms.map PyData.int from a).trans (show es = .str (textS D.ms) :: D.ms.map PyData.int from b).symm
theorem text_ok (ms : List Int) : PyData.strOk (textS ms) = true := by
  have h : ∀ c ∈ tl (textS ms), c < 128 := by
    rw [tl_text]
    have : ∀ ps : List (List Nat), (∀ p ∈ ps, ∀ c ∈ p, c < 128) → ∀ c ∈ joinL [32] ps, c < 128 := by
      intro ps
      induction ps with
      | nil => intro _ c hc; cases hc
      | cons a r ih =>
        intro h c hc
        cases r with
        | nil => exact h a List.mem_cons_self c hc
        | cons b r =>
          have hc : c ∈ a ++ ([32] ++ joinL [32] (b :: r)) := hc
          rcases List.mem_append.mp hc with hc | hc
          · exact h a List.mem_cons_self c hc
          · rcases List.mem_append.mp hc with hc | hc
            · rw [List.mem_singleton.mp hc]
              decide
            · exact ih (fun p hp => h p (List.mem_cons_of_mem _ hp)) c hc
    exact this _ fun p hp => by
      obtain ⟨k, _, rfl⟩ := List.mem_map.mp hp
      exact word_ascii k
  unfold PyData.strOk
  rw [← Array.all_toList, List.all_eq_true]
  intro c hc
  exact decide_eq_true (Nat.lt_of_lt_of_le (h c hc) (by decide))
section
variable {P : Program} {w : World} {K : PySem.W.Frag} {mg : Str → Option Value} {base : Heap}
/-- nothing stood there, but a table -/
def NT (H : Hp) (a : Addr) : Prop := ∀ o, H a = some o → ∃ ps, o = .tbl ps
theorem NT.none {H : Hp} {a : Addr} (h : H a = none) : NT H a := fun o e => by rw [h] at e; cases e
theorem NT.ext {H H1 : Hp} {a : Addr} (R : ExtN H H1) (h : NT H1 a) : NT H a := fun o e => by
  by_cases q : ∃ ps, o = .tbl ps
  · exact q
  · exact h o (R a o e fun ps z => q ⟨ps, z⟩)
/-- lists in an answer are new -/
def New (H H' : Hp) (t : Addr) (xs : List V) : Prop := ∀ v ∈ xs, ∀ a, v = .ref a → (∃ ys, H' a = some (.tup ys)) ∨ (∃ ys, H' a = some (.lst ys)) ∧ NT H a ∧ a ≠ t
def spAns (K : PySem.W.Frag) (TT : List (Addr × Str)) : Sp := fun vs H Q _ => ∃ (way : Nat) (c : Addr) (D : CD), vs = [.int way, .ref c] ∧ way < 5 ∧ CaseAt H c D ∧ Tabs TT H ∧
  ∀ (t : Addr) (xs : List V) (ds : List PyData) (H' : Hp), AnsD way D ds → NT H t → ExtN H H' → Tabs TT H' → H' t = some (.lst xs) → Els H' xs ds → NotSt (.lst xs) → New H H' t xs → xs.length ≤ 200 → Q (.ref t) H'
theorem spAns_i {TT : List (Addr × Str)} {way : Nat} {c : Addr} {D : CD} {H : Hp} {Q : VK} {E : XK} (hw : way < 5) (C : CaseAt H c D) (hT : Tabs TT H)
    (k : ∀ (t : Addr) (xs : List V) (ds : List PyData) (H' : Hp), AnsD way D ds → NT H t → ExtN H H' → Tabs TT H' → H' t = some (.lst xs) → Els H' xs ds → NotSt (.lst xs) → New H H' t xs → xs.length ≤ 200 → Q (.ref t) H') : spAns K TT [.int way, .ref c] H Q E := ⟨way, c, D, rfl, hw, C, hT, k⟩
theorem ok_law_answer {TT : List (Addr × Str)} (B : Bl mg) (F : FunAt K mg "_law_answer" s_law_answer) (H_trail : Has P w K mg base CX0 3 "trail" (spTrail K)) (H_stands : Has P w K mg base CX0 3 "stands" (spStands K)) (H_known : Has P w K mg base CX0 4 "known" (spKnown K)) (H_settled : Has P w K mg base CX0 4 "settled" (spSettled K))
    (H_sure : Has P w K mg base CX0 3 "sure" spSure) (H_path : Has P w K mg base CX0 11 "path" (spPath K)) (H_to : Has P w K mg base CX0 4 "to" (spTo K TT)) (H_tour : Has P w K mg base CX0 11 "tour" (spTour K)) (H_written : Has P w K mg base CX0 2 "written" (spWritten K)) (H_read_moves : Has P w K mg base CX0 2 "read_moves" (spRead K)) :
    Has P w K mg base CX0 12 "_law_answer" (spAns K TT) := by
  refine F.ok sc_law_answer bo_law_answer (fun vs H Q E h => ?_) (fun f cdv A outer s H vs Q E hr h => ?_)
  · obtain ⟨way, c, D, rfl, _⟩ := h
    rfl
  · obtain ⟨way, c, D, rfl, hw, C, hT, k⟩ := h
    obtain ⟨at_, G, hz, hs, hl, hm, hb, hgl, hgg, hgb, hmk, M⟩ := C
    refine ⟨_, (pss_cons (ps_asg (pv 1) (kpg_tup (K := K) rfl rfl (pgs_cons (pg_name (i := 2) sc_law_answer.nd rfl (by first | exact Or.inl rfl | exact Or.inr rfl)) (pgs_cons (pg_name (i := 3) sc_law_answer.nd rfl (by first | exact Or.inl rfl | exact Or.inr rfl)) (pgs_cons (pg_name (i := 4) sc_law_answer.nd rfl (by first | exact Or.inl rfl | exact Or.inr rfl)) (pgs_cons (pg_name (i := 5) sc_law_answer.nd rfl (by first | exact Or.inl rfl | exact Or.inr rfl)) (pgs_cons (pg_name (i := 6) sc_law_answer.nd rfl (by first | exact Or.inl rfl | exact Or.inr rfl)) pgs_nil)))))))
 (pss_cons (ps_if (pt_cmpR (kop_eq (K := K) rfl hr.units) (pv 0) pe_int (nomark _)) (pss_one (ps_ret (pe_op (kop_add (K := K) rfl) (pe_has H_trail hr (by omega) rfl pass0 (pa_cons (pv 2) (pa_cons (pv 3) (pa_cons (pv 4) pa_nil)))) (pe_lst (pa_cons (pe_has H_stands hr (by omega) rfl pass0 (pa_cons (pv 2) (pa_cons (pv 3) (pa_cons (pv 4) pa_nil)))) pa_nil))))) pss_nil)
 (pss_cons (ps_if (pt_cmpR (kop_eq (K := K) rfl hr.units) (pv 0) pe_int (nomark _)) (pss_one (ps_ret (pe_lst (pa_cons (pe_has H_known hr (by omega) rfl pass0 (pa_cons (pv 2) (pa_cons (pv 4) pa_nil))) (pa_cons (pe_has H_settled hr (by omega) rfl pass0 (pa_cons (pv 2) (pa_cons (pv 4) pa_nil))) (pa_cons (pe_has H_sure hr (by omega) rfl pass0 (pa_cons (pv 2) (pa_cons (pv 6) pa_nil))) pa_nil)))))) pss_nil)
 (pss_cons (ps_if (pt_cmpR (kop_eq (K := K) rfl hr.units) (pv 0) pe_int (nomark _)) (pss_one (ps_ret (pe_has H_path hr (by omega) rfl pass0 (pa_cons (pv 2) (pa_cons (pv 3) (pa_cons (pv 5) pa_nil)))))) pss_nil)
 (pss_cons (ps_if (pt_cmpR (kop_eq (K := K) rfl hr.units) (pv 0) pe_int (nomark _)) (pss_one (ps_ret (pe_op (kop_add (K := K) rfl) (pe_lc (own := [("_law_goal", 7)]) (g := (gName 7)) rfl sc_law_answer.nd (kpi_list (K := K) rfl (pv 5)) (blkOk_by (N := ["_law_way", "_law_case", "_law_gear_here", "_law_standing_here", "_law_moves_here", "_law_goals", "_law_marks_here", "_law_goal"]) (sc := defScope s_law_answer) (own := [("_law_goal", 7)]) (by decide +kernel)) (fun _ _ _ _ _ => (pg_name (i := 7) sc_law_answer.nd rfl (by first | exact Or.inl rfl | exact Or.inr rfl))) (fun _ _ _ _ _ => pts_nil) (fun _ _ _ _ _ => (pe_has H_to hr (by omega) rfl pass0 (pa_cons (pv 2) (pa_cons (pv 3) (pa_cons (pv 7) pa_nil)))))) (pe_callTy (kc_list (K := K) rfl) rfl B.list (by decide +kernel) (pa_cons (pe_has H_tour hr (by omega) rfl pass0 (pa_cons (pv 2) (pa_cons (pv 3) (pa_cons (pv 5) pa_nil)))) pa_nil))))) pss_nil)
 (pss_one (ps_ret (pe_op (kop_add (K := K) rfl) (pe_lst (pa_cons (pe_has H_written hr (by omega) rfl pass0 (pa_cons (pv 4) pa_nil)) pa_nil)) (pe_has H_read_moves hr (by omega) rfl pass0 (pa_cons (pe_has H_written hr (by omega) rfl pass0 (pa_cons (pv 4) pa_nil)) pa_nil)))))))))), ?_⟩
    refine r_start (σ' := [some (.int way), some (.ref c), none, none, none, none, none, none]) rfl ?_
    walk_at "go"
    refine iteD (fun c0 => ?_) (fun c0 => ?_)
    · obtain rfl : way = 0 := by omega
      walk_at "go"
      refine spTrail_i G hz hs (SqL.of hl) (by omega) fun q as H1 nq h1 hq ht => ?_
      walk_at "go"
      refine spStands_i (G.mono (h1 _ _ G.at_)) (h1 _ _ hz) hs (SqL.of (h1 _ _ hl)) (by omega) fun q2 H2 h2 hq2 => ?_
      walk_at "go"
      intro l3 n3
      have hal : as.length = D.ms.length := by rw [ht.1, traj_len]
      refine r_addL (at_new n3 (h2 _ _ hq)) upd_same (by rw [List.length_map]; show _ + 1 ≤ sizeLine; exact Nat.le_of_lt (small1000 (by omega))) fun t nt => ?_
      have S2 : Same H H2 := h1.trans h2
      have S4 : Same H2 (upd (upd H2 l3 (.lst [.ref q2])) t (.lst (as.map V.ref ++ [.ref q2]))) := (same_new n3).trans (same_new nt)
      refine k t (as.map V.ref ++ [.ref q2]) _ _ rfl (.none ((S2.trans (same_new n3)).free nt)) (ExtN.of (S2.trans S4)) (hT.ext (S2.trans S4)) upd_same (Els.app (Els.tups ((ht.mono fun b xs e => h2 _ _ e).mono fun b xs e => S4 _ _ e)) (.cons (.pr (S4 _ _ hq2)) .nil)) ?_ (fun v hv a e => .inl ?_) ?_
      · have : as.map V.ref ++ [V.ref q2] = (as ++ [q2]).map V.ref := by simp
        rw [this]
        exact nst_refs
      · subst e
        rcases List.mem_append.mp hv with hv | hv
        · obtain ⟨b, hb', e⟩ := List.mem_map.mp hv
          cases e
          obtain ⟨i, hi⟩ := List.mem_iff_getElem?.mp hb'
          obtain ⟨y, hy⟩ : ∃ y, (traj D.p D.x D.ms)[i]? = some y := ⟨_, List.getElem?_eq_getElem (by have := (List.getElem?_eq_some_iff.mp hi).1; rw [traj_len]; omega)⟩
          exact ⟨_, S4 _ _ (h2 _ _ (ht.2 i _ y hi hy))⟩
        · cases List.mem_singleton.mp hv
          exact ⟨_, S4 _ _ hq2⟩
      · rw [List.length_append, List.length_map]
        show _ + 1 ≤ 200
        omega
    walk_at "go"
    refine iteD (fun c1 => ?_) (fun c1 => ?_)
    · obtain rfl : way = 1 := by omega
      walk_at "go"
      refine spKnown_i G (SqL.of hl) (by omega) fun q1 H1 nq1 h1 hq1 => ?_
      walk_at "go"
      refine spSettled_i (G.mono (h1 _ _ G.at_)) (SqL.of (h1 _ _ hl)) (by omega) fun v H2 h2 hv => ?_
      walk_at "go"
      have S2 := h1.trans h2
      refine spSure_i (G.mono (S2 _ _ G.at_)) (S2 _ _ hmk) M fun q3 d H3 hd h3 nq3 hq3 => ?_
      walk_at "go"
      intro t nt
      have S3 := S2.trans h3
      have S4 : Same H3 (upd H3 t (.lst [.ref q1, v, .ref q3])) := same_new nt
      have e1 : El (upd H3 t (.lst [.ref q1, v, .ref q3])) (.ref q1) (.tuple [.int (pos D.p (0, -D.p) D.ms).1, .int (pos D.p (0, -D.p) D.ms).2, .int (pos D.p (0, 0) D.ms).2]) := .tri (S4 _ _ (h3 _ _ (h2 _ _ hq1)))
      have e3 : El (upd H3 t (.lst [.ref q1, v, .ref q3])) (.ref q3) (dPair ((D.r - 1) / 2, (d - 1) / 2)) := .pr (S4 _ _ hq3)
      have nref : ∀ a, v ≠ .ref a := fun a e => by
        rcases hv with ⟨j, rfl, _⟩ | ⟨rfl, _⟩ <;> cases e
      obtain ⟨sd, hsd, e2⟩ : ∃ sd, SetD D.p D.ms sd ∧ El (upd H3 t (.lst [.ref q1, v, .ref q3])) v sd := by
        rcases id hv with ⟨j, rfl, _⟩ | ⟨rfl, _⟩
        · exact ⟨_, .at_ hv, .int _⟩
        · exact ⟨_, .no hv, .non⟩
      refine k t _ _ _ ⟨sd, d, hsd, hd, rfl⟩ (.none (S3.free nt)) (ExtN.of (S3.trans S4)) (hT.ext (S3.trans S4)) upd_same (.cons e1 (.cons e2 (.cons e3 .nil))) (fun a i m r h => by injection h with h; simp at h) (fun u hu a e => .inl ?_) (by show 3 ≤ 200; decide)
      subst e
      simp only [List.mem_cons, List.not_mem_nil, or_false] at hu
      rcases hu with hu | hu | hu
      · cases hu
        exact ⟨_, S4 _ _ (h3 _ _ (h2 _ _ hq1))⟩
      · exact absurd hu.symm (nref a)
      · cases hu
        exact ⟨_, S4 _ _ hq3⟩
    walk_at "go"
    refine iteD (fun c2 => ?_) (fun c2 => ?_)
    · obtain rfl : way = 2 := by omega
      walk_at "go"
      refine spPath_i G hz hs (SqL.of hgl) (by omega) hgb fun t q H1 nt h1 ht hq best => ?_
      have := rows_len best.1
      exact k t _ _ H1 ⟨q, best, rfl⟩ (.none nt) (ExtN.of h1) (hT.ext h1) ht (Els.ints _) nst_ints (fun v hv a e => by
        obtain ⟨n, _, e2⟩ := List.mem_map.mp hv
        rw [← e2] at e
        cases e) (by rw [List.length_map]; omega)
    walk_at "go"
    refine iteD (fun c3 => ?_) (fun c3 => ?_)
    · obtain rfl : way = 3 := by omega
      walk_at "go"
      refine ⟨_, rfl, ⟨_, SqL.of hgl⟩, fun DD nD => lcw_list (K := K) (a := D.gl) (xs := D.gs.map V.int) (σw := [some (.int (3 : Nat)), some (.ref c), some (.ref D.g), some (.ref D.z), some (.ref D.l), some (.ref D.gl), some (.ref D.mr), none])
        (fun i H8 => ∃ fs : List Int, ExtN H H8 ∧ Tabs TT H8 ∧ H8 DD = some (.lst (fs.map V.int)) ∧ fs.length = i ∧ ∀ (j : Nat) (f y : Int), fs[j]? = some f → D.gs[j]? = some y → Few D.r D.p D.x y f) rfl
        ⟨[], ExtN.of (same_new nD), hT.ext (same_new nD), upd_same, rfl, fun j f y h => by simp at h⟩ (fun i H8 _ h => ?_) (fun i y H8 hi h => ?_) fun H8 h => ?_⟩
      · obtain ⟨_, e8, _⟩ := h
        exact SqL.of (ExtN.at_lst e8 hgl)
      · obtain ⟨fs, e8, T8, hD, hfl, hfew⟩ := h
        obtain ⟨y, hy, rfl⟩ := map_at hi
        have hyb := hgb y (List.mem_of_getElem? hy)
        walk_at "go"
        refine ⟨rfl, ?_⟩
        walk_at "go"
        refine iteT ?_
        walk_at "go"
        refine spTo_i (G.mono (ExtN.at_tup e8 G.at_)) (ExtN.at_tup e8 hz) hs hyb.1 hyb.2 T8 fun v H9 e9 T9 few => ?_
        have hD9 : H9 DD = some (.lst (fs.map V.int)) := ExtN.at_lst e9 hD
        have hil := (List.getElem?_eq_some_iff.mp hy).1
        refine ⟨_, hD9, by rw [List.length_map]; exact small1000 (by omega), fs ++ [v], fun b o e t => at_wr (ne_of_none e nD) (e9 _ _ (e8 _ _ e t) t), fun p hp => ?_, by rw [upd_same]; simp, by simp [hfl], fun j f y2 h1 h2 => ?_⟩
        · obtain ⟨ps, t1, t2, t3⟩ := T9 p hp
          refine ⟨ps, at_wr (ne_of t1 hD9 fun q => nomatch q) t1, t2, fun pos cv hc => ?_⟩
          obtain ⟨cc, x1, x2⟩ := t3 pos cv hc
          exact ⟨cc, x1, at_wr (ne_of x2 hD9 fun q => nomatch q) x2⟩
        · rcases at_snoc h1 with ⟨f1, _⟩ | ⟨f1, rfl⟩
          · exact hfew j f y2 f1 h2
          · rw [f1, hfl, hy] at h2
            cases h2
            exact few
      obtain ⟨fs, e8, T8, hD, hfl, hfew⟩ := h
      rw [List.length_map] at hfl
      walk_at "go"
      refine spTour_i (G.mono (ExtN.at_tup e8 G.at_)) (ExtN.at_tup e8 hz) hs (SqL.of (ExtN.at_lst e8 hgl)) (by omega) hgb fun tt ta q H9 ntt nta h9 htt hta hql tour => ?_
      walk_at "go"
      refine r_listOf (.inr (SqT.of htt)) fun l10 n10 => ?_
      walk_at "go"
      refine r_addL (at_new n10 (h9 _ _ hD)) upd_same (by rw [List.length_map]; show _ + 2 ≤ sizeLine; exact Nat.le_of_lt (small1000 (by omega))) fun t nt => ?_
      have S10 : Same H9 (upd (upd H9 l10 (.lst [.int q.1, .ref ta])) t (.lst (fs.map V.int ++ [.int q.1, .ref ta]))) := (same_new n10).trans (same_new nt)
      have e10 : ExtN H (upd (upd H9 l10 (.lst [.int q.1, .ref ta])) t (.lst (fs.map V.int ++ [.int q.1, .ref ta]))) := ExtN.trans e8 (ExtN.of (h9.trans S10))
      have ne_t : ta ≠ t := (ne_of_none (at_new (u := .lst [.int q.1, .ref ta]) n10 hta) nt)
      have hnt : upd H9 l10 (.lst [.int q.1, .ref ta]) t = none := nt
      refine k t (fs.map V.int ++ [.int q.1, .ref ta]) _ _ ⟨fs, q, hfl, hfew, tour, rfl⟩ (NT.ext e8 (.none ((h9.trans (same_new n10)).free nt))) e10 (T8.ext (h9.trans S10)) upd_same
        (Els.app (Els.ints fs) (.cons (.int _) (.cons (.lis (S10 _ _ hta)) .nil))) ?_ (fun v hv a e => .inr ?_) ?_
      · intro a' i' m' r' h
        injection h with h
        cases fs with
        | nil => simp at h
        | cons f r => injection h with h _; cases h
      · subst e
        rcases List.mem_append.mp hv with hv | hv
        · obtain ⟨n, _, e2⟩ := List.mem_map.mp hv
          cases e2
        · simp only [List.mem_cons, List.not_mem_nil, or_false] at hv
          rcases hv with hv | hv
          · cases hv
          · cases hv
            exact ⟨⟨_, S10 _ _ hta⟩, NT.ext e8 (.none nta), ne_t⟩
      · rw [List.length_append, List.length_map]
        show _ + 2 ≤ 200
        omega
    · obtain rfl : way = 4 := by omega
      walk_at "go"
      refine spWritten_i (SqL.of hl) (by omega) hb fun H1 h1 => ?_
      walk_at "go"
      intro l2 n2
      walk_at "go"
      have S2 := h1.trans (same_new (u := .lst [.str (textS D.ms)]) n2)
      refine spWritten_i (SqL.of (S2 _ _ hl)) (by omega) hb fun H3 h3 => ?_
      walk_at "go"
      refine spRead_i (by omega) hb fun q H4 nq h4 hq => ?_
      walk_at "go"
      refine r_addL (h4 _ _ (h3 _ _ upd_same)) hq (by rw [List.length_map]; show 1 + _ ≤ sizeLine; exact Nat.le_of_lt (small1000 (by omega))) fun t nt => ?_
      have S4 := (S2.trans h3).trans h4
      have S5 := S4.trans (same_new (u := .lst ([.str (textS D.ms)] ++ D.ms.map V.int)) nt)
      refine k t _ _ _ rfl (.none (S4.free nt)) (ExtN.of S5) (hT.ext S5) upd_same (.cons (.str (text_ok D.ms)) (Els.ints _)) (fun a i m r h => by injection h with h; cases h) (fun v hv a e => ?_) (by show (D.ms.map V.int).length + 1 ≤ 200; rw [List.length_map]; omega)
      subst e
      rcases List.mem_cons.mp (show V.ref a ∈ .str (textS D.ms) :: D.ms.map V.int from hv) with h | h
      · cases h
      · obtain ⟨n, _, e2⟩ := List.mem_map.mp h
        cases e2
end
end Rd

namespace Rd
open PySem L2 LamX TL
section
variable {P : Program} {w : World} {K : PySem.W.Frag} {mg : Str → Option Value} {base : Heap}
theorem kpe_bm0 {X : Cx} {o : Expr} {to : TE} {name : Str} {apos cpos : Pos} {T id : String} {r : V → List V → Hp → VK → Prop} (hK : X.K = K) (pa : PlainAttrs T) (slot : Slot T name id) (hty : typeOf (.builtin id) = pure (.type "method_descriptor")) (hm : MtR X id r) (ho : PE X o to)
    (hbase : attributeBase o name X.env (eval o X.env) = eval o X.env := by rfl) (hline : (apos.endLine == cpos.line) = true := by rfl) : PE X (.Call (.Attribute o name apos) [] [] cpos) (tBM0 K T r to) := by subst hK; exact pe_bm0 pa slot hty hm ho hbase hline
theorem r_revA {H : Hp} {Q : VK} {l : Addr} {xs : List V} (h : H l = some (.lst xs)) (k : ∀ H', H' l = some (.lst xs.reverse) → (∀ b o, b ≠ l → H b = some o → H' b = some o) → Q .non H') : rReverse (.ref l) [] H Q := ⟨l, xs, rfl, rfl, h, k _ upd_same fun _ _ n e => at_wr n e⟩
def spCopied : Sp := fun vs H Q _ => ∃ (t : Addr) (xs : List V) (ds : List PyData), vs = [.ref t] ∧ H t = some (.lst xs) ∧ Els H xs ds ∧ xs.length ≤ 200 ∧ NotSt (.lst xs) ∧
  ∀ (u : Addr) (ys : List V) (H' : Hp), H u = none → Same H H' → H' u = some (.lst ys) → Els H' ys ds → NotSt (.lst ys) → (∀ v ∈ ys, ∀ b, v = .ref b → (∃ zs, H' b = some (.tup zs)) ∨ (H b = none ∧ b ≠ u)) → Q (.ref u) H'
theorem spCopied_i {t : Addr} {xs : List V} {ds : List PyData} {H : Hp} {Q : VK} {E : XK} (ht : H t = some (.lst xs)) (he : Els H xs ds) (hl : xs.length ≤ 200) (hn : NotSt (.lst xs))
    (k : ∀ (u : Addr) (ys : List V) (H' : Hp), H u = none → Same H H' → H' u = some (.lst ys) → Els H' ys ds → NotSt (.lst ys) → (∀ v ∈ ys, ∀ b, v = .ref b → (∃ zs, H' b = some (.tup zs)) ∨ (H b = none ∧ b ≠ u)) → Q (.ref u) H') : spCopied [.ref t] H Q E := ⟨t, xs, ds, rfl, ht, he, hl, hn, k⟩
/-- of the same sorts, thing by thing -/
def sort_ : V → Nat
  | .ref _ => 0
  | .int _ => 1
  | _ => 2
theorem nst_sorts {xs ys : List V} (h : NotSt (.lst xs)) (e : ys.map sort_ = xs.map sort_) : NotSt (.lst ys) := fun a i m r q => by
  injection q with q
  subst q
  match xs, e with
  | [x1, x2, x3, x4], e =>
    simp only [List.map_cons, List.map_nil, List.cons.injEq, and_true] at e
    obtain ⟨e1, e2, e3, e4⟩ := e
    have f1 : ∃ b, x1 = .ref b := by cases x1 <;> first | exact ⟨_, rfl⟩ | cases e1
    have f2 : ∃ b, x2 = .int b := by cases x2 <;> first | exact ⟨_, rfl⟩ | cases e2
    have f3 : ∃ b, x3 = .int b := by cases x3 <;> first | exact ⟨_, rfl⟩ | cases e3
    have f4 : ∃ b, x4 = .int b := by cases x4 <;> first | exact ⟨_, rfl⟩ | cases e4
    obtain ⟨b1, rfl⟩ := f1
    obtain ⟨b2, rfl⟩ := f2
    obtain ⟨b3, rfl⟩ := f3
    obtain ⟨b4, rfl⟩ := f4
    exact h _ _ _ _ rfl
  | [], e => simp at e
  | [_], e => simp at e
  | [_, _], e => simp at e
  | [_, _, _], e => simp at e
  | _ :: _ :: _ :: _ :: _ :: _, e => simp at e
theorem ok_law_copied (B : Bl mg) (F : FunAt K mg "_law_copied" s_law_copied) : Has P w K mg base CX0 1 "_law_copied" spCopied := by
  refine F.ok sc_law_copied bo_law_copied (fun vs H Q E h => ?_) (fun f cdv A outer s H vs Q E hr h => ?_)
  · obtain ⟨t, xs, ds, rfl, _⟩ := h
    rfl
  · obtain ⟨t, xs, ds, rfl, ht, he, hl, hn, k⟩ := h
    refine ⟨_, (pss_one (ps_ret (pe_lc (own := [("_law_one", 1)]) (g := (gName 1)) rfl sc_law_copied.nd (kpi_list (K := K) rfl (pv 0)) (blkOk_by (N := ["_law_told", "_law_one"]) (sc := defScope s_law_copied) (own := [("_law_one", 1)]) (by decide +kernel)) (fun _ _ _ _ _ => (pg_name (i := 1) sc_law_copied.nd rfl (by first | exact Or.inl rfl | exact Or.inr rfl))) (fun _ _ _ _ _ => pts_nil) (fun _ _ _ _ _ => (pe_ifExp (pt_val (pe_callB (kcc_isi (K := K) rfl) rfl B.isinstance (by decide +kernel) (pa_cons (pv 1) (pa_cons (pe_bltn rfl B.list (by decide +kernel) (v := .ty "list") rfl) pa_nil)))) (pe_callTy (kc_list (K := K) rfl) rfl B.list (by decide +kernel) (pa_cons (pv 1) pa_nil)) (pv 1)))))), ?_⟩
    refine r_start (σ' := [some (.ref t), none]) rfl ?_
    walk_at "go"
    refine ⟨_, rfl, ⟨_, SqL.of ht⟩, fun D nD => lcw_list (K := K) (a := t) (xs := xs) (σw := [some (.ref t), none])
      (fun i H8 => Same H H8 ∧ ∃ ys, H8 D = some (.lst ys) ∧ Els H8 ys (ds.take i) ∧ ys.map sort_ = (xs.take i).map sort_ ∧ (∀ v ∈ ys, ∀ b, v = .ref b → b ≠ D) ∧ ∀ v ∈ ys, ∀ b, v = .ref b → (∃ zs, H8 b = some (.tup zs)) ∨ H b = none) rfl ⟨same_new nD, [], upd_same, Els.nil, rfl, (fun v h => by simp at h), fun v h => by simp at h⟩ (fun i H8 _ h => SqL.of (h.1 _ _ ht)) (fun i v H8 hi h => ?_) fun H8 h => ?_⟩
    · obtain ⟨h8, ys, hD, hE, hsrt, hne, hnew⟩ := h
      have hil := (List.getElem?_eq_some_iff.mp hi).1
      obtain ⟨d, hd⟩ : ∃ d, ds[i]? = some d := ⟨_, List.getElem?_eq_getElem (by rw [← he.1]; exact hil)⟩
      have el := he.2 i v d hi hd
      have hyl : ys.length ≤ 200 := by
        have := hE.1
        rw [List.length_take] at this
        have := he.1
        omega
      have same_ : ∀ {H9 : Hp} {v' : V}, Same H8 H9 → El H9 v' d → sort_ v' = sort_ v → (∀ b, v' = .ref b → b ≠ D) → (∀ b, v' = .ref b → (∃ zs, H9 b = some (.tup zs)) ∨ H b = none) → ∃ acc, H9 D = some (.lst acc) ∧ acc.length < sizeLine ∧ (Same H (upd H9 D (.lst (acc ++ [v']))) ∧ ∃ ys, upd H9 D (.lst (acc ++ [v'])) D = some (.lst ys) ∧ Els (upd H9 D (.lst (acc ++ [v']))) ys (ds.take (i + 1)) ∧ ys.map sort_ = (xs.take (i + 1)).map sort_ ∧ (∀ v ∈ ys, ∀ b, v = .ref b → b ≠ D) ∧ ∀ v ∈ ys, ∀ b, v = .ref b → (∃ zs, upd H9 D (.lst (acc ++ [v'])) b = some (.tup zs)) ∨ H b = none) := fun {H9 v'} h9 el' es nb nn => by
        refine ⟨ys, h9 _ _ hD, small1000 (by omega), fun b o e => at_wr (ne_of_none e nD) (h9 _ _ (h8 _ _ e)), ys ++ [v'], upd_same, ?_, ?_, (fun u hu b e => ?_), fun u hu b e => ?_⟩
        · rw [take_snoc hd]
          have up : ∀ {u : V} {e : PyData}, El H9 u e → (∀ b, u = .ref b → b ≠ D) → El (upd H9 D (.lst (ys ++ [v']))) u e := fun {u e} q nb => by
            cases q with
            | int i => exact .int i
            | non => exact .non
            | str h => exact .str h
            | pr h => exact .pr (at_wr (nb _ rfl) h)
            | tri h => exact .tri (at_wr (nb _ rfl) h)
            | lis h => exact .lis (at_wr (nb _ rfl) h)
          refine Els.app ⟨hE.1, fun j u e h1 h2 => up ((hE.2 j u e h1 h2).frn (FrN.sm h9)) (hne u (List.mem_of_getElem? h1))⟩ (.cons (up el' nb) .nil)
        · rw [take_snoc hi, List.map_append, List.map_append, hsrt, List.map_cons, List.map_cons, es]
        · rcases List.mem_append.mp hu with hu | hu
          · exact hne u hu b e
          · rw [List.mem_singleton.mp hu] at e
            exact nb b e
        · have lift : (∃ zs, H9 b = some (.tup zs)) ∨ H b = none → (∃ zs, upd H9 D (.lst (ys ++ [v'])) b = some (.tup zs)) ∨ H b = none := fun q => q.imp (fun ⟨zs, z⟩ => ⟨zs, at_wr (ne_of z (h9 _ _ hD) fun q => nomatch q) z⟩) id
          rcases List.mem_append.mp hu with hu | hu
          · exact lift ((hnew u hu b e).imp (fun ⟨zs, z⟩ => ⟨zs, h9 _ _ z⟩) id)
          · rw [List.mem_singleton.mp hu] at e
            exact lift (nn b e)
      have old : ∀ {b : Addr} {o : HO}, H b = some o → b ≠ D := fun e => ne_of_none e nD
      have nbv : ∀ b, v = .ref b → b ≠ D := fun b e => by
        subst e
        cases el with
        | pr h => exact old h
        | tri h => exact old h
        | lis h => exact old h
      have el8 := el.frn (FrN.sm h8)
      walk_at "go"
      refine ⟨rfl, ?_⟩
      walk_at "go"
      refine iteT ?_
      walk_at "go"
      cases el8 with
      | int i' =>
        refine r_isi (.base (.int i')) (b := false) (by decide +kernel) ?_
        walk_at "go"
        refine iteF ?_
        walk_at "go"
        exact same_ (Same.refl H8) (.int i') rfl (fun b e => nomatch e) (fun b e => nomatch e)
      | non =>
        refine r_isi (.base .non) (b := false) (by decide +kernel) ?_
        walk_at "go"
        refine iteF ?_
        walk_at "go"
        exact same_ (Same.refl H8) .non rfl (fun b e => nomatch e) (fun b e => nomatch e)
      | str h =>
        refine r_isi (.base (.str _)) (b := false) (by decide +kernel) ?_
        walk_at "go"
        refine iteF ?_
        walk_at "go"
        exact same_ (Same.refl H8) (.str h) rfl (fun b e => nomatch e) (fun b e => nomatch e)
      | pr h =>
        refine r_isi (.base (.tup h)) (b := false) (by decide +kernel) ?_
        walk_at "go"
        refine iteF ?_
        walk_at "go"
        exact same_ (Same.refl H8) (.pr h) rfl nbv (fun b e => by cases e; exact .inl ⟨_, h⟩)
      | tri h =>
        refine r_isi (.base (.tup h)) (b := false) (by decide +kernel) ?_
        walk_at "go"
        refine iteF ?_
        walk_at "go"
        exact same_ (Same.refl H8) (.tri h) rfl nbv (fun b e => by cases e; exact .inl ⟨_, h⟩)
      | lis h =>
        refine r_isi (.base (.lst h)) (b := true) (by decide +kernel) ?_
        walk_at "go"
        refine iteT ?_
        walk_at "go"
        refine r_listOf (.inl (SqL.of h)) fun l nl => ?_
        exact same_ (same_new nl) (.lis upd_same) rfl (fun b e => by cases e; exact (ne_of_none hD nl).symm) (fun b e => by cases e; exact .inr (h8.free nl))
    · obtain ⟨h8, ys, hD, hE, hsrt, hne, hnew⟩ := h
      rw [List.take_length] at hsrt
      rw [he.1, List.take_length] at hE
      walk_at "go"
      exact k D ys H8 nD h8 hD hE (nst_sorts hn hsrt) fun v hv b e => (hnew v hv b e).imp id fun q => ⟨q, hne v hv b e⟩
abbrev NSC : Scope := { kind := .function, names := [(".0", .local), ("_law_case", .cell), ("range", .globalImplicit)], isGenerator := false, isCoroutine := false }
def CasesAt (H : Hp) (css : List Addr) (Ds : List CD) : Prop := css.length = Ds.length ∧ ∀ (i : Nat) (c : Addr) (D : CD), css[i]? = some c → Ds[i]? = some D → CaseAt H c D
theorem CasesAt.frn {H H' : Hp} {css : List Addr} {Ds : List CD} (R : FrN H H') (C : CasesAt H css Ds) : CasesAt H' css Ds := ⟨C.1, fun i c D h1 h2 => (C.2 i c D h1 h2).frn R⟩
def FirstAt (H : Hp) (f : Addr) (D : CD) : Prop := ∃ l1 l2, H f = some (.tup [.ref l1, .ref l2]) ∧ H l1 = some (.lst (D.ms.map V.int)) ∧ H l2 = some (.lst (D.gs.map V.int))
theorem FirstAt.frn {H H' : Hp} {f : Addr} {D : CD} (R : FrN H H') (h : FirstAt H f D) : FirstAt H' f D := by
  obtain ⟨l1, l2, h1, h2, h3⟩ := h
  exact ⟨l1, l2, R.tup h1, R.ints h2, R.ints h3⟩
/-- a kept answer; the lists in X are other ones -/
def K1 (X : List Addr) (H : Hp) (wy : Nat) (k : Addr) (D : CD) : Prop := ∃ xs ds, H k = some (.lst xs) ∧ NotSt (.lst xs) ∧ Els H xs ds ∧ AnsD wy D ds ∧ ∀ x ∈ X, k ≠ x ∧ ∀ v ∈ xs, ∀ a, v = .ref a → a ≠ x
theorem K1.frn {X : List Addr} {H H' : Hp} {wy : Nat} {k : Addr} {D : CD} (R : FrN H H') (h : K1 X H wy k D) : K1 X H' wy k D := by
  obtain ⟨xs, ds, h1, h2, h3, h4, h5⟩ := h
  exact ⟨xs, ds, R _ _ h1 h2 (fun _ z => nomatch z), h2, h3.frn R, h4, h5⟩
theorem K1.but {X : List Addr} {H H' : Hp} {wy : Nat} {k x : Addr} {D : CD} (hx : x ∈ X) (R : ∀ b o, b ≠ x → H b = some o → H' b = some o) (h : K1 X H wy k D) : K1 X H' wy k D := by
  obtain ⟨xs, ds, h1, h2, h3, h4, h5⟩ := h
  obtain ⟨n1, n2⟩ := h5 x hx
  refine ⟨xs, ds, R _ _ n1 h1, h2, ⟨h3.1, fun i v d e1 e2 => ?_⟩, h4, h5⟩
  have q := h3.2 i v d e1 e2
  have nb := n2 v (List.mem_of_getElem? e1)
  cases q with
  | int i => exact .int i
  | non => exact .non
  | str h => exact .str h
  | pr h => exact .pr (R _ _ (nb _ rfl) h)
  | tri h => exact .tri (R _ _ (nb _ rfl) h)
  | lis h => exact .lis (R _ _ (nb _ rfl) h)
def KeptAt (X : List Addr) (H : Hp) (kd : Addr) (D : CD) : Prop := ∃ ks : List Addr, H kd = some (.lst (ks.map V.ref)) ∧ ks.length = 5 ∧ (∀ x ∈ X, kd ≠ x) ∧ ∀ (wy : Nat) (k : Addr), ks[wy]? = some k → K1 X H wy k D
theorem FrN.refs {H H' : Hp} (a : FrN H H') {b : Addr} {as : List Addr} (e : H b = some (.lst (as.map V.ref))) : H' b = some (.lst (as.map V.ref)) := a _ _ e nst_refs fun _ z => nomatch z
theorem KeptAt.frn {X : List Addr} {H H' : Hp} {kd : Addr} {D : CD} (R : FrN H H') (h : KeptAt X H kd D) : KeptAt X H' kd D := by
  obtain ⟨ks, h1, h2, h3, h4⟩ := h
  exact ⟨ks, R.refs h1, h2, h3, fun wy k e => (h4 wy k e).frn R⟩
theorem KeptAt.but {X : List Addr} {H H' : Hp} {kd x : Addr} {D : CD} (hx : x ∈ X) (R : ∀ b o, b ≠ x → H b = some o → H' b = some o) (h : KeptAt X H kd D) : KeptAt X H' kd D := by
  obtain ⟨ks, h1, h2, h3, h4⟩ := h
  exact ⟨ks, R _ _ (h3 x hx) h1, h2, h3, fun wy k e => (h4 wy k e).but hx R⟩
/-- what may stand in what is told, while its lists are turned -/
def OkV (H0 H : Hp) (t : Addr) (v : V) : Prop := (∃ i, v = .int i) ∨ v = .non ∨ (∃ z, v = .str z) ∨ (∃ b zs, v = .ref b ∧ H b = some (.tup zs)) ∨ ∃ a ys, v = .ref a ∧ H a = some (.lst ys) ∧ NT H0 a ∧ a ≠ t
theorem okv_of {H0 H : Hp} {t : Addr} {v : V} {d : PyData} {xs : List V} (e : El H v d) (hv : v ∈ xs) (n : New H0 H t xs) : OkV H0 H t v := by
  cases e with
  | int i => exact .inl ⟨i, rfl⟩
  | non => exact .inr (.inl rfl)
  | str h => exact .inr (.inr (.inl ⟨_, rfl⟩))
  | pr h => exact .inr (.inr (.inr (.inl ⟨_, _, rfl, h⟩)))
  | tri h => exact .inr (.inr (.inr (.inl ⟨_, _, rfl, h⟩)))
  | lis h =>
    rcases n _ hv _ rfl with ⟨ys, q⟩ | ⟨⟨ys, q⟩, q2, q3⟩
    · rw [h] at q
      cases q
    · exact .inr (.inr (.inr (.inr ⟨_, _, rfl, q, q2, q3⟩)))
theorem Tabs.bl {T : List (Addr × Str)} {H H' : Hp} {p : Addr} {xs : List V} (t : Tabs T H) (h : H p = some (.lst xs)) (R : ∀ b o, b ≠ p → H b = some o → H' b = some o) : Tabs T H' := fun q hq => by
  obtain ⟨ps, h1, h2, h3⟩ := t q hq
  refine ⟨ps, R _ _ (ne_of h1 h fun z => nomatch z) h1, h2, fun pos cv hc => ?_⟩
  obtain ⟨c, e1, e2⟩ := h3 pos cv hc
  exact ⟨c, e1, R _ _ (ne_of e2 h fun z => nomatch z) e2⟩
theorem st_but {H H' : Hp} {st a p : Addr} (s : St H st a) (ne : st ≠ p) (R : ∀ b o, b ≠ p → H b = some o → H' b = some o) : St H' st a := by
  obtain ⟨i, m, r, e, q⟩ := s.ex
  exact ⟨i, m, r, R _ _ ne e, q⟩
theorem nt_ne {H : Hp} {st a p : Addr} (s : St H st a) (n : NT H p) : st ≠ p := fun z => by
  obtain ⟨i, m, r, e, q⟩ := s.ex
  rw [z] at e
  obtain ⟨ps, y⟩ := n _ e
  cases y
set_option maxHeartbeats 8000000 in
theorem ok_law {TT : List (Addr × Str)} {f : Addr} {fd : FuncData} (B : Bl mg) (F : Fun K "law" "law" s_law f fd) (H_law_start : Has P w K mg base CX0 1 "_law_start" (spStart K)) (H_law_drawn : Has P w K mg base CX0 1 "_law_drawn" (spDrawn K))
    (H_law_same : Has P w K mg base CX0 3 "_law_same" (spSame 3)) (H_law_gear : Has P w K mg base CX0 2 "_law_gear" (spGear K)) (H_law_standing : Has P w K mg base CX0 2 "_law_standing" (spStanding K)) (H_law_moves : Has P w K mg base CX0 2 "_law_moves" (spMoves K)) (H_law_marks : Has P w K mg base CX0 2 "_law_marks" (spMarks K))
    (H_law_answer : Has P w K mg base CX0 12 "_law_answer" (spAns K TT)) (H_law_copied : Has P w K mg base CX0 1 "_law_copied" spCopied) :
    FnOk P w K mg base CX0 13 f fd ["_law_script"] (spLawT K TT) := by
  refine F.ok sc_law (fun vs H Q E h => ?_) (fun cdv A outer s H vs Q E hr h => ?_)
  · obtain ⟨a, ns, rfl, _⟩ := h
    rfl
  · obtain ⟨a, ns, rfl, hS, hlen, hT, k⟩ := h
    refine ⟨_, (pss_cons (ps_set (i := 1) sc_law.nd rfl (by first | exact Or.inl rfl | exact Or.inr rfl) (pe_has H_law_start hr (by omega) rfl pass0 (pa_cons (pv 0) pa_nil)))
 (pss_cons (ps_set (i := 2) sc_law.nd rfl (by first | exact Or.inl rfl | exact Or.inr rfl) (pe_lst pa_nil))
 (pss_cons (ps_for PassesOwn.never rfl (pi_range1 rfl B.range (pa_cons pe_int pa_nil)) (pg_name (i := 3) sc_law.nd rfl (by first | exact Or.inl rfl | exact Or.inr rfl)) (pss_cons (ps_set (i := 4) sc_law.nd rfl (by first | exact Or.inl rfl | exact Or.inr rfl) (pe_has H_law_gear hr (by omega) rfl pass0 (pa_cons (pv 1) (pa_cons pe_bl pa_nil))))
 (pss_cons (ps_setLc (i := 5) (own := [("_law_goal", 13)]) (g := (gName 13)) rfl sc_law.nd rfl rfl (sw_true rfl rfl rfl (by decide +kernel)) (pi_range1 rfl B.range (pa_cons (pe_has H_law_drawn hr (by omega) rfl pass0 (pa_cons (pv 1) (pa_cons pe_int pa_nil))) pa_nil)) (blkOk_by (N := ["_law_script", "_law_state", "_law_cases", "_law_k", "_law_gear_here", "_law_goals", "_law_first", "_law_kept", "_law_turn", "_law_way", "_law_told", "_law_one", "_law_case", "_law_goal"]) (sc := defScope s_law) (own := [("_law_goal", 13)]) (by decide +kernel)) (fun _ _ _ _ _ => (pg_name (i := 13) sc_law.nd rfl (by first | exact Or.inl rfl | exact Or.inr rfl))) (fun _ _ _ _ _ => pts_nil) (fun _ _ _ _ _ => (pe_has H_law_drawn hr (by omega) rfl pass0 (pa_cons (pv 1) (pa_cons (pe_ix (kix (K := K) rfl) (pv 4) pe_int (fun _ _ => rfl)) pa_nil)))))
 (pss_one (ps_expr (kpe_bm (K := K) rfl PySem.F.plainAttrs_list PySem.F.slot_list_append PySem.F.type_list_append mt_append (pv 2) (pa_cons (pe_tup (pa_cons (pv 4) (pa_cons (pe_has H_law_standing hr (by omega) rfl pass0 (pa_cons (pv 1) (pa_cons (pv 4) pa_nil))) (pa_cons (pe_has H_law_moves hr (by omega) rfl pass0 (pa_cons (pv 1) (pa_cons (pv 4) (pa_cons pe_int pa_nil)))) (pa_cons (pv 5) (pa_cons (pe_has H_law_marks hr (by omega) rfl pass0 (pa_cons (pv 1) (pa_cons (pv 4) pa_nil))) pa_nil)))))) pa_nil)))))))
 (pss_cons (ps_setLc (i := 6) (own := [("_law_case", 12)]) (g := (gName 12)) rfl sc_law.nd rfl rfl (sw_true rfl rfl rfl (by decide +kernel)) (kpi_list (K := K) rfl (pv 2)) (blkOk_by (N := ["_law_script", "_law_state", "_law_cases", "_law_k", "_law_gear_here", "_law_goals", "_law_first", "_law_kept", "_law_turn", "_law_way", "_law_told", "_law_one", "_law_case", "_law_goal"]) (sc := defScope s_law) (own := [("_law_case", 12)]) (by decide +kernel)) (fun _ _ _ _ _ => (pg_name (i := 12) sc_law.nd rfl (by first | exact Or.inl rfl | exact Or.inr rfl))) (fun _ _ _ _ _ => pts_nil) (fun _ _ _ _ _ => (pe_tup (pa_cons (pe_callTy (kc_list (K := K) rfl) rfl B.list (by decide +kernel) (pa_cons (pe_ix (kix (K := K) rfl) (pv 12) pe_int (fun _ _ => rfl)) pa_nil)) (pa_cons (pe_callTy (kc_list (K := K) rfl) rfl B.list (by decide +kernel) (pa_cons (pe_ix (kix (K := K) rfl) (pv 12) pe_int (fun _ _ => rfl)) pa_nil)) pa_nil)))))
 (pss_cons (ps_setLc (i := 7) (own := [("_law_case", 12)]) (g := (gName 12)) rfl sc_law.nd rfl rfl (sw_true rfl rfl rfl (by decide +kernel)) (kpi_list (K := K) rfl (pv 2)) (blkOk_by (N := ["_law_script", "_law_state", "_law_cases", "_law_k", "_law_gear_here", "_law_goals", "_law_first", "_law_kept", "_law_turn", "_law_way", "_law_told", "_law_one", "_law_case", "_law_goal"]) (sc := defScope s_law) (own := [("_law_case", 12)]) (by decide +kernel)) (fun _ _ _ _ _ => (pg_name (i := 12) sc_law.nd rfl (by first | exact Or.inl rfl | exact Or.inr rfl))) (fun _ _ _ _ _ => pts_nil) (fun _ _ _ _ _ => (pe_lc (own := [("_law_way", 9)]) (g := (gName 9)) rfl sc_law.nd (pi_range1 rfl B.range (pa_cons pe_int pa_nil)) (blkOk_by (N := ["_law_script", "_law_state", "_law_cases", "_law_k", "_law_gear_here", "_law_goals", "_law_first", "_law_kept", "_law_turn", "_law_way", "_law_told", "_law_one", "_law_case", "_law_goal"]) (sc := NSC) (own := [("_law_way", 9)]) (by decide +kernel)) (fun _ _ _ _ _ => (pg_name (i := 9) sc_law.nd rfl (by first | exact Or.inl rfl | exact Or.inr rfl))) (fun _ _ _ _ _ => pts_nil) (fun _ _ _ _ _ => (pe_has H_law_copied hr (by omega) rfl pass0 (pa_cons (pe_has H_law_answer hr (by omega) rfl pass0 (pa_cons (pv 9) (pa_cons (pv 12) pa_nil))) pa_nil))))))
 (pss_cons (ps_for PassesOwn.never rfl (pi_range1 rfl B.range (pa_cons (pe_op (kop_add (K := K) rfl) pe_int (pe_has H_law_drawn hr (by omega) rfl pass0 (pa_cons (pv 1) (pa_cons pe_int pa_nil)))) pa_nil)) (pg_name (i := 8) sc_law.nd rfl (by first | exact Or.inl rfl | exact Or.inr rfl)) (pss_cons (ps_set (i := 3) sc_law.nd rfl (by first | exact Or.inl rfl | exact Or.inr rfl) (pe_has H_law_drawn hr (by omega) rfl pass0 (pa_cons (pv 1) (pa_cons pe_int pa_nil))))
 (pss_cons (ps_set (i := 9) sc_law.nd rfl (by first | exact Or.inl rfl | exact Or.inr rfl) (pe_has H_law_drawn hr (by omega) rfl pass0 (pa_cons (pv 1) (pa_cons pe_int pa_nil))))
 (pss_cons (ps_set (i := 10) sc_law.nd rfl (by first | exact Or.inl rfl | exact Or.inr rfl) (pe_has H_law_answer hr (by omega) rfl pass0 (pa_cons (pv 9) (pa_cons (pe_ix (kix (K := K) rfl) (pv 2) (pv 3) (fun _ _ => rfl)) pa_nil))))
 (pss_cons (ps_if (PW.pt (pw_or (pt_not (pt_val (pe_has H_law_same hr (by omega) rfl pass0 (pa_cons (pv 10) (pa_cons (pe_ix (kix (K := K) rfl) (pe_ix (kix (K := K) rfl) (pv 7) (pv 3) (fun _ _ => rfl)) (pv 9) (fun _ _ => rfl)) pa_nil))))) (pw_or1 (pt_cmpR (kop_ne (K := K) rfl hr.units) (pe_tup (pa_cons (pe_ix (kix (K := K) rfl) (pe_ix (kix (K := K) rfl) (pv 2) (pv 3) (fun _ _ => rfl)) pe_int (fun _ _ => rfl)) (pa_cons (pe_ix (kix (K := K) rfl) (pe_ix (kix (K := K) rfl) (pv 2) (pv 3) (fun _ _ => rfl)) pe_int (fun _ _ => rfl)) pa_nil))) (pe_ix (kix (K := K) rfl) (pv 6) (pv 3) (fun _ _ => rfl)) (nomark _))))) (pss_one (ps_ret pe_bl)) pss_nil)
 (pss_cons (ps_for PassesOwn.never rfl (kpi_list (K := K) rfl (pv 10)) (pg_name (i := 11) sc_law.nd rfl (by first | exact Or.inl rfl | exact Or.inr rfl)) (pss_one (ps_if (pt_val (pe_callB (kcc_isi (K := K) rfl) rfl B.isinstance (by decide +kernel) (pa_cons (pv 11) (pa_cons (pe_bltn rfl B.list (by decide +kernel) (v := .ty "list") rfl) pa_nil)))) (pss_one (ps_expr (kpe_bm0 (K := K) rfl PySem.F.plainAttrs_list PySem.F.slot_list_reverse PySem.F.type_list_reverse mt_reverse (pv 11)))) pss_nil)))
 (pss_one (ps_expr (kpe_bm (K := K) rfl PySem.F.plainAttrs_list PySem.F.slot_list_append PySem.F.type_list_append mt_append (pv 10) (pa_cons pe_int pa_nil))))))))))
 (pss_one (ps_ret pe_bl)))))))), ?_⟩
    refine r_start (σ' := [some (.ref a), none, none, none, none, none, none, none, none, none, none, none, none, none]) rfl ?_
    walk_at "go"
    refine spStart_i hS fun st H1 _ sm1 s1 => ?_
    walk_at "go"
    intro cl ncl
    walk_at "go"
    refine ⟨_, rfl, by decide, by decide, fw_range (fun j σ H2 => ∃ v3 v4 v5, ∃ (css : List Addr) (Ds : List CD), σ = [some (.ref a), some (.ref st), some (.ref cl), v3, v4, v5, none, none, none, none, none, none, none, none] ∧ St H2 st a ∧ FrN H1 H2 ∧ Tabs TT H2 ∧
        H2 cl = some (.lst (css.map V.ref)) ∧ css.length = j ∧ CasesAt H2 css Ds ∧ ∀ D ∈ Ds, D.l ≠ cl ∧ D.gl ≠ cl)
      ⟨_, _, _, [], [], rfl, s1.new ncl, FrN.sm (same_new ncl), Tabs.ext (Tabs.ext hT sm1) (same_new ncl), upd_same, rfl, ⟨rfl, fun i c D h => by simp at h⟩, fun D h => by simp at h⟩ ?_ ?_⟩
    · rintro j σ H2 hj ⟨v3, v4, v5, css, Ds, rfl, s2, R12, T2, hcl2, hcj, hC2, hnc⟩
      have hS2 := R12.sq (sm1.seq hS)
      walk_at "go"
      refine spGear_i s2 hS2 fun g r p H3 r2 r6 p0 p6 _ s3 R3 hg => ?_
      have hS3 := fr_sq R3 hS2
      walk_at "go"
      refine spDrawn_i s3 hS3 (by omega) (by decide) fun n4 H4 a4 b4 s4 R4 => ?_
      have hS4 := fr_sq R4 hS3
      have hg4 := R4 _ _ hg nst_tup
      have R24 := R3.trans R4
      have hcl4 := R24 _ _ hcl2 nst_refs
      refine ⟨_, rfl, by omega, by omega, fun D nD => lcw_range (σw := [some (.ref a), some (.ref st), some (.ref cl), some (.int (0 + j)), some (.ref g), v5, none, none, none, none, none, none, none, none])
        (fun q H7 => ∃ gs : List Int, gs.length = q ∧ (∀ y ∈ gs, 0 ≤ y ∧ y < r) ∧ St H7 st a ∧ Fr H4 H7 ∧ H7 D = some (.lst (gs.map V.int))) rfl ⟨[], rfl, by simp, s4.new nD, fr_new nD (Fr.refl _), upd_same⟩ (fun q H7 hq h => ?_) fun H7 h => ?_⟩
      · obtain ⟨gs, hgl, hgb, s7, R7, hD⟩ := h
        have hS7 := fr_sq R7 hS4
        walk_at "go"
        refine ⟨rfl, ?_⟩
        walk_at "go"
        refine iteT ?_
        walk_at "go"
        refine spDrawn_i s7 hS7 (by omega) (small200 (by omega) (by omega)) fun v8 H8 a8 b8 s8 R8 => ?_
        have hD8 := R8 _ _ hD nst_ints
        refine ⟨_, hD8, by rw [List.length_map]; exact small1000 (by omega), gs ++ [v8], by simp [hgl], fun y hy => ?_, s8.wr hD8 nst_ints, fun b o e n => at_wr (ne_of_none e nD) (R8 _ _ (R7 _ _ e n) n), by rw [upd_same]; simp⟩
        rcases List.mem_append.mp hy with hy | hy
        · exact hgb y hy
        · rw [List.mem_singleton.mp hy]
          exact ⟨a8, b8⟩
      obtain ⟨gs, hgl, hgb, s7, R7, hD⟩ := h
      have hS7 := fr_sq R7 hS4
      have hg7 := R7 _ _ hg4 nst_tup
      have hcl7 := R7 _ _ hcl4 nst_refs
      have R27 := R24.trans R7
      have Dcl : D ≠ cl := fun e => by rw [e, hcl4] at nD; cases nD
      walk_at "go"
      refine ⟨r_tyL hcl7, ?_⟩
      walk_at "go"
      refine spStanding_i s7 hS7 hg7 p0 p6 fun z m s H8 z1 z2 z3 z4 s8 R8 hz => ?_
      have hS8 := fr_sq R8 hS7
      have hg8 := R8 _ _ hg7 nst_tup
      walk_at "go"
      refine spMoves_i s8 hS8 hg8 (by omega) r6 p0 p6 (by omega) (by omega) fun l ms H9 hml hmb s9 R9 hl nl => ?_
      have hS9 := fr_sq R9 hS8
      have hg9 := R9 _ _ hg8 nst_tup
      have lcl : l ≠ cl := fun e => by rw [e, R8 _ _ hcl7 nst_refs] at nl; cases nl
      walk_at "go"
      refine spMarks_i s9 hS9 hg9 (by omega) r6 fun mk mks H10 M s10 R10 hmk => ?_
      have hS10 := fr_sq R10 hS9
      walk_at "go"
      intro c nc
      walk_at "go"
      have R710 : Fr H7 H10 := (R8.trans R9).trans R10
      have R210 : FrN H2 (upd H10 c (.tup [.ref g, .ref z, .ref l, .ref D, .ref mk])) := (FrN.of (R27.trans R710)).trans (FrN.sm (same_new nc))
      have cAt : CaseAt (upd H10 c (.tup [.ref g, .ref z, .ref l, .ref D, .ref mk])) c ⟨g, z, l, D, mk, r, p, (m, s), ms, gs, mks⟩ :=
        ⟨upd_same, ⟨at_new nc (R10 _ _ hg9 nst_tup), r2, r6, p0, p6⟩, at_new nc ((R9.trans R10) _ _ hz nst_tup), ⟨z1, z2⟩, at_new nc (R10 _ _ hl nst_ints), by dsimp only; omega, fun q hq => by have := hmb q hq; dsimp only at *; omega, at_new nc (R710 _ _ hD nst_ints), by dsimp only; omega, hgb, at_new nc hmk, M⟩
      have hcl11 := R210.refs hcl2
      have s11 := s10.new (u := .tup [.ref g, .ref z, .ref l, .ref D, .ref mk]) nc
      have hS11 := R210.sq hS2
      have T11 : Tabs TT (upd H10 c (.tup [.ref g, .ref z, .ref l, .ref D, .ref mk])) := Tabs.ext (Tabs.fr T2 (R27.trans R710)) (same_new nc)
      have hC11 := hC2.frn R210
      have cne : c ≠ cl := ne_of cAt.at_ hcl11 fun q => nomatch q
      generalize upd H10 c (.tup [.ref g, .ref z, .ref l, .ref D, .ref mk]) = H11 at R210 cAt hcl11 s11 hS11 T11 hC11 ⊢
      refine r_appA hcl11 (by rw [List.length_map]; exact small1000 (by omega)) fun H12 e12 w12 => ?_
      walk_at "go"
      have cw : ∀ {c' : Addr} {D' : CD}, CaseAt H11 c' D' → D'.l ≠ cl → D'.gl ≠ cl → CaseAt H12 c' D' := fun {c' D'} C n1 n2 => by
        have nt : ∀ {b : Addr} {xs : List V}, H11 b = some (.tup xs) → b ≠ cl := fun e => ne_of e hcl11 fun q => nomatch q
        exact ⟨w12 _ _ (nt C.at_) C.at_, C.G.mono (w12 _ _ (nt C.G.at_) C.G.at_), w12 _ _ (nt C.hz) C.hz, C.hs, w12 _ _ n1 C.hl, C.hm, C.hb, w12 _ _ n2 C.hgl, C.hg, C.hgb, w12 _ _ (nt C.hmk) C.hmk, C.M⟩
      refine ⟨_, _, _, css ++ [c], Ds ++ [⟨g, z, l, D, mk, r, p, (m, s), ms, gs, mks⟩], rfl, st_but s11 (s11.ne hcl11 nst_refs) w12, ?_, Tabs.bl T11 hcl11 w12, by rw [e12]; simp, by simp [hcj], ⟨by simp [hC11.1], fun i c' D' h1 h2 => ?_⟩, fun D' hD' => ?_⟩
      · exact fun b o e n t => w12 _ _ (ne_of_none e ncl) ((R12.trans R210) b o e n t)
      · rcases at_snoc h1 with ⟨f1, g1⟩ | ⟨f1, rfl⟩
        · rcases at_snoc h2 with ⟨f2, g2⟩ | ⟨f2, rfl⟩
          · obtain ⟨n1, n2⟩ := hnc D' (List.mem_of_getElem? f2)
            exact cw (hC11.2 i c' D' f1 f2) n1 n2
          · have := hC11.1
            omega
        · rcases at_snoc h2 with ⟨f2, g2⟩ | ⟨f2, rfl⟩
          · have := hC11.1
            omega
          · exact cw cAt lcl Dcl
      · rcases List.mem_append.mp hD' with hD' | hD'
        · exact hnc D' hD'
        · rw [List.mem_singleton.mp hD']
          exact ⟨lcl, Dcl⟩
    · rintro σ H2 ⟨v3, v4, v5, css, Ds, rfl, s2, R12, T2, hcl2, hcj, hC2, hnc⟩
      have hcl_ : css.length = 2 := hcj
      have hDl : Ds.length = 2 := by rw [← hC2.1, hcl_]
      walk_at "go"
      refine ⟨_, rfl, ⟨_, SqL.of hcl2⟩, fun D nD => lcw_list (K := K) (a := cl) (xs := css.map V.ref) (σw := [some (.ref a), some (.ref st), some (.ref cl), v3, v4, v5, none, none, none, none, none, none, none, none])
        (fun i H8 => Same H2 H8 ∧ ∃ fs : List Addr, H8 D = some (.lst (fs.map V.ref)) ∧ fs.length = i ∧ ∀ (q : Nat) (f : Addr) (D' : CD), fs[q]? = some f → Ds[q]? = some D' → ∃ l1 l2, H8 f = some (.tup [.ref l1, .ref l2]) ∧ H8 l1 = some (.lst (D'.ms.map V.int)) ∧ H8 l2 = some (.lst (D'.gs.map V.int)) ∧ l1 ≠ D ∧ l2 ≠ D) rfl
        ⟨same_new nD, [], upd_same, rfl, fun q f D' h => by simp at h⟩ (fun i H8 _ h => SqL.of (h.1 _ _ hcl2)) (fun i y H8 hi h => ?_) fun H8 h => ?_⟩
      · obtain ⟨h8, fs, hD, hfl, hF⟩ := h
        obtain ⟨c, hc, rfl⟩ := map_at hi
        have hil := (List.getElem?_eq_some_iff.mp hc).1
        obtain ⟨D', hD'⟩ : ∃ D', Ds[i]? = some D' := ⟨_, List.getElem?_eq_getElem (by omega)⟩
        have C8 := (hC2.2 i c D' hc hD').frn (FrN.sm h8)
        have hc8 := C8.at_
        walk_at "go"
        refine ⟨rfl, ?_⟩
        walk_at "go"
        refine iteT ?_
        walk_at "go"
        refine r_listOf (.inl (SqL.of C8.hl)) fun l1 n1 => ?_
        walk_at "go"
        refine r_listOf (.inl (SqL.of (at_new n1 C8.hgl))) fun l2 n2 => ?_
        walk_at "go"
        intro f nf
        have S8 : Same H8 (upd (upd (upd H8 l1 (.lst (D'.ms.map V.int))) l2 (.lst (D'.gs.map V.int))) f (.tup [.ref l1, .ref l2])) := (same_new n1).trans ((same_new n2).trans (same_new nf))
        have hl1 : upd (upd (upd H8 l1 (.lst (D'.ms.map V.int))) l2 (.lst (D'.gs.map V.int))) f (.tup [.ref l1, .ref l2]) l1 = some (.lst (D'.ms.map V.int)) := at_new nf (at_new n2 upd_same)
        have hl2 : upd (upd (upd H8 l1 (.lst (D'.ms.map V.int))) l2 (.lst (D'.gs.map V.int))) f (.tup [.ref l1, .ref l2]) l2 = some (.lst (D'.gs.map V.int)) := at_new nf upd_same
        have hf : upd (upd (upd H8 l1 (.lst (D'.ms.map V.int))) l2 (.lst (D'.gs.map V.int))) f (.tup [.ref l1, .ref l2]) f = some (.tup [.ref l1, .ref l2]) := upd_same
        have l1D : l1 ≠ D := (ne_of_none hD n1).symm
        have l2D : l2 ≠ D := (ne_of_none (at_new n1 hD) n2).symm
        generalize upd (upd (upd H8 l1 (.lst (D'.ms.map V.int))) l2 (.lst (D'.gs.map V.int))) f (.tup [.ref l1, .ref l2]) = H9 at S8 hl1 hl2 hf ⊢
        have hD9 := S8 _ _ hD
        refine ⟨_, hD9, by rw [List.length_map]; exact small1000 (by omega), fun b o e => at_wr (ne_of_none e nD) (S8 _ _ (h8 _ _ e)), fs ++ [f], by rw [upd_same]; simp, by simp [hfl], fun q f' D2 h1 h2 => ?_⟩
        have tup_ : ∀ {b : Addr} {xs : List V}, H9 b = some (.tup xs) → b ≠ D := fun e => ne_of e hD9 fun q => nomatch q
        rcases at_snoc h1 with ⟨f1, _⟩ | ⟨f1, rfl⟩
        · obtain ⟨m1, m2, g1, g2, g3, g4, g5⟩ := hF q f' D2 f1 h2
          exact ⟨m1, m2, at_wr (tup_ (S8 _ _ g1)) (S8 _ _ g1), at_wr g4 (S8 _ _ g2), at_wr g5 (S8 _ _ g3), g4, g5⟩
        · rw [f1, hfl, hD'] at h2
          cases h2
          exact ⟨l1, l2, at_wr (tup_ hf) hf, at_wr l1D hl1, at_wr l2D hl2, l1D, l2D⟩
      obtain ⟨h8, fs, hDf, hfl, hF⟩ := h
      rw [List.length_map] at hfl
      have hcl8 := h8 _ _ hcl2
      have T8 := T2.ext h8
      have C8 := hC2.frn (FrN.sm h8)
      walk_at "go"
      refine ⟨_, rfl, ⟨_, SqL.of hcl8⟩, fun DK nDK => lcw_list (K := K) (a := cl) (xs := css.map V.ref) (σw := [some (.ref a), some (.ref st), some (.ref cl), v3, v4, v5, some (.ref D), none, none, none, none, none, none, none])
        (fun i H9 => ExtN H8 H9 ∧ Tabs TT H9 ∧ ∃ kds : List Addr, H9 DK = some (.lst (kds.map V.ref)) ∧ kds.length = i ∧ ∀ (q : Nat) (kd : Addr) (D' : CD), kds[q]? = some kd → Ds[q]? = some D' → KeptAt [DK] H9 kd D') rfl
        ⟨ExtN.of (same_new nDK), T8.ext (same_new nDK), [], upd_same, rfl, fun q f D' h => by simp at h⟩ (fun i H9 _ h => SqL.of (ExtN.at_lst h.1 hcl8)) (fun i y H9 hi h => ?_) fun H9 h => ?_⟩
      · obtain ⟨e9, T9, kds, hDK, hkl, hK⟩ := h
        obtain ⟨c, hc, rfl⟩ := map_at hi
        have hil := (List.getElem?_eq_some_iff.mp hc).1
        obtain ⟨D', hD'⟩ : ∃ D', Ds[i]? = some D' := ⟨_, List.getElem?_eq_getElem (by omega)⟩
        walk_at "go"
        refine ⟨rfl, ?_⟩
        walk_at "go"
        refine iteT ?_
        walk_at "go"
        refine ⟨_, rfl, by decide, by decide, fun D2 nD2 => lcw_range (σw := [some (.ref a), some (.ref st), some (.ref cl), v3, v4, v5, some (.ref D), none, none, none, none, none, some (.ref c), none])
          (fun wy H10 => ExtN H9 H10 ∧ Tabs TT H10 ∧ H10 DK = some (.lst (kds.map V.ref)) ∧ ∃ ks : List Addr, H10 D2 = some (.lst (ks.map V.ref)) ∧ ks.length = wy ∧ ∀ (q : Nat) (k : Addr), ks[q]? = some k → K1 [DK, D2] H10 q k D') rfl
          ⟨ExtN.of (same_new nD2), T9.ext (same_new nD2), at_new nD2 hDK, [], upd_same, rfl, fun q k h => by simp at h⟩ (fun wy H10 hwy h => ?_) fun H10 h => ?_⟩
        · obtain ⟨e10, T10, hDK10, ks, hD2, hksl, hKs⟩ := h
          have e0 : (0 : Int) + (wy : Int) = ((wy : Nat) : Int) := by omega
          have C10 := ((C8.2 i c D' hc hD').frn (FrN.ext e9)).frn (FrN.ext e10)
          walk_at "go"
          refine ⟨rfl, ?_⟩
          walk_at "go"
          refine iteT ?_
          walk_at "go"
          rw [e0]
          refine spAns_i (by omega) C10 T10 fun t xs ds H11 hans nt e11 T11 ht hels hnst hnew hxl => ?_
          walk_at "go"
          refine spCopied_i ht hels hxl hnst fun u ys H12 nu h12 hu hely hnsty hnewy => ?_
          have e1012 : ExtN H10 H12 := ExtN.trans e11 (ExtN.of h12)
          have hD2_11 : H11 D2 = some (.lst (ks.map V.ref)) := ExtN.at_lst e11 hD2
          have hDK_11 : H11 DK = some (.lst (kds.map V.ref)) := ExtN.at_lst e11 hDK10
          have hD2_12 := h12 _ _ hD2_11
          have DKD2 : DK ≠ D2 := ne_of_none hDK nD2
          have T12 := T11.ext h12
          have off : ∀ x, (∃ zs, H11 x = some (.lst zs)) → u ≠ x ∧ ∀ v ∈ ys, ∀ b, v = .ref b → b ≠ x := fun x ⟨zs, hx⟩ => by
            refine ⟨(ne_of_none hx nu).symm, fun v hv b e => ?_⟩
            rcases hnewy v hv b e with ⟨ts, q⟩ | ⟨q, _⟩
            · exact ne_of q (h12 _ _ hx) fun z => nomatch z
            · exact (ne_of_none hx q).symm
          have kn : K1 [DK, D2] H12 wy u D' := ⟨ys, ds, hu, hnsty, hely, hans, fun x hx => by
            simp only [List.mem_cons, List.not_mem_nil, or_false] at hx
            rcases hx with rfl | rfl
            · exact off _ ⟨_, hDK_11⟩
            · exact off _ ⟨_, hD2_11⟩⟩
          have wr : ∀ b o, b ≠ D2 → H12 b = some o → upd H12 D2 (.lst (ks.map V.ref ++ [.ref u])) b = some o := fun b o n e => at_wr n e
          have md : D2 ∈ [DK, D2] := List.mem_cons_of_mem _ List.mem_cons_self
          refine ⟨_, hD2_12, by rw [List.length_map]; exact small1000 (by omega), fun b o e tt => wr b o (ne_of_none e nD2) (e1012 _ _ (e10 _ _ e tt) tt), Tabs.bl T12 hD2_12 wr, wr _ _ DKD2 (h12 _ _ hDK_11), ks ++ [u], by rw [upd_same]; simp, by simp [hksl], fun q k h1 => ?_⟩
          rcases at_snoc h1 with ⟨f1, _⟩ | ⟨f1, rfl⟩
          · exact ((hKs q k f1).frn (FrN.ext e1012)).but md wr
          · rw [f1, hksl]
            exact kn.but md wr
        · obtain ⟨e10, T10, hDK10, ks, hD2, hksl, hKs⟩ := h
          have DKD2 : DK ≠ D2 := ne_of_none hDK nD2
          have wr : ∀ b o, b ≠ DK → H10 b = some o → upd H10 DK (.lst (kds.map V.ref ++ [.ref D2])) b = some o := fun b o n e => at_wr n e
          have mdk : DK ∈ [DK] := List.mem_cons_self
          refine ⟨_, hDK10, by rw [List.length_map]; exact small1000 (by omega), fun b o e tt => wr b o (ne_of_none e nDK) (e10 _ _ (e9 _ _ e tt) tt), Tabs.bl T10 hDK10 wr, kds ++ [D2], by rw [upd_same]; simp, by simp [hkl], fun q kd D3 h1 h2 => ?_⟩
          rcases at_snoc h1 with ⟨f1, _⟩ | ⟨f1, rfl⟩
          · exact ((hK q kd D3 f1 h2).frn (FrN.ext e10)).but mdk wr
          · rw [f1, hkl, hD'] at h2
            cases h2
            refine KeptAt.but mdk wr ⟨ks, hD2, hksl, fun x hx => ?_, fun wy k e => ?_⟩
            · rw [List.mem_singleton.mp hx]
              exact DKD2.symm
            · obtain ⟨xs, ds, g1, g2, g3, g4, g5⟩ := hKs wy k e
              exact ⟨xs, ds, g1, g2, g3, g4, fun x hx => g5 x (by rw [List.mem_singleton.mp hx]; exact List.mem_cons_self)⟩
      obtain ⟨e9, T9, kds, hDK, hkl, hK⟩ := h
      rw [List.length_map] at hkl
      have s9 : St H9 st a := ExtN.st e9 (s2.same h8)
      have R29 : FrN H2 H9 := (FrN.sm h8).trans (FrN.ext e9)
      have hS9 := (R12.trans R29).sq (sm1.seq hS)
      have C9 := hC2.frn R29
      have hcl9 := R29.refs hcl2
      have hDf9 : H9 D = some (.lst (fs.map V.ref)) := (FrN.ext e9).refs hDf
      have F9 : ∀ (q : Nat) (f : Addr) (D' : CD), fs[q]? = some f → Ds[q]? = some D' → FirstAt H9 f D' := fun q f D' h1 h2 => by
        obtain ⟨m1, m2, g1, g2, g3, _, _⟩ := hF q f D' h1 h2
        exact FirstAt.frn (FrN.ext e9) ⟨m1, m2, g1, g2, g3⟩
      walk_at "go"
      refine spDrawn_i s9 hS9 (by omega) (by decide) fun n10 H10 a10 b10 s10 R10 => ?_
      walk_at "go"
      refine ⟨_, rfl, by omega, by omega, fw_range (fun j σ H11 => ∃ v3 v8 v9 v10 v11, σ = [some (.ref a), some (.ref st), some (.ref cl), v3, v4, v5, some (.ref D), some (.ref DK), v8, v9, v10, v11, none, none] ∧ St H11 st a ∧ Tabs TT H11 ∧ FrN H9 H11)
        ⟨_, _, _, _, _, rfl, s10, Tabs.fr T9 R10, FrN.of R10⟩ ?_ ?_⟩
      · rintro j σ H11 hj ⟨v3, v8, v9, v10, v11, rfl, s11, T11, R11⟩
        have hS11 := R11.sq hS9
        walk_at "go"
        refine spDrawn_i s11 hS11 (by omega) (by decide) fun kk H12 a12 b12 s12 R12' => ?_
        have hS12 := fr_sq R12' hS11
        walk_at "go"
        refine spDrawn_i s12 hS12 (by omega) (by decide) fun wv H13 a13 b13 s13 R13 => ?_
        have R913 : FrN H9 H13 := R11.trans (FrN.of (R12'.trans R13))
        have T13 := Tabs.fr (Tabs.fr T11 R12') R13
        have hkk : kk = ((kk.toNat : Nat) : Int) := by omega
        have hwv : wv = ((wv.toNat : Nat) : Int) := by omega
        obtain ⟨c, hc⟩ : ∃ c, css[kk.toNat]? = some c := ⟨_, List.getElem?_eq_getElem (by omega)⟩
        obtain ⟨D', hD'⟩ : ∃ D', Ds[kk.toNat]? = some D' := ⟨_, List.getElem?_eq_getElem (by omega)⟩
        obtain ⟨f1, hf1⟩ : ∃ f, fs[kk.toNat]? = some f := ⟨_, List.getElem?_eq_getElem (by omega)⟩
        obtain ⟨kd, hkd⟩ : ∃ kd, kds[kk.toNat]? = some kd := ⟨_, List.getElem?_eq_getElem (by omega)⟩
        have C13 := (C9.2 _ c D' hc hD').frn R913
        have hcl13 := R913.refs hcl9
        walk_at "go"
        refine r_ix (v := .ref c) (.inl (SqL.of hcl13)) (at_of (j := kk.toNat) hkk (by rw [List.getElem?_map, hc]; rfl)) ?_
        walk_at "go"
        rw [hwv]
        refine spAns_i (by omega) C13 T13 fun t xs ds H14 hans nt e14 T14 ht hels hnst hnew hxl => ?_
        have R914 : FrN H9 H14 := R913.trans (FrN.ext e14)
        have s14 := ExtN.st e14 s13
        obtain ⟨ks, hkk1, hkk2, _, hkk3⟩ := (hK _ kd D' hkd hD').frn R914
        obtain ⟨k1, hk1⟩ : ∃ k, ks[wv.toNat]? = some k := ⟨_, List.getElem?_eq_getElem (by omega)⟩
        obtain ⟨xs2, ds2, g1, g2, g3, g4, _⟩ := hkk3 _ k1 hk1
        have eds := g4.one hans
        subst eds
        have hDK14 := R914.refs hDK
        walk_at "go"
        refine r_ix (v := .ref kd) (.inl (SqL.of hDK14)) (at_of (j := kk.toNat) hkk (by rw [List.getElem?_map, hkd]; rfl)) ?_
        walk_at "go"
        refine r_ix (v := .ref k1) (.inl (SqL.of hkk1)) (at_of (j := wv.toNat) rfl (by rw [List.getElem?_map, hk1]; rfl)) ?_
        walk_at "go"
        refine spSame_i (d := .list ds2) (.lst ht hels.all) (.lst g1 g3.all) g3.fl fun H15 h15 => ?_
        walk_at "go"
        refine iteF ?_
        have R915 := R914.trans (FrN.sm h15)
        have C15 := (C9.2 _ c D' hc hD').frn R915
        have hcl15 := R915.refs hcl9
        have hc15 := C15.at_
        obtain ⟨l1, l2, x1, x2, x3⟩ := (F9 _ f1 D' hf1 hD').frn R915
        have hDf15 := R915.refs hDf9
        walk_at "go"
        refine r_ix (v := .ref c) (.inl (SqL.of hcl15)) (at_of (j := kk.toNat) hkk (by rw [List.getElem?_map, hc]; rfl)) ?_
        walk_at "go"
        refine r_ix (v := .ref c) (.inl (SqL.of hcl15)) (at_of (j := kk.toNat) hkk (by rw [List.getElem?_map, hc]; rfl)) ?_
        walk_at "go"
        intro tp ntp
        walk_at "go"
        refine r_ix (v := .ref f1) (.inl (SqL.of (at_new ntp hDf15))) (at_of (j := kk.toNat) hkk (by rw [List.getElem?_map, hf1]; rfl)) ?_
        walk_at "go"
        refine r_neIs (d := .tuple [dInts D'.ms, dInts D'.gs]) (n := 2) (.tup upd_same (.cons (Is.ints (at_new ntp C15.hl)) (.cons (Is.ints (at_new ntp C15.hgl)) .nil))) (.tup (at_new ntp x1) (.cons (Is.ints (at_new ntp x2)) (.cons (Is.ints (at_new ntp x3)) .nil))) (Fl.tuple fun d h => by
          simp at h
          rcases h with rfl | rfl <;> exact Fl.ints _ _) ?_
        walk_at "go"
        refine iteF ?_
        have h1416 : Same H14 (upd H15 tp (.tup [.ref D'.l, .ref D'.gl])) := h15.trans (same_new ntp)
        generalize upd H15 tp (.tup [.ref D'.l, .ref D'.gl]) = H16 at h1416 ⊢
        have ht16 := h1416 _ _ ht
        have neT : ∀ {b : Addr} {o : HO} {p : Addr}, H9 b = some o → NotSt o → (∀ ps, o ≠ .tbl ps) → NT H13 p → b ≠ p := fun e n tt np z => by
          subst z
          obtain ⟨ps, y⟩ := np _ (R913 _ _ e n tt)
          exact tt ps y
        have stT : ∀ {p : Addr}, NT H13 p → st ≠ p := fun np => nt_ne s13 np
        walk_at "go"
        refine ⟨_, rfl, ⟨_, SqL.of ht16⟩, fw_list (K := K) (a := t) (xs := xs) (fun q σ H17 => ∃ v11, σ = [some (.ref a), some (.ref st), some (.ref cl), some (.int kk), v4, v5, some (.ref D), some (.ref DK), some (.int (0 + j)), some (.int (wv.toNat : Nat)), some (.ref t), v11, none, none] ∧ St H17 st a ∧ Tabs TT H17 ∧ FrN H9 H17 ∧ H17 t = some (.lst xs) ∧ ∀ v ∈ xs, OkV H13 H17 t v)
          ⟨_, rfl, s14.same h1416, T14.ext h1416, R914.trans (FrN.sm h1416), ht16, fun v hv => ?_⟩ (fun q σ H17 _ h => ?_) ?_ ?_⟩
        · obtain ⟨i, hi⟩ := List.mem_iff_getElem?.mp hv
          obtain ⟨d, hd⟩ : ∃ d, ds2[i]? = some d := ⟨_, List.getElem?_eq_getElem (by rw [← hels.1]; exact (List.getElem?_eq_some_iff.mp hi).1)⟩
          have o := okv_of (hels.2 i v d hi hd) hv hnew
          rcases o with o | o | o | ⟨b, zs, e, q⟩ | ⟨b, ys, e, q, n1, n2⟩
          · exact .inl o
          · exact .inr (.inl o)
          · exact .inr (.inr (.inl o))
          · exact .inr (.inr (.inr (.inl ⟨b, zs, e, h1416 _ _ q⟩)))
          · exact .inr (.inr (.inr (.inr ⟨b, ys, e, h1416 _ _ q, n1, n2⟩)))
        · obtain ⟨_, _, _, _, _, e, _⟩ := h
          exact SqL.of e
        · rintro q v σ H17 hq ⟨v11, rfl, s17, T17, R17, ht17, hok⟩
          have ov := hok v (List.mem_of_getElem? hq)
          walk_at "go"
          have keep : (∃ v11, [some (.ref a), some (.ref st), some (.ref cl), some (.int kk), v4, v5, some (.ref D), some (.ref DK), some (.int (0 + j)), some (.int (wv.toNat : Nat)), some (.ref t), some v, none, none] = [some (.ref a), some (.ref st), some (.ref cl), some (.int kk), v4, v5, some (.ref D), some (.ref DK), some (.int (0 + j)), some (.int (wv.toNat : Nat)), some (.ref t), v11, none, none] ∧ St H17 st a ∧ Tabs TT H17 ∧ FrN H9 H17 ∧ H17 t = some (.lst xs) ∧ ∀ v ∈ xs, OkV H13 H17 t v) := ⟨_, rfl, s17, T17, R17, ht17, hok⟩
          rcases ov with ⟨i, rfl⟩ | rfl | ⟨z, rfl⟩ | ⟨b, zs, rfl, hb⟩ | ⟨b, ys, rfl, hb, nb, nbt⟩
          · refine r_isi (.base (.int i)) (b := false) (by decide +kernel) ?_
            walk_at "go"
            refine iteF ?_
            walk_at "go"
            exact keep
          · refine r_isi (.base .non) (b := false) (by decide +kernel) ?_
            walk_at "go"
            refine iteF ?_
            walk_at "go"
            exact keep
          · refine r_isi (.base (.str z)) (b := false) (by decide +kernel) ?_
            walk_at "go"
            refine iteF ?_
            walk_at "go"
            exact keep
          · refine r_isi (.base (.tup hb)) (b := false) (by decide +kernel) ?_
            walk_at "go"
            refine iteF ?_
            walk_at "go"
            exact keep
          · refine r_isi (.base (.lst hb)) (b := true) (by decide +kernel) ?_
            walk_at "go"
            refine iteT ?_
            walk_at "go"
            refine ⟨r_tyL hb, ?_⟩
            refine r_revA hb fun H18 e18 w18 => ?_
            walk_at "go"
            refine ⟨_, rfl, st_but s17 (stT nb) w18, Tabs.bl T17 hb w18, fun b' o e n tt => w18 _ _ (neT e n tt nb) (R17 _ _ e n tt), w18 _ _ nbt.symm ht17, fun u hu => ?_⟩
            rcases hok u hu with o | o | o | ⟨b', zs, e, q⟩ | ⟨b', ys', e, q, n1, n2⟩
            · exact .inl o
            · exact .inr (.inl o)
            · exact .inr (.inr (.inl o))
            · exact .inr (.inr (.inr (.inl ⟨b', zs, e, w18 _ _ (ne_of q hb fun z => nomatch z) q⟩)))
            · by_cases z : b' = b
              · subst z
                exact .inr (.inr (.inr (.inr ⟨_, _, e, e18, n1, n2⟩)))
              · exact .inr (.inr (.inr (.inr ⟨b', ys', e, w18 _ _ z q, n1, n2⟩)))
        · rintro σ H17 ⟨v11, rfl, s17, T17, R17, ht17, hok⟩
          walk_at "go"
          refine ⟨r_tyL ht17, ?_⟩
          walk_at "go"
          refine r_appA ht17 (small1000 (by omega)) fun H18 e18 w18 => ?_
          walk_at "go"
          exact ⟨_, _, _, _, _, rfl, st_but s17 (stT nt) w18, Tabs.bl T17 ht17 w18, fun b' o e n tt => w18 _ _ (neT e n tt nt) (R17 _ _ e n tt)⟩
      · rintro σ H11 ⟨v3, v8, v9, v10, v11, rfl, s11, T11, R11⟩
        walk_at "go"
        exact k _
theorem law_fn {f : Addr} {fd : FuncData} {c_to P_to : Addr} (B : Bl mg) (F_need_gear : FunAt K mg "need_gear" s_need_gear) (F_need_standing : FunAt K mg "need_standing" s_need_standing) (F_need_moves : FunAt K mg "need_moves" s_need_moves) (F_behind : FunAt K mg "behind" s_behind) (F_all_behind : FunAt K mg "all_behind" s_all_behind) (F_trail : FunAt K mg "trail" s_trail) (F_stands : FunAt K mg "stands" s_stands) (F_need_marks : FunAt K mg "need_marks" s_need_marks) (F_sure : FunAt K mg "sure" s_sure) (F_both_ends : FunAt K mg "both_ends" s_both_ends) (F_known : FunAt K mg "known" s_known) (F_settled : FunAt K mg "settled" s_settled) (F_word_of : FunAt K mg "word_of" s_word_of) (F_written : FunAt K mg "written" s_written) (F_steps_of : FunAt K mg "steps_of" s_steps_of) (F_read_moves : FunAt K mg "read_moves" s_read_moves) (F_need_goals : FunAt K mg "need_goals" s_need_goals) (F_choices : FunAt K mg "choices" s_choices) (F_to : FunTab K mg "to" s_to c_to P_to) (F_best_path : FunAt K mg "best_path" s_best_path) (F_path : FunAt K mg "path" s_path) (F_all_orders : FunAt K mg "all_orders" s_all_orders) (F_tour : FunAt K mg "tour" s_tour) (F_law_start : FunAt K mg "_law_start" s_law_start) (F_law_drawn : FunAt K mg "_law_drawn" s_law_drawn) (F_law_same : FunAt K mg "_law_same" s_law_same) (F_law_gear : FunAt K mg "_law_gear" s_law_gear) (F_law_standing : FunAt K mg "_law_standing" s_law_standing) (F_law_moves : FunAt K mg "_law_moves" s_law_moves) (F_law_marks : FunAt K mg "_law_marks" s_law_marks) (F_law_answer : FunAt K mg "_law_answer" s_law_answer) (F_law_copied : FunAt K mg "_law_copied" s_law_copied) (M_MOST : Cn mg "MOST" 1000000) (M_MOST_MOVES : Cn mg "MOST_MOVES" 100) (M_MOST_MARKS : Cn mg "MOST_MARKS" 12) (M_MOST_FIGURES : Cn mg "MOST_FIGURES" 30) (M_MOST_GOALS : Cn mg "MOST_GOALS" 8) (M_MOST_TOUR : Cn mg "MOST_TOUR" 5) (M_FIGURES : CnS mg "FIGURES" "0123456789") (TB_to : LamX.TabB base mg c_to P_to) (F : Fun K "law" "law" s_law f fd) : FnOk P w K mg base CX0 13 f fd ["_law_script"] (spLawT K [(P_to, ("to" ++ ".<locals>." ++ "<lambda>" : Str))]) := by
  have H0 : Has P w K mg base CX0 1 "_law_start" (spStart K) := ok_law_start F_law_start
  have H1 : Has P w K mg base CX0 1 "_law_drawn" (spDrawn K) := ok_law_drawn B F_law_drawn
  have H2 : Has P w K mg base CX0 1 "need_gear" spNG := ok_need_gear F_need_gear M_MOST
  have H3 : Has P w K mg base CX0 2 "need_standing" spNS := ok_need_standing F_need_standing H2
  have H3b : Has P w K mg base CX0 1 "need_moves" (spNM K) := ok_need_moves B F_need_moves M_MOST_MOVES
  have H4 : Has P w K mg base CX0 3 "need_goals" (spGoals K) := ok_need_goals B F_need_goals H3
  have H4b : Has P w K mg base CX0 2 "need_marks" spNMk := ok_need_marks B F_need_marks M_MOST_MARKS H2
  have H5 : Has P w K mg base CX0 1 "behind" spBehind := ok_behind B F_behind
  have H5b : Has P w K mg base CX0 2 "all_behind" (spAB K) := ok_all_behind B F_all_behind H5
  have H7 : Has P w K mg base CX0 1 "choices" spChoices := ok_choices F_choices
  have H8 : Has P w K mg base CX0 10 "best_path" (spBest K 9) := ok_best_path B F_best_path H7 H5 9
  have H9 : Has P w K mg base CX0 6 "all_orders" (spAO K 6) := ok_all_orders B F_all_orders 6
  have H10 : Has P w K mg base CX0 3 "both_ends" (spBE K) := ok_both_ends B F_both_ends H5b
  have H11 : Has P w K mg base CX0 1 "word_of" spWord := ok_word_of B F_word_of
  have H12 : Has P w K mg base CX0 1 "steps_of" spStepsOf := ok_steps_of B F_steps_of M_MOST_FIGURES M_FIGURES
  have A := ok_law_answer (w := w) B F_law_answer (ok_trail F_trail H3 H3b H5b) (ok_stands B F_stands H3 H3b H5b) (ok_known F_known H2 H3b H10) (ok_settled B F_settled H2 H3b H10) (ok_sure B F_sure H4b) (ok_path B F_path M_MOST_GOALS H4 H8)
    (ok_to (TT := [(P_to, ("to" ++ ".<locals>." ++ "<lambda>" : Str))]) B F_to TB_to (List.mem_singleton.mpr rfl) (fun p hp _ => by rw [List.mem_singleton.mp hp]) H4 H7) (ok_tour B F_tour M_MOST_TOUR H4 H8 H9) (ok_written B F_written H3b H11) (ok_read_moves B F_read_moves H3b H12)
  exact ok_law B F H0 H1 (ok_law_same B F_law_same 3) (ok_law_gear B F_law_gear H1) (ok_law_standing B F_law_standing H1) (ok_law_moves B F_law_moves H1) (ok_law_marks B F_law_marks H1) A (ok_law_copied B F_law_copied)
end
theorem all_mk {l : PySem.W.OpenLaw} {w : World} {K : PySem.W.Frag} {h : Heap} {mg : Str → Option Value} {fa : Addr} {q : Program} (X : K.In h) (G : h.Ns mainGlobals mg) (hfa : mg "law" = some (.ref fa)) (TA : TabsAt q K h)
    {f0 : Addr} {od0 an0 : Option Addr} {sl0 : Array (Option Value)} {oc0 kV0 dc0 pm0 cd0 ct0 : Value}
    {f1 : Addr} {od1 an1 : Option Addr} {sl1 : Array (Option Value)} {oc1 kV1 dc1 pm1 cd1 ct1 : Value}
    {f2 : Addr} {od2 an2 : Option Addr} {sl2 : Array (Option Value)} {oc2 kV2 dc2 pm2 cd2 ct2 : Value}
    {f3 : Addr} {od3 an3 : Option Addr} {sl3 : Array (Option Value)} {oc3 kV3 dc3 pm3 cd3 ct3 : Value}
    {f4 : Addr} {od4 an4 : Option Addr} {sl4 : Array (Option Value)} {oc4 kV4 dc4 pm4 cd4 ct4 : Value}
    {f5 : Addr} {od5 an5 : Option Addr} {sl5 : Array (Option Value)} {oc5 kV5 dc5 pm5 cd5 ct5 : Value}
    {f6 : Addr} {od6 an6 : Option Addr} {sl6 : Array (Option Value)} {oc6 kV6 dc6 pm6 cd6 ct6 : Value}
    {f7 : Addr} {od7 an7 : Option Addr} {sl7 : Array (Option Value)} {oc7 kV7 dc7 pm7 cd7 ct7 : Value}
    {f8 : Addr} {od8 an8 : Option Addr} {sl8 : Array (Option Value)} {oc8 kV8 dc8 pm8 cd8 ct8 : Value}
    {f9 : Addr} {od9 an9 : Option Addr} {sl9 : Array (Option Value)} {oc9 kV9 dc9 pm9 cd9 ct9 : Value}
    {f10 : Addr} {od10 an10 : Option Addr} {sl10 : Array (Option Value)} {oc10 kV10 dc10 pm10 cd10 ct10 : Value}
    {f11 : Addr} {od11 an11 : Option Addr} {sl11 : Array (Option Value)} {oc11 kV11 dc11 pm11 cd11 ct11 : Value}
    {f12 : Addr} {od12 an12 : Option Addr} {sl12 : Array (Option Value)} {oc12 kV12 dc12 pm12 cd12 ct12 : Value}
    {f13 : Addr} {od13 an13 : Option Addr} {sl13 : Array (Option Value)} {oc13 kV13 dc13 pm13 cd13 ct13 : Value}
    {f14 : Addr} {od14 an14 : Option Addr} {sl14 : Array (Option Value)} {oc14 kV14 dc14 pm14 cd14 ct14 : Value}
    {f15 : Addr} {od15 an15 : Option Addr} {sl15 : Array (Option Value)} {oc15 kV15 dc15 pm15 cd15 ct15 : Value}
    {f16 : Addr} {od16 an16 : Option Addr} {sl16 : Array (Option Value)} {oc16 kV16 dc16 pm16 cd16 ct16 : Value}
    {f17 : Addr} {od17 an17 : Option Addr} {sl17 : Array (Option Value)} {oc17 kV17 dc17 pm17 cd17 ct17 : Value}
    {f18 : Addr} {od18 an18 : Option Addr} {sl18 : Array (Option Value)} {oc18 kV18 dc18 pm18 cd18 ct18 : Value}
    {f19 : Addr} {od19 an19 : Option Addr} {sl19 : Array (Option Value)} {oc19 kV19 dc19 pm19 cd19 ct19 : Value}
    {f20 : Addr} {od20 an20 : Option Addr} {sl20 : Array (Option Value)} {oc20 kV20 dc20 pm20 cd20 ct20 : Value}
    {f21 : Addr} {od21 an21 : Option Addr} {sl21 : Array (Option Value)} {oc21 kV21 dc21 pm21 cd21 ct21 : Value}
    {f22 : Addr} {od22 an22 : Option Addr} {sl22 : Array (Option Value)} {oc22 kV22 dc22 pm22 cd22 ct22 : Value}
    {f23 : Addr} {od23 an23 : Option Addr} {sl23 : Array (Option Value)} {oc23 kV23 dc23 pm23 cd23 ct23 : Value}
    {f24 : Addr} {od24 an24 : Option Addr} {sl24 : Array (Option Value)} {oc24 kV24 dc24 pm24 cd24 ct24 : Value}
    {f25 : Addr} {od25 an25 : Option Addr} {sl25 : Array (Option Value)} {oc25 kV25 dc25 pm25 cd25 ct25 : Value}
    {f26 : Addr} {od26 an26 : Option Addr} {sl26 : Array (Option Value)} {oc26 kV26 dc26 pm26 cd26 ct26 : Value}
    {f27 : Addr} {od27 an27 : Option Addr} {sl27 : Array (Option Value)} {oc27 kV27 dc27 pm27 cd27 ct27 : Value}
    {f28 : Addr} {od28 an28 : Option Addr} {sl28 : Array (Option Value)} {oc28 kV28 dc28 pm28 cd28 ct28 : Value}
    {f29 : Addr} {od29 an29 : Option Addr} {sl29 : Array (Option Value)} {oc29 kV29 dc29 pm29 cd29 ct29 : Value}
    {f30 : Addr} {od30 an30 : Option Addr} {sl30 : Array (Option Value)} {oc30 kV30 dc30 pm30 cd30 ct30 : Value}
    {f31 : Addr} {od31 an31 : Option Addr} {sl31 : Array (Option Value)} {oc31 kV31 dc31 pm31 cd31 ct31 : Value}
    {f32 : Addr} {od32 an32 : Option Addr} {sl32 : Array (Option Value)} {oc32 kV32 dc32 pm32 cd32 ct32 : Value}
    {t_MOST : Tok}
    {t_MOST_MOVES : Tok}
    {t_MOST_MARKS : Tok}
    {t_MOST_FIGURES : Tok}
    {t_MOST_GOALS : Tok}
    {t_MOST_TOUR : Tok}
    {t_FIGURES : Tok}
    {cc18 P18 : Addr}
    (a0 : PySem.W.nsIn K mainGlobals "need_gear" = some (some (.ref f0))) (l0 : K.lookup f0 = some ⟨oc0, od0, .func (PySem.W.fnOf "need_gear" "need_gear" (defArgs s_need_gear) (defBody s_need_gear) (defScope s_need_gear) .none kV0 dc0 pm0 an0 cd0 ct0), sl0⟩) (c0 : PySem.W.codeIn K cd0 "need_gear" = true) (k0 : PySem.W.keepIn K (.ref f0) = true)
    (a1 : PySem.W.nsIn K mainGlobals "need_standing" = some (some (.ref f1))) (l1 : K.lookup f1 = some ⟨oc1, od1, .func (PySem.W.fnOf "need_standing" "need_standing" (defArgs s_need_standing) (defBody s_need_standing) (defScope s_need_standing) .none kV1 dc1 pm1 an1 cd1 ct1), sl1⟩) (c1 : PySem.W.codeIn K cd1 "need_standing" = true) (k1 : PySem.W.keepIn K (.ref f1) = true)
    (a2 : PySem.W.nsIn K mainGlobals "need_moves" = some (some (.ref f2))) (l2 : K.lookup f2 = some ⟨oc2, od2, .func (PySem.W.fnOf "need_moves" "need_moves" (defArgs s_need_moves) (defBody s_need_moves) (defScope s_need_moves) .none kV2 dc2 pm2 an2 cd2 ct2), sl2⟩) (c2 : PySem.W.codeIn K cd2 "need_moves" = true) (k2 : PySem.W.keepIn K (.ref f2) = true)
    (a3 : PySem.W.nsIn K mainGlobals "behind" = some (some (.ref f3))) (l3 : K.lookup f3 = some ⟨oc3, od3, .func (PySem.W.fnOf "behind" "behind" (defArgs s_behind) (defBody s_behind) (defScope s_behind) .none kV3 dc3 pm3 an3 cd3 ct3), sl3⟩) (c3 : PySem.W.codeIn K cd3 "behind" = true) (k3 : PySem.W.keepIn K (.ref f3) = true)
    (a4 : PySem.W.nsIn K mainGlobals "all_behind" = some (some (.ref f4))) (l4 : K.lookup f4 = some ⟨oc4, od4, .func (PySem.W.fnOf "all_behind" "all_behind" (defArgs s_all_behind) (defBody s_all_behind) (defScope s_all_behind) .none kV4 dc4 pm4 an4 cd4 ct4), sl4⟩) (c4 : PySem.W.codeIn K cd4 "all_behind" = true) (k4 : PySem.W.keepIn K (.ref f4) = true)
    (a5 : PySem.W.nsIn K mainGlobals "trail" = some (some (.ref f5))) (l5 : K.lookup f5 = some ⟨oc5, od5, .func (PySem.W.fnOf "trail" "trail" (defArgs s_trail) (defBody s_trail) (defScope s_trail) .none kV5 dc5 pm5 an5 cd5 ct5), sl5⟩) (c5 : PySem.W.codeIn K cd5 "trail" = true) (k5 : PySem.W.keepIn K (.ref f5) = true)
    (a6 : PySem.W.nsIn K mainGlobals "stands" = some (some (.ref f6))) (l6 : K.lookup f6 = some ⟨oc6, od6, .func (PySem.W.fnOf "stands" "stands" (defArgs s_stands) (defBody s_stands) (defScope s_stands) .none kV6 dc6 pm6 an6 cd6 ct6), sl6⟩) (c6 : PySem.W.codeIn K cd6 "stands" = true) (k6 : PySem.W.keepIn K (.ref f6) = true)
    (a7 : PySem.W.nsIn K mainGlobals "need_marks" = some (some (.ref f7))) (l7 : K.lookup f7 = some ⟨oc7, od7, .func (PySem.W.fnOf "need_marks" "need_marks" (defArgs s_need_marks) (defBody s_need_marks) (defScope s_need_marks) .none kV7 dc7 pm7 an7 cd7 ct7), sl7⟩) (c7 : PySem.W.codeIn K cd7 "need_marks" = true) (k7 : PySem.W.keepIn K (.ref f7) = true)
    (a8 : PySem.W.nsIn K mainGlobals "sure" = some (some (.ref f8))) (l8 : K.lookup f8 = some ⟨oc8, od8, .func (PySem.W.fnOf "sure" "sure" (defArgs s_sure) (defBody s_sure) (defScope s_sure) .none kV8 dc8 pm8 an8 cd8 ct8), sl8⟩) (c8 : PySem.W.codeIn K cd8 "sure" = true) (k8 : PySem.W.keepIn K (.ref f8) = true)
    (a9 : PySem.W.nsIn K mainGlobals "both_ends" = some (some (.ref f9))) (l9 : K.lookup f9 = some ⟨oc9, od9, .func (PySem.W.fnOf "both_ends" "both_ends" (defArgs s_both_ends) (defBody s_both_ends) (defScope s_both_ends) .none kV9 dc9 pm9 an9 cd9 ct9), sl9⟩) (c9 : PySem.W.codeIn K cd9 "both_ends" = true) (k9 : PySem.W.keepIn K (.ref f9) = true)
    (a10 : PySem.W.nsIn K mainGlobals "known" = some (some (.ref f10))) (l10 : K.lookup f10 = some ⟨oc10, od10, .func (PySem.W.fnOf "known" "known" (defArgs s_known) (defBody s_known) (defScope s_known) .none kV10 dc10 pm10 an10 cd10 ct10), sl10⟩) (c10 : PySem.W.codeIn K cd10 "known" = true) (k10 : PySem.W.keepIn K (.ref f10) = true)
    (a11 : PySem.W.nsIn K mainGlobals "settled" = some (some (.ref f11))) (l11 : K.lookup f11 = some ⟨oc11, od11, .func (PySem.W.fnOf "settled" "settled" (defArgs s_settled) (defBody s_settled) (defScope s_settled) .none kV11 dc11 pm11 an11 cd11 ct11), sl11⟩) (c11 : PySem.W.codeIn K cd11 "settled" = true) (k11 : PySem.W.keepIn K (.ref f11) = true)
    (a12 : PySem.W.nsIn K mainGlobals "word_of" = some (some (.ref f12))) (l12 : K.lookup f12 = some ⟨oc12, od12, .func (PySem.W.fnOf "word_of" "word_of" (defArgs s_word_of) (defBody s_word_of) (defScope s_word_of) .none kV12 dc12 pm12 an12 cd12 ct12), sl12⟩) (c12 : PySem.W.codeIn K cd12 "word_of" = true) (k12 : PySem.W.keepIn K (.ref f12) = true)
    (a13 : PySem.W.nsIn K mainGlobals "written" = some (some (.ref f13))) (l13 : K.lookup f13 = some ⟨oc13, od13, .func (PySem.W.fnOf "written" "written" (defArgs s_written) (defBody s_written) (defScope s_written) .none kV13 dc13 pm13 an13 cd13 ct13), sl13⟩) (c13 : PySem.W.codeIn K cd13 "written" = true) (k13 : PySem.W.keepIn K (.ref f13) = true)
    (a14 : PySem.W.nsIn K mainGlobals "steps_of" = some (some (.ref f14))) (l14 : K.lookup f14 = some ⟨oc14, od14, .func (PySem.W.fnOf "steps_of" "steps_of" (defArgs s_steps_of) (defBody s_steps_of) (defScope s_steps_of) .none kV14 dc14 pm14 an14 cd14 ct14), sl14⟩) (c14 : PySem.W.codeIn K cd14 "steps_of" = true) (k14 : PySem.W.keepIn K (.ref f14) = true)
    (a15 : PySem.W.nsIn K mainGlobals "read_moves" = some (some (.ref f15))) (l15 : K.lookup f15 = some ⟨oc15, od15, .func (PySem.W.fnOf "read_moves" "read_moves" (defArgs s_read_moves) (defBody s_read_moves) (defScope s_read_moves) .none kV15 dc15 pm15 an15 cd15 ct15), sl15⟩) (c15 : PySem.W.codeIn K cd15 "read_moves" = true) (k15 : PySem.W.keepIn K (.ref f15) = true)
    (a16 : PySem.W.nsIn K mainGlobals "need_goals" = some (some (.ref f16))) (l16 : K.lookup f16 = some ⟨oc16, od16, .func (PySem.W.fnOf "need_goals" "need_goals" (defArgs s_need_goals) (defBody s_need_goals) (defScope s_need_goals) .none kV16 dc16 pm16 an16 cd16 ct16), sl16⟩) (c16 : PySem.W.codeIn K cd16 "need_goals" = true) (k16 : PySem.W.keepIn K (.ref f16) = true)
    (a17 : PySem.W.nsIn K mainGlobals "choices" = some (some (.ref f17))) (l17 : K.lookup f17 = some ⟨oc17, od17, .func (PySem.W.fnOf "choices" "choices" (defArgs s_choices) (defBody s_choices) (defScope s_choices) .none kV17 dc17 pm17 an17 cd17 ct17), sl17⟩) (c17 : PySem.W.codeIn K cd17 "choices" = true) (k17 : PySem.W.keepIn K (.ref f17) = true)
    (a18 : PySem.W.nsIn K mainGlobals "to" = some (some (.ref f18))) (l18 : K.lookup f18 = some ⟨oc18, od18, .func (PySem.W.fnOf "to" "to" (defArgs s_to) (defBody s_to) (defScope s_to) .none kV18 dc18 pm18 an18 cd18 ct18), sl18⟩) (c18 : PySem.W.codeIn K cd18 "to" = true) (k18 : PySem.W.keepIn K (.ref f18) = true)
    (a19 : PySem.W.nsIn K mainGlobals "best_path" = some (some (.ref f19))) (l19 : K.lookup f19 = some ⟨oc19, od19, .func (PySem.W.fnOf "best_path" "best_path" (defArgs s_best_path) (defBody s_best_path) (defScope s_best_path) .none kV19 dc19 pm19 an19 cd19 ct19), sl19⟩) (c19 : PySem.W.codeIn K cd19 "best_path" = true) (k19 : PySem.W.keepIn K (.ref f19) = true)
    (a20 : PySem.W.nsIn K mainGlobals "path" = some (some (.ref f20))) (l20 : K.lookup f20 = some ⟨oc20, od20, .func (PySem.W.fnOf "path" "path" (defArgs s_path) (defBody s_path) (defScope s_path) .none kV20 dc20 pm20 an20 cd20 ct20), sl20⟩) (c20 : PySem.W.codeIn K cd20 "path" = true) (k20 : PySem.W.keepIn K (.ref f20) = true)
    (a21 : PySem.W.nsIn K mainGlobals "all_orders" = some (some (.ref f21))) (l21 : K.lookup f21 = some ⟨oc21, od21, .func (PySem.W.fnOf "all_orders" "all_orders" (defArgs s_all_orders) (defBody s_all_orders) (defScope s_all_orders) .none kV21 dc21 pm21 an21 cd21 ct21), sl21⟩) (c21 : PySem.W.codeIn K cd21 "all_orders" = true) (k21 : PySem.W.keepIn K (.ref f21) = true)
    (a22 : PySem.W.nsIn K mainGlobals "tour" = some (some (.ref f22))) (l22 : K.lookup f22 = some ⟨oc22, od22, .func (PySem.W.fnOf "tour" "tour" (defArgs s_tour) (defBody s_tour) (defScope s_tour) .none kV22 dc22 pm22 an22 cd22 ct22), sl22⟩) (c22 : PySem.W.codeIn K cd22 "tour" = true) (k22 : PySem.W.keepIn K (.ref f22) = true)
    (a23 : PySem.W.nsIn K mainGlobals "_law_start" = some (some (.ref f23))) (l23 : K.lookup f23 = some ⟨oc23, od23, .func (PySem.W.fnOf "_law_start" "_law_start" (defArgs s_law_start) (defBody s_law_start) (defScope s_law_start) .none kV23 dc23 pm23 an23 cd23 ct23), sl23⟩) (c23 : PySem.W.codeIn K cd23 "_law_start" = true) (k23 : PySem.W.keepIn K (.ref f23) = true)
    (a24 : PySem.W.nsIn K mainGlobals "_law_drawn" = some (some (.ref f24))) (l24 : K.lookup f24 = some ⟨oc24, od24, .func (PySem.W.fnOf "_law_drawn" "_law_drawn" (defArgs s_law_drawn) (defBody s_law_drawn) (defScope s_law_drawn) .none kV24 dc24 pm24 an24 cd24 ct24), sl24⟩) (c24 : PySem.W.codeIn K cd24 "_law_drawn" = true) (k24 : PySem.W.keepIn K (.ref f24) = true)
    (a25 : PySem.W.nsIn K mainGlobals "_law_same" = some (some (.ref f25))) (l25 : K.lookup f25 = some ⟨oc25, od25, .func (PySem.W.fnOf "_law_same" "_law_same" (defArgs s_law_same) (defBody s_law_same) (defScope s_law_same) .none kV25 dc25 pm25 an25 cd25 ct25), sl25⟩) (c25 : PySem.W.codeIn K cd25 "_law_same" = true) (k25 : PySem.W.keepIn K (.ref f25) = true)
    (a26 : PySem.W.nsIn K mainGlobals "_law_gear" = some (some (.ref f26))) (l26 : K.lookup f26 = some ⟨oc26, od26, .func (PySem.W.fnOf "_law_gear" "_law_gear" (defArgs s_law_gear) (defBody s_law_gear) (defScope s_law_gear) .none kV26 dc26 pm26 an26 cd26 ct26), sl26⟩) (c26 : PySem.W.codeIn K cd26 "_law_gear" = true) (k26 : PySem.W.keepIn K (.ref f26) = true)
    (a27 : PySem.W.nsIn K mainGlobals "_law_standing" = some (some (.ref f27))) (l27 : K.lookup f27 = some ⟨oc27, od27, .func (PySem.W.fnOf "_law_standing" "_law_standing" (defArgs s_law_standing) (defBody s_law_standing) (defScope s_law_standing) .none kV27 dc27 pm27 an27 cd27 ct27), sl27⟩) (c27 : PySem.W.codeIn K cd27 "_law_standing" = true) (k27 : PySem.W.keepIn K (.ref f27) = true)
    (a28 : PySem.W.nsIn K mainGlobals "_law_moves" = some (some (.ref f28))) (l28 : K.lookup f28 = some ⟨oc28, od28, .func (PySem.W.fnOf "_law_moves" "_law_moves" (defArgs s_law_moves) (defBody s_law_moves) (defScope s_law_moves) .none kV28 dc28 pm28 an28 cd28 ct28), sl28⟩) (c28 : PySem.W.codeIn K cd28 "_law_moves" = true) (k28 : PySem.W.keepIn K (.ref f28) = true)
    (a29 : PySem.W.nsIn K mainGlobals "_law_marks" = some (some (.ref f29))) (l29 : K.lookup f29 = some ⟨oc29, od29, .func (PySem.W.fnOf "_law_marks" "_law_marks" (defArgs s_law_marks) (defBody s_law_marks) (defScope s_law_marks) .none kV29 dc29 pm29 an29 cd29 ct29), sl29⟩) (c29 : PySem.W.codeIn K cd29 "_law_marks" = true) (k29 : PySem.W.keepIn K (.ref f29) = true)
    (a30 : PySem.W.nsIn K mainGlobals "_law_answer" = some (some (.ref f30))) (l30 : K.lookup f30 = some ⟨oc30, od30, .func (PySem.W.fnOf "_law_answer" "_law_answer" (defArgs s_law_answer) (defBody s_law_answer) (defScope s_law_answer) .none kV30 dc30 pm30 an30 cd30 ct30), sl30⟩) (c30 : PySem.W.codeIn K cd30 "_law_answer" = true) (k30 : PySem.W.keepIn K (.ref f30) = true)
    (a31 : PySem.W.nsIn K mainGlobals "_law_copied" = some (some (.ref f31))) (l31 : K.lookup f31 = some ⟨oc31, od31, .func (PySem.W.fnOf "_law_copied" "_law_copied" (defArgs s_law_copied) (defBody s_law_copied) (defScope s_law_copied) .none kV31 dc31 pm31 an31 cd31 ct31), sl31⟩) (c31 : PySem.W.codeIn K cd31 "_law_copied" = true) (k31 : PySem.W.keepIn K (.ref f31) = true)
    (a32 : PySem.W.nsIn K mainGlobals "law" = some (some (.ref f32))) (l32 : K.lookup f32 = some ⟨oc32, od32, .func (PySem.W.fnOf "law" "law" (defArgs s_law) (defBody s_law) (defScope s_law) .none kV32 dc32 pm32 an32 cd32 ct32), sl32⟩) (c32 : PySem.W.codeIn K cd32 "law" = true) (k32 : PySem.W.keepIn K (.ref f32) = true)
    (m_MOST : PySem.W.nsIn K mainGlobals "MOST" = some (some (.int 1000000 t_MOST)))
    (m_MOST_MOVES : PySem.W.nsIn K mainGlobals "MOST_MOVES" = some (some (.int 100 t_MOST_MOVES)))
    (m_MOST_MARKS : PySem.W.nsIn K mainGlobals "MOST_MARKS" = some (some (.int 12 t_MOST_MARKS)))
    (m_MOST_FIGURES : PySem.W.nsIn K mainGlobals "MOST_FIGURES" = some (some (.int 30 t_MOST_FIGURES)))
    (m_MOST_GOALS : PySem.W.nsIn K mainGlobals "MOST_GOALS" = some (some (.int 8 t_MOST_GOALS)))
    (m_MOST_TOUR : PySem.W.nsIn K mainGlobals "MOST_TOUR" = some (some (.int 5 t_MOST_TOUR)))
    (m_FIGURES : PySem.W.nsIn K mainGlobals "FIGURES" = some (some (.str "0123456789" t_FIGURES)))
    (z_len : PySem.W.nsIn K mainGlobals "len" = some none)
    (z_range : PySem.W.nsIn K mainGlobals "range" = some none)
    (z_abs : PySem.W.nsIn K mainGlobals "abs" = some none)
    (z_max : PySem.W.nsIn K mainGlobals "max" = some none)
    (z_min : PySem.W.nsIn K mainGlobals "min" = some none)
    (z_list : PySem.W.nsIn K mainGlobals "list" = some none)
    (z_tuple : PySem.W.nsIn K mainGlobals "tuple" = some none)
    (z_int : PySem.W.nsIn K mainGlobals "int" = some none)
    (z_isinstance : PySem.W.nsIn K mainGlobals "isinstance" = some none)
    (z_sum : PySem.W.nsIn K mainGlobals "sum" = some none)
    (z_set : PySem.W.nsIn K mainGlobals "set" = some none)
    (z_sorted : PySem.W.nsIn K mainGlobals "sorted" = some none)
    (z_zip : PySem.W.nsIn K mainGlobals "zip" = some none)
    (z_enumerate : PySem.W.nsIn K mainGlobals "enumerate" = some none)
    (z_str : PySem.W.nsIn K mainGlobals "str" = some none)
    (z_bool : PySem.W.nsIn K mainGlobals "bool" = some none)
    (t18 : PySem.W.tabIn K "to" = some (cc18, P18)) (n18 : K.lookup P18 = none)
    (r18 : ((PyProof.Rows.recsOf q).any fun e => e.name == ("to" : Str)) = true) :
    LamX.LawAtS l w K CX0 13 63 "_law_script" mg fa h := by
  have e := hfa.symm.trans (PySem.W.mg_of X G a32)
  cases e
  have F := fun_mk (st := s_law) l32 c32 k32
  have B : Bl mg := ⟨PySem.W.mg_none_of X G z_len, PySem.W.mg_none_of X G z_range, PySem.W.mg_none_of X G z_abs, PySem.W.mg_none_of X G z_max, PySem.W.mg_none_of X G z_min, PySem.W.mg_none_of X G z_list, PySem.W.mg_none_of X G z_tuple, PySem.W.mg_none_of X G z_int, PySem.W.mg_none_of X G z_isinstance, PySem.W.mg_none_of X G z_sum, PySem.W.mg_none_of X G z_set, PySem.W.mg_none_of X G z_sorted, PySem.W.mg_none_of X G z_zip, PySem.W.mg_none_of X G z_enumerate, PySem.W.mg_none_of X G z_str, PySem.W.mg_none_of X G z_bool⟩
  have y1 : ∀ p ∈ ([(cc18, P18)] : List (Addr × Addr)), h.get? p.2 = some { cls := .none, data := .fields #[] } := fun p hp => by
    rw [List.mem_singleton.mp hp]
    exact (TA _ _ _ r18 t18).2
  have y2 : ∀ p ∈ ([(cc18, P18)] : List (Addr × Addr)), K.lookup p.2 = none := fun p hp => by
    rw [List.mem_singleton.mp hp]
    exact n18
  have y3 : ∀ p ∈ ([(cc18, P18)] : List (Addr × Addr)), PySem.W.CodeHd h p.1 p.2 := fun p hp => by
    rw [List.mem_singleton.mp hp]
    exact (TA _ _ _ r18 t18).1
  refine ⟨_, [(cc18, P18)], spLawT K [(P18, ("to" ++ ".<locals>." ++ "<lambda>" : Str))], y1, y2, y3, fun s v => .of_eq rfl, fun H a ns hl _ hH hS => ⟨a, ns, rfl, hS, hl, ?_, fun _ => rfl⟩, fun base _ _ TB => law_fn B (FunAt.mk' X G a0 l0 c0 k0) (FunAt.mk' X G a1 l1 c1 k1) (FunAt.mk' X G a2 l2 c2 k2) (FunAt.mk' X G a3 l3 c3 k3) (FunAt.mk' X G a4 l4 c4 k4) (FunAt.mk' X G a5 l5 c5 k5) (FunAt.mk' X G a6 l6 c6 k6) (FunAt.mk' X G a7 l7 c7 k7) (FunAt.mk' X G a8 l8 c8 k8) (FunAt.mk' X G a9 l9 c9 k9) (FunAt.mk' X G a10 l10 c10 k10) (FunAt.mk' X G a11 l11 c11 k11) (FunAt.mk' X G a12 l12 c12 k12) (FunAt.mk' X G a13 l13 c13 k13) (FunAt.mk' X G a14 l14 c14 k14) (FunAt.mk' X G a15 l15 c15 k15) (FunAt.mk' X G a16 l16 c16 k16) (FunAt.mk' X G a17 l17 c17 k17) (FunTab.mk' X G a18 l18 c18 k18 t18) (FunAt.mk' X G a19 l19 c19 k19) (FunAt.mk' X G a20 l20 c20 k20) (FunAt.mk' X G a21 l21 c21 k21) (FunAt.mk' X G a22 l22 c22 k22) (FunAt.mk' X G a23 l23 c23 k23) (FunAt.mk' X G a24 l24 c24 k24) (FunAt.mk' X G a25 l25 c25 k25) (FunAt.mk' X G a26 l26 c26 k26) (FunAt.mk' X G a27 l27 c27 k27) (FunAt.mk' X G a28 l28 c28 k28) (FunAt.mk' X G a29 l29 c29 k29) (FunAt.mk' X G a30 l30 c30 k30) (FunAt.mk' X G a31 l31 c31 k31) ⟨_, PySem.W.mg_of X G m_MOST⟩ ⟨_, PySem.W.mg_of X G m_MOST_MOVES⟩ ⟨_, PySem.W.mg_of X G m_MOST_MARKS⟩ ⟨_, PySem.W.mg_of X G m_MOST_FIGURES⟩ ⟨_, PySem.W.mg_of X G m_MOST_GOALS⟩ ⟨_, PySem.W.mg_of X G m_MOST_TOUR⟩ ⟨_, PySem.W.mg_of X G m_FIGURES⟩ (TB (cc18, P18) (by simp)) F⟩
  · intro p hp
    rw [List.mem_singleton.mp hp]
    exact LamX.TabS.nil (hH (cc18, P18) (by simp))
end Rd
open PySem PySem.W PyProof.Rows
set_option maxRecDepth 100000 in
set_option maxHeartbeats 0 in
theorem PySem.Challenge.cw_stepgear_k12_asked_again_holds : PySem.Challenge.rw_stepgear_k12_asked_again.Holds := by
  w_on; o_law; k_head; (case hw => w_witness2)
  k_fill
  refine Rd.walk_tabs (l := PySem.Challenge.rw_stepgear_k12_asked_again) (n := 63) (k := 13) (x := "_law_script") (CX := fun _ => L2.CX0) rfl (by decide) rfl ⟨rfl, by decide, by decide⟩ (fun w h Y => PySem.W.km_in_of Y) ?F (fun _ _ _ _ _ h => h)
  case F =>
    intro w mg fa h Y KX G hmg TA
    refine' Rd.all_mk KX G hmg TA ?a0 ?l0 ?c0 ?k0 ?a1 ?l1 ?c1 ?k1 ?a2 ?l2 ?c2 ?k2 ?a3 ?l3 ?c3 ?k3 ?a4 ?l4 ?c4 ?k4 ?a5 ?l5 ?c5 ?k5 ?a6 ?l6 ?c6 ?k6 ?a7 ?l7 ?c7 ?k7 ?a8 ?l8 ?c8 ?k8 ?a9 ?l9 ?c9 ?k9 ?a10 ?l10 ?c10 ?k10 ?a11 ?l11 ?c11 ?k11 ?a12 ?l12 ?c12 ?k12 ?a13 ?l13 ?c13 ?k13 ?a14 ?l14 ?c14 ?k14 ?a15 ?l15 ?c15 ?k15 ?a16 ?l16 ?c16 ?k16 ?a17 ?l17 ?c17 ?k17 ?a18 ?l18 ?c18 ?k18 ?a19 ?l19 ?c19 ?k19 ?a20 ?l20 ?c20 ?k20 ?a21 ?l21 ?c21 ?k21 ?a22 ?l22 ?c22 ?k22 ?a23 ?l23 ?c23 ?k23 ?a24 ?l24 ?c24 ?k24 ?a25 ?l25 ?c25 ?k25 ?a26 ?l26 ?c26 ?k26 ?a27 ?l27 ?c27 ?k27 ?a28 ?l28 ?c28 ?k28 ?a29 ?l29 ?c29 ?k29 ?a30 ?l30 ?c30 ?k30 ?a31 ?l31 ?c31 ?k31 ?a32 ?l32 ?c32 ?k32 ?m_MOST ?m_MOST_MOVES ?m_MOST_MARKS ?m_MOST_FIGURES ?m_MOST_GOALS ?m_MOST_TOUR ?m_FIGURES ?z_len ?z_range ?z_abs ?z_max ?z_min ?z_list ?z_tuple ?z_int ?z_isinstance ?z_sum ?z_set ?z_sorted ?z_zip ?z_enumerate ?z_str ?z_bool ?t18 ?n18 ?r18
    (case a0 => k_is)
    (case l0 => k_is)
    (case c0 => k_is)
    (case k0 => k_is)
    (case a1 => k_is)
    (case l1 => k_is)
    (case c1 => k_is)
    (case k1 => k_is)
    (case a2 => k_is)
    (case l2 => k_is)
    (case c2 => k_is)
    (case k2 => k_is)
    (case a3 => k_is)
    (case l3 => k_is)
    (case c3 => k_is)
    (case k3 => k_is)
    (case a4 => k_is)
    (case l4 => k_is)
    (case c4 => k_is)
    (case k4 => k_is)
    (case a5 => k_is)
    (case l5 => k_is)
    (case c5 => k_is)
    (case k5 => k_is)
    (case a6 => k_is)
    (case l6 => k_is)
    (case c6 => k_is)
    (case k6 => k_is)
    (case a7 => k_is)
    (case l7 => k_is)
    (case c7 => k_is)
    (case k7 => k_is)
    (case a8 => k_is)
    (case l8 => k_is)
    (case c8 => k_is)
    (case k8 => k_is)
    (case a9 => k_is)
    (case l9 => k_is)
    (case c9 => k_is)
    (case k9 => k_is)
    (case a10 => k_is)
    (case l10 => k_is)
    (case c10 => k_is)
    (case k10 => k_is)
    (case a11 => k_is)
    (case l11 => k_is)
    (case c11 => k_is)
    (case k11 => k_is)
    (case a12 => k_is)
    (case l12 => k_is)
    (case c12 => k_is)
    (case k12 => k_is)
    (case a13 => k_is)
    (case l13 => k_is)
    (case c13 => k_is)
    (case k13 => k_is)
    (case a14 => k_is)
    (case l14 => k_is)
    (case c14 => k_is)
    (case k14 => k_is)
    (case a15 => k_is)
    (case l15 => k_is)
    (case c15 => k_is)
    (case k15 => k_is)
    (case a16 => k_is)
    (case l16 => k_is)
    (case c16 => k_is)
    (case k16 => k_is)
    (case a17 => k_is)
    (case l17 => k_is)
    (case c17 => k_is)
    (case k17 => k_is)
    (case a18 => k_is)
    (case l18 => k_is)
    (case c18 => k_is)
    (case k18 => k_is)
    (case a19 => k_is)
    (case l19 => k_is)
    (case c19 => k_is)
    (case k19 => k_is)
    (case a20 => k_is)
    (case l20 => k_is)
    (case c20 => k_is)
    (case k20 => k_is)
    (case a21 => k_is)
    (case l21 => k_is)
    (case c21 => k_is)
    (case k21 => k_is)
    (case a22 => k_is)
    (case l22 => k_is)
    (case c22 => k_is)
    (case k22 => k_is)
    (case a23 => k_is)
    (case l23 => k_is)
    (case c23 => k_is)
    (case k23 => k_is)
    (case a24 => k_is)
    (case l24 => k_is)
    (case c24 => k_is)
    (case k24 => k_is)
    (case a25 => k_is)
    (case l25 => k_is)
    (case c25 => k_is)
    (case k25 => k_is)
    (case a26 => k_is)
    (case l26 => k_is)
    (case c26 => k_is)
    (case k26 => k_is)
    (case a27 => k_is)
    (case l27 => k_is)
    (case c27 => k_is)
    (case k27 => k_is)
    (case a28 => k_is)
    (case l28 => k_is)
    (case c28 => k_is)
    (case k28 => k_is)
    (case a29 => k_is)
    (case l29 => k_is)
    (case c29 => k_is)
    (case k29 => k_is)
    (case a30 => k_is)
    (case l30 => k_is)
    (case c30 => k_is)
    (case k30 => k_is)
    (case a31 => k_is)
    (case l31 => k_is)
    (case c31 => k_is)
    (case k31 => k_is)
    (case a32 => k_is)
    (case l32 => k_is)
    (case c32 => k_is)
    (case k32 => k_is)
    (case m_MOST => k_is)
    (case m_MOST_MOVES => k_is)
    (case m_MOST_MARKS => k_is)
    (case m_MOST_FIGURES => k_is)
    (case m_MOST_GOALS => k_is)
    (case m_MOST_TOUR => k_is)
    (case m_FIGURES => k_is)
    (case z_len => k_is)
    (case z_range => k_is)
    (case z_abs => k_is)
    (case z_max => k_is)
    (case z_min => k_is)
    (case z_list => k_is)
    (case z_tuple => k_is)
    (case z_int => k_is)
    (case z_isinstance => k_is)
    (case z_sum => k_is)
    (case z_set => k_is)
    (case z_sorted => k_is)
    (case z_zip => k_is)
    (case z_enumerate => k_is)
    (case z_str => k_is)
    (case z_bool => k_is)
    (case t18 => with_unfolding_all rfl)
    (case n18 => first | k_is | with_unfolding_all rfl)
    (case r18 => first | rfl | decide +kernel)

