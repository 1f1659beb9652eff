import PyProof.Rows.All
import Wide.All
import OpenK.AllK
import Wide.FinOn
import PyProof.ZipIter
import KE.KItemsList
import HandS.ForMost
import HandS.Wide
import HandS.TupAny
import HandS.IsInst
import HandS.Walk
import HandS.ListItems
import HandS.Conv
import HandS.EndTab
import HandS.TupLe
import KE.DataMinKey
import KE.KNestM
import HandS.SetFor
import HandS.Strs
import HandS.SortRule
import HandS.ExcInit
import HandS.ExcField
import HandS.ClsMeth
import HandS.ExcIs
import HandS.WordsExc
import KE.KExcIs
import HandS.Codes
import HandS.Nested
import PySem.Challenge.RW_stepgear_k08_keepers
set_option Elab.async false
set_option linter.all false
set_option maxRecDepth 100000
set_option maxHeartbeats 4000000
namespace Rd
open PySem PySem.Spec PyProof.Rows L2
/-! ## defs by name -/
/-- the name x stands for a def that keeps the promise sp, at level k -/
structure Has (P : Program) (w : World) (K : PySem.W.Frag) (mg : Str → Option Value) (base : Heap) (CX : CXT) (k : Nat) (x : Str) (sp : Sp) : Prop where
  ex : ∃ (f : Addr) (fd : FuncData) (ps : List Str), FnOk P w K mg base CX k f fd ps sp ∧ mg x = some (.ref f) ∧ PySem.W.keepIn K (.ref f) = true ∧ Binds K fd ps []
theorem Has.imp {P : Program} {w : World} {K : PySem.W.Frag} {mg : Str → Option Value} {base : Heap} {CX : CXT} {k : Nat} {x : Str} {sp sp' : Sp} (h : Has P w K mg base CX k x sp) (i : ∀ vs H Q E, sp' vs H Q E → sp vs H Q E) : Has P w K mg base CX k x sp' := by
  obtain ⟨f, fd, ps, F, r⟩ := h.ex
  exact ⟨f, fd, ps, F.imp i, r⟩
theorem Has.mono {P : Program} {w : World} {K : PySem.W.Frag} {mg : Str → Option Value} {base : Heap} {CX : CXT} {j k : Nat} {x : Str} {sp : Sp} (h : Has P w K mg base CX j x sp) (i : j ≤ k) : Has P w K mg base CX k x sp := by
  obtain ⟨f, fd, ps, F, r⟩ := h.ex
  exact ⟨f, fd, ps, F.mono i, r⟩
/-- the def st of the text stands at the name x -/
structure FunAt (K : PySem.W.Frag) (mg : Str → Option Value) (x : Str) (st : Stmt) : Prop where
  ex : ∃ (f : Addr) (fd : FuncData), Fun K x x st f fd ∧ mg x = some (.ref f)
section
variable {P : Program} {w : World} {K : PySem.W.Frag} {mg : Str → Option Value} {base : Heap}
def BindOk (x : Str) (st : Stmt) (ps : List Str) : Prop := ∀ (kV doc pm : Value) (an : Option Addr) (cdv ct : Value) (us : List Value), us.length = ps.length → bindArgs (PySem.W.fnOf x x (defArgs st) (defBody st) (defScope st) .none kV doc pm an cdv ct) ⟨us, []⟩ = pure (ps.zip us)
def BindOkQ (x q : Str) (st : Stmt) (ps : List Str) : Prop := ∀ (kV doc pm : Value) (an : Option Addr) (cdv ct : Value) (us : List Value), us.length = ps.length → bindArgs (PySem.W.fnOf x q (defArgs st) (defBody st) (defScope st) .none kV doc pm an cdv ct) ⟨us, []⟩ = pure (ps.zip us)
/-- a def that lets no exception out -/
theorem FunAt.ok {x : Str} {st : Stmt} {N ps : List Str} {k : Nat} {sp : Sp} (F : FunAt K mg x st) (S : FnScope N ps (defScope st)) (bo : BindOk x st ps) (len : ∀ vs H Q E, sp vs H Q E → vs.length = ps.length)
    (hbody : ∀ (f : Addr) (cdv : Value) (A : Around) (outer : List Env) (s : Shared) (H : Hp) (vs : List V) (Q : VK) (E : XK), Room k (A.deeper (envOfC x (defScope st) s.heap.objs.size f cdv)) → sp vs H Q E →
      ∃ t, PSs (cxOf CX0 P w K mg base N x (defScope st) f cdv A outer s H E).nox (defBody st) t ∧ t { nx := fun _ H' => Q .non H', rt := Q } (start N vs) H) : Has P w K mg base CX0 (k + 1) x sp := by
  obtain ⟨f, fd, F, hm⟩ := F.ex
  exact ⟨f, fd, ps, F.ok S len fun cdv A outer s H vs Q E hr h => hbody f cdv A outer s H vs Q E hr h, hm, F.kp, F.binds bo⟩
theorem FunAt.mk' {x : Str} {st : Stmt} {h : Heap} (X : K.In h) (G : h.Ns mainGlobals mg) {f : Addr} {oc : Value} {od an : Option Addr} {osl : Array (Option Value)} {kV doc pm cdv ct : Value}
    (a : PySem.W.nsIn K mainGlobals x = some (some (.ref f)))
    (l : K.lookup f = some ⟨oc, od, .func (PySem.W.fnOf x x (defArgs st) (defBody st) (defScope st) .none kV doc pm an cdv ct), osl⟩)
    (c : PySem.W.codeIn K cdv x = true) (k : PySem.W.keepIn K (.ref f) = true) : FunAt K mg x st := ⟨f, _, fun_mk l c k, PySem.W.mg_of X G a⟩
end
section
variable {X : Cx} {CX : CXT} {k j : Nat} {sp : Sp} {E : XK} {x : Str} {p pos : Pos} {e : Expr} {es : List Expr} {t : TA}
theorem pe_has (h : Has X.prog X.w X.K X.mg X.base CX k x sp) (hr : Room j X.A) (hk : k ≤ j) (hg : Gl X x) (hx : Passes CX X E)
    (ha : PA X (e :: es) t) (hdb : (x == ("__debug__" : Str)) = false := by decide) (he : starEach (e :: es) X.env = (false, eval e X.env) :: starEach es X.env := by rfl) (hpl : (backTo pos (starEach es X.env)).any (·.1) = false := by rfl) :
    PE X (.Call (.Name x p) (e :: es) [] pos) (tCall sp [] E t) := by
  obtain ⟨f, fd, ps, F, hm, kp, b⟩ := h.ex
  exact pe_call F (hr.mono hk) hg hm kp b .nil hx ha hdb he hpl
end
/-- the built-ins' names are still theirs -/
structure Bl (mg : Str → Option Value) : Prop where
  len : mg "len" = none
  range : mg "range" = none
  abs : mg "abs" = none
  max : mg "max" = none
  min : mg "min" = none
  list : mg "list" = none
  tuple : mg "tuple" = none
  int : mg "int" = none
  isinstance : mg "isinstance" = none
  sum : mg "sum" = none
  set : mg "set" = none
  sorted : mg "sorted" = none
  zip : mg "zip" = none
  enumerate : mg "enumerate" = none
  str : mg "str" = none
  bool : mg "bool" = none
/-! ## unions of rules -/
section
variable {X : Cx}
def rAddA (K : PySem.W.Frag) : R2 := fun x y H Q => rI0 (fun i j => .int (i + j)) x y H Q ∨ ((∃ i j, x = .str i ∧ y = .str j ∧ i.length + j.length ≤ sizeLine ∧ Q (.str (i ++ j)) H) ∨ (rCat x y H Q ∨ rCatA K x y H Q))
theorem op_addA : OpR X (binaryOp .Add) (rAddA X.K) := OpR.or op_add (OpR.or op_add_str (OpR.or op_cat op_catA))
def rEqA (K : PySem.W.Frag) : R2 := fun x y H Q => rEq x y H Q ∨ rEqD K x y H Q
def rNeA (K : PySem.W.Frag) : R2 := fun x y H Q => rNe x y H Q ∨ rNeD K x y H Q
theorem op_eqA (hu : X.A.units + 64 < cLine) : OpR X (compareOp .Eq) (rEqA X.K) := OpR.or op_eq (op_eqD hu)
theorem op_neA (hu : X.A.units + 64 < cLine) : OpR X (compareOp .NotEq) (rNeA X.K) := OpR.or op_ne (op_neD hu)
def rLen (K : PySem.W.Frag) : List V → Hp → VK → Prop := fun xs H Q => (∃ p ys, xs = [.ref p] ∧ (SqL K H p ys ∨ SqT K H p ys) ∧ (ys.length ≤ 16777216 → Q (.int ys.length) H)) ∨ (∃ z, xs = [.str z] ∧ z.length ≤ sizeLine ∧ Q (.int z.length) H)
theorem call_lenA : CallR X (.builtin "len") (rLen X.K) := by
  refine CallR.or (fun pins s σ H xs us Q I r h => ?_) call_len_str
  obtain ⟨p, ys, e, hq, q⟩ := h
  have hz : ys.length ≤ 16777216 := by
    rcases hq with h | h
    · obtain ⟨_, _, _, z⟩ := I.list h
      rwa [PySem.sizeLine_eq] at z
    · obtain ⟨_, _, _, z⟩ := I.tuple h
      rwa [PySem.sizeLine_eq] at z
  exact call_len_seq pins s σ H xs us Q I r ⟨p, ys, e, hq, q hz⟩
def rMaxA (K : PySem.W.Frag) : List V → Hp → VK → Prop := fun xs H Q => (∃ i j, xs = [.int i, .int j] ∧ Q (.int (if j > i then j else i)) H) ∨ rMax K xs H Q
def rMinA (K : PySem.W.Frag) : List V → Hp → VK → Prop := fun xs H Q => (∃ i j, xs = [.int i, .int j] ∧ Q (.int (if j < i then j else i)) H) ∨ rMin K xs H Q
theorem call_maxA (hc : X.calm = true) : CallR X (.builtin "max") (rMaxA X.K) := CallR.or (call_max2 hc) (cr_max hc)
theorem call_minA (hc : X.calm = true) : CallR X (.builtin "min") (rMinA X.K) := CallR.or (call_min2 hc) (cr_min hc)
def rAbs : List V → Hp → VK → Prop := fun xs H Q => ∃ i, xs = [.int i] ∧ Q (.int (if i < 0 then -i else i)) H
theorem call_absA : CallR X (.builtin "abs") rAbs := call_abs
def rInt1 : List V → Hp → VK → Prop := fun xs H Q => (∃ i, xs = [.int i] ∧ Q (.int i) H) ∨ ∃ k, xs = [.bl k] ∧ Q (.int (if k then 1 else 0)) H
theorem call_intA : CallR X (.type "int") rInt1 := call_int1
def rListOf (K : PySem.W.Frag) : List V → Hp → VK → Prop := fun xs H Q => ∃ p ys, xs = [.ref p] ∧ (SqL K H p ys ∨ SqT K H p ys) ∧ ∀ l, H l = none → Q (.ref l) (upd H l (.lst ys))
theorem call_listA : CallR X (.type "list") (rListOf X.K) := call_list_of
def rTupOf (K : PySem.W.Frag) : List V → Hp → VK → Prop := fun xs H Q => ∃ p ys, xs = [.ref p] ∧ ((SqL K H p ys ∧ ∀ l, H l = none → Q (.ref l) (upd H l (.tup ys))) ∨ (SqT K H p ys ∧ Q (.ref p) H))
theorem call_tupA : CallR X (.type "tuple") (rTupOf X.K) := call_tuple_of
def rSlAll (K : PySem.W.Frag) : V → Option Int → Option Int → Hp → VK → Prop := fun x lo hi H Q => rSlL K x lo hi H Q ∨ (rSlA K x lo hi H Q ∨ rSlS x lo hi H Q)
theorem sl_all : SlR X (rSlAll X.K) := SlR.or sl_list (SlR.or sl_tupA sl_str)
end
/-! ## the rules again, the written part K named -/
section
variable {X : Cx} {K : PySem.W.Frag}
theorem kop_add (h : X.K = K) : OpR X (binaryOp .Add) (rAddA K) := by subst h; exact op_addA
theorem kop_eq (h : X.K = K) (hu : X.A.units + 64 < cLine) : OpR X (compareOp .Eq) (rEqA K) := by subst h; exact op_eqA hu
theorem kop_ne (h : X.K = K) (hu : X.A.units + 64 < cLine) : OpR X (compareOp .NotEq) (rNeA K) := by subst h; exact op_neA hu
theorem kix (h : X.K = K) : IxR X (rIx K) := by subst h; exact ix_seq
theorem ksl (h : X.K = K) : SlR X (rSlAll K) := by subst h; exact sl_all
theorem kc_len (h : X.K = K) : CallR X (.builtin "len") (rLen K) := by subst h; exact call_lenA
theorem kc_max (h : X.K = K) (hc : X.calm = true) : CallR X (.builtin "max") (rMaxA K) := by subst h; exact call_maxA hc
theorem kc_min (h : X.K = K) (hc : X.calm = true) : CallR X (.builtin "min") (rMinA K) := by subst h; exact call_minA hc
theorem kc_sum (h : X.K = K) (hc : X.calm = true) : CallR X (.builtin "sum") (rSum K) := by subst h; exact cr_sum hc
theorem kc_list (h : X.K = K) : CallR X (.type "list") (rListOf K) := by subst h; exact call_listA
theorem kc_tup (h : X.K = K) : CallR X (.type "tuple") (rTupOf K) := by subst h; exact call_tupA
theorem kc_isi (h : X.K = K) : CallR X (.builtin "isinstance") (fun xs H Q => rIsi K xs H Q ∨ rIsiT K xs H Q) := by subst h; exact CallR.or call_isi call_isiT
theorem kpg_tup {es : List Expr} {k : Nat} {t : TGs} {n : Nat} {pos : Pos} (hK : X.K = K) (hc : X.calm = true) (h : PGs X es t)
    (hn : (assignEach es X.env).length = n := by rfl) (hst : (assignEach es X.env).findIdx? (·.1) = none := by rfl) : PG X (.Tuple es k pos) (gTup K n t) := by subst hK; exact pg_tup hc h hn hst
theorem kpi_list {tg l : Expr} {tl : TE} (h : X.K = K) (hl : PE X l tl) : PI X tg l (iList K tl) := by subst h; exact pi_list hl
theorem kpi_tup {tg l : Expr} {tl : TE} (h : X.K = K) (hl : PE X l tl) : PI X tg l (iTup K tl) := by subst h; exact pi_tup hl
theorem kpe_bm {o e : Expr} {es : List Expr} {to : TE} {t : TA} {name : Str} {apos cpos : Pos} {T id : String} {r : V → List V → Hp → VK → Prop} (hK : X.K = K) (pa : PlainAttrs T) (slot : Slot T name id) (hty : typeOf (.builtin id) = pure (.type "method_descriptor")) (hm : MtR X id r) (ho : PE X o to) (ha : PA X (e :: es) t)
    (hbase : attributeBase o name X.env (eval o X.env) = eval o X.env := by rfl)
    (hfew : ((backTo cpos (starEach (e :: es) X.env)).all (fun x => !x.1) && (backToKw cpos (keywordEach [] X.env)).all (fun x => x.1.isSome)
      && decide ((e :: es).length + ([] : List Keyword).length + (if ([] : List Keyword).isEmpty then 0 else 1) < 30)) = true := by rfl)
    (hline : (apos.endLine == cpos.line) = true := by rfl) (hs : starEach (e :: es) X.env = (false, eval e X.env) :: starEach es X.env := by rfl) (hplain : (backTo cpos (starEach es X.env)).any (·.1) = false := by rfl) :
    PE X (.Call (.Attribute o name apos) (e :: es) [] cpos) (tBM K T r to t) := by subst hK; exact pe_bm pa slot hty hm ho ha hbase hfew hline hs hplain
/-- a module's constant -/
structure Cn (mg : Str → Option Value) (x : Str) (i : Int) : Prop where
  ex : ∃ t, mg x = some (.int i t)
theorem pe_cn {x : Str} {i : Int} {pos : Pos} (h : Cn X.mg x i) (hg : Gl X x) (hd : (x == ("__debug__" : Str)) = false := by decide) : PE X (.Name x pos) (tC (.int i)) := by
  obtain ⟨t, e⟩ := h.ex
  exact pe_glob hg e ⟨t, rfl⟩ hd
end
/-- an expression, its wish stated between -/
def tMid (t : TE) : TE := fun σ H Q => ∃ Q', t σ H Q' ∧ ∀ v H', Q' v H' → Q v H'
theorem pe_mid {X : Cx} {e : Expr} {t : TE} (h : PE X e t) : PE X e (tMid t) := by
  refine ⟨fun pins s σ H Q I q => ?_⟩
  obtain ⟨Q', h1, h2⟩ := q
  exact thn (h.run pins s σ H Q' I h1) fun u s' ⟨v, H', I', r, z⟩ => ⟨v, H', I', r, h2 _ _ z⟩
theorem r_mid {t : TE} {σ : L2.St} {H : Hp} {Q : VK} (Q' : VK) (h : t σ H Q') (k : ∀ v H', Q' v H' → Q v H') : tMid t σ H Q := ⟨Q', h, k⟩
/-- a block, cut behind its first statement -/
def tCut (t u : TS) : TS := fun D σ H => ∃ Mid : L2.St → Hp → Prop, t ⟨Mid, D.rt, D.bk, D.ct⟩ σ H ∧ ∀ σ' H', Mid σ' H' → u D σ' H'
theorem pss_cut {X : Cx} {st : Stmt} {rest : List Stmt} {t u : TS} (h1 : PS X st t) (h2 : PSs X rest u) : PSs X (st :: rest) (tCut t u) := by
  refine ⟨fun pins s σ H D I h => ?_⟩
  obtain ⟨Mid, h, k⟩ := h
  have p : PS X st (fun D' σ' H' => D' = ⟨u D, D.rt, D.bk, D.ct⟩ ∧ t ⟨Mid, D.rt, D.bk, D.ct⟩ σ' H') := ⟨fun pins s σ H D' I q => by
    obtain ⟨rfl, q⟩ := q
    refine thn (h1.run pins s σ H _ I q) fun f s' z => ?_
    cases f with
    | next => obtain ⟨σ', H', I', m⟩ := z; exact ⟨σ', H', I', k _ _ m⟩
    | cont => exact z
    | brk => exact z
    | ret v => exact z⟩
  exact (pss_cons p h2).run pins s σ H D I ⟨rfl, h⟩
/-! ## reading: names, constants -/
section
variable {K : PySem.W.Frag} {σ : L2.St} {H : Hp} {Q : VK}
theorem r_c {v : V} (k : Q v H) : tC v σ H Q := k
theorem r_var {i : Nat} {v : V} (h : σ[i]? = some (some v)) (k : Q v H) : tVar i σ H Q := ⟨v, h, k⟩
variable {a0 a1 a2 a3 a4 a5 a6 a7 a8 a9 a10 a11 a12 a13 a14 a15 a16 a17 a18 a19 : Option V} {v : V} {r : L2.St}
theorem r_v0 (k : Q v H) : tVar 0 (some v :: r) H Q := ⟨v, rfl, k⟩
theorem r_g0 {z : Option V} {G : L2.St → Hp → Prop} (k : G (some v :: r) H) : gName 0 v (z :: r) H G := k
theorem r_v1 {a0 : Option V} (k : Q v H) : tVar 1 (a0 :: some v :: r) H Q := ⟨v, rfl, k⟩
theorem r_g1 {a0 : Option V} {z : Option V} {G : L2.St → Hp → Prop} (k : G (a0 :: some v :: r) H) : gName 1 v (a0 :: z :: r) H G := k
theorem r_v2 {a0 a1 : Option V} (k : Q v H) : tVar 2 (a0 :: a1 :: some v :: r) H Q := ⟨v, rfl, k⟩
theorem r_g2 {a0 a1 : Option V} {z : Option V} {G : L2.St → Hp → Prop} (k : G (a0 :: a1 :: some v :: r) H) : gName 2 v (a0 :: a1 :: z :: r) H G := k
theorem r_v3 {a0 a1 a2 : Option V} (k : Q v H) : tVar 3 (a0 :: a1 :: a2 :: some v :: r) H Q := ⟨v, rfl, k⟩
theorem r_g3 {a0 a1 a2 : Option V} {z : Option V} {G : L2.St → Hp → Prop} (k : G (a0 :: a1 :: a2 :: some v :: r) H) : gName 3 v (a0 :: a1 :: a2 :: z :: r) H G := k
theorem r_v4 {a0 a1 a2 a3 : Option V} (k : Q v H) : tVar 4 (a0 :: a1 :: a2 :: a3 :: some v :: r) H Q := ⟨v, rfl, k⟩
theorem r_g4 {a0 a1 a2 a3 : Option V} {z : Option V} {G : L2.St → Hp → Prop} (k : G (a0 :: a1 :: a2 :: a3 :: some v :: r) H) : gName 4 v (a0 :: a1 :: a2 :: a3 :: z :: r) H G := k
theorem r_v5 {a0 a1 a2 a3 a4 : Option V} (k : Q v H) : tVar 5 (a0 :: a1 :: a2 :: a3 :: a4 :: some v :: r) H Q := ⟨v, rfl, k⟩
theorem r_g5 {a0 a1 a2 a3 a4 : Option V} {z : Option V} {G : L2.St → Hp → Prop} (k : G (a0 :: a1 :: a2 :: a3 :: a4 :: some v :: r) H) : gName 5 v (a0 :: a1 :: a2 :: a3 :: a4 :: z :: r) H G := k
theorem r_v6 {a0 a1 a2 a3 a4 a5 : Option V} (k : Q v H) : tVar 6 (a0 :: a1 :: a2 :: a3 :: a4 :: a5 :: some v :: r) H Q := ⟨v, rfl, k⟩
theorem r_g6 {a0 a1 a2 a3 a4 a5 : Option V} {z : Option V} {G : L2.St → Hp → Prop} (k : G (a0 :: a1 :: a2 :: a3 :: a4 :: a5 :: some v :: r) H) : gName 6 v (a0 :: a1 :: a2 :: a3 :: a4 :: a5 :: z :: r) H G := k
theorem r_v7 {a0 a1 a2 a3 a4 a5 a6 : Option V} (k : Q v H) : tVar 7 (a0 :: a1 :: a2 :: a3 :: a4 :: a5 :: a6 :: some v :: r) H Q := ⟨v, rfl, k⟩
theorem r_g7 {a0 a1 a2 a3 a4 a5 a6 : Option V} {z : Option V} {G : L2.St → Hp → Prop} (k : G (a0 :: a1 :: a2 :: a3 :: a4 :: a5 :: a6 :: some v :: r) H) : gName 7 v (a0 :: a1 :: a2 :: a3 :: a4 :: a5 :: a6 :: z :: r) H G := k
theorem r_v8 {a0 a1 a2 a3 a4 a5 a6 a7 : Option V} (k : Q v H) : tVar 8 (a0 :: a1 :: a2 :: a3 :: a4 :: a5 :: a6 :: a7 :: some v :: r) H Q := ⟨v, rfl, k⟩
theorem r_g8 {a0 a1 a2 a3 a4 a5 a6 a7 : Option V} {z : Option V} {G : L2.St → Hp → Prop} (k : G (a0 :: a1 :: a2 :: a3 :: a4 :: a5 :: a6 :: a7 :: some v :: r) H) : gName 8 v (a0 :: a1 :: a2 :: a3 :: a4 :: a5 :: a6 :: a7 :: z :: r) H G := k
theorem r_v9 {a0 a1 a2 a3 a4 a5 a6 a7 a8 : Option V} (k : Q v H) : tVar 9 (a0 :: a1 :: a2 :: a3 :: a4 :: a5 :: a6 :: a7 :: a8 :: some v :: r) H Q := ⟨v, rfl, k⟩
theorem r_g9 {a0 a1 a2 a3 a4 a5 a6 a7 a8 : Option V} {z : Option V} {G : L2.St → Hp → Prop} (k : G (a0 :: a1 :: a2 :: a3 :: a4 :: a5 :: a6 :: a7 :: a8 :: some v :: r) H) : gName 9 v (a0 :: a1 :: a2 :: a3 :: a4 :: a5 :: a6 :: a7 :: a8 :: z :: r) H G := k
theorem r_v10 {a0 a1 a2 a3 a4 a5 a6 a7 a8 a9 : Option V} (k : Q v H) : tVar 10 (a0 :: a1 :: a2 :: a3 :: a4 :: a5 :: a6 :: a7 :: a8 :: a9 :: some v :: r) H Q := ⟨v, rfl, k⟩
theorem r_g10 {a0 a1 a2 a3 a4 a5 a6 a7 a8 a9 : Option V} {z : Option V} {G : L2.St → Hp → Prop} (k : G (a0 :: a1 :: a2 :: a3 :: a4 :: a5 :: a6 :: a7 :: a8 :: a9 :: some v :: r) H) : gName 10 v (a0 :: a1 :: a2 :: a3 :: a4 :: a5 :: a6 :: a7 :: a8 :: a9 :: z :: r) H G := k
theorem r_v11 {a0 a1 a2 a3 a4 a5 a6 a7 a8 a9 a10 : Option V} (k : Q v H) : tVar 11 (a0 :: a1 :: a2 :: a3 :: a4 :: a5 :: a6 :: a7 :: a8 :: a9 :: a10 :: some v :: r) H Q := ⟨v, rfl, k⟩
theorem r_g11 {a0 a1 a2 a3 a4 a5 a6 a7 a8 a9 a10 : Option V} {z : Option V} {G : L2.St → Hp → Prop} (k : G (a0 :: a1 :: a2 :: a3 :: a4 :: a5 :: a6 :: a7 :: a8 :: a9 :: a10 :: some v :: r) H) : gName 11 v (a0 :: a1 :: a2 :: a3 :: a4 :: a5 :: a6 :: a7 :: a8 :: a9 :: a10 :: z :: r) H G := k
theorem r_v12 {a0 a1 a2 a3 a4 a5 a6 a7 a8 a9 a10 a11 : Option V} (k : Q v H) : tVar 12 (a0 :: a1 :: a2 :: a3 :: a4 :: a5 :: a6 :: a7 :: a8 :: a9 :: a10 :: a11 :: some v :: r) H Q := ⟨v, rfl, k⟩
theorem r_g12 {a0 a1 a2 a3 a4 a5 a6 a7 a8 a9 a10 a11 : Option V} {z : Option V} {G : L2.St → Hp → Prop} (k : G (a0 :: a1 :: a2 :: a3 :: a4 :: a5 :: a6 :: a7 :: a8 :: a9 :: a10 :: a11 :: some v :: r) H) : gName 12 v (a0 :: a1 :: a2 :: a3 :: a4 :: a5 :: a6 :: a7 :: a8 :: a9 :: a10 :: a11 :: z :: r) H G := k
theorem r_v13 {a0 a1 a2 a3 a4 a5 a6 a7 a8 a9 a10 a11 a12 : Option V} (k : Q v H) : tVar 13 (a0 :: a1 :: a2 :: a3 :: a4 :: a5 :: a6 :: a7 :: a8 :: a9 :: a10 :: a11 :: a12 :: some v :: r) H Q := ⟨v, rfl, k⟩
theorem r_g13 {a0 a1 a2 a3 a4 a5 a6 a7 a8 a9 a10 a11 a12 : Option V} {z : Option V} {G : L2.St → Hp → Prop} (k : G (a0 :: a1 :: a2 :: a3 :: a4 :: a5 :: a6 :: a7 :: a8 :: a9 :: a10 :: a11 :: a12 :: some v :: r) H) : gName 13 v (a0 :: a1 :: a2 :: a3 :: a4 :: a5 :: a6 :: a7 :: a8 :: a9 :: a10 :: a11 :: a12 :: z :: r) H G := k
theorem r_v14 {a0 a1 a2 a3 a4 a5 a6 a7 a8 a9 a10 a11 a12 a13 : Option V} (k : Q v H) : tVar 14 (a0 :: a1 :: a2 :: a3 :: a4 :: a5 :: a6 :: a7 :: a8 :: a9 :: a10 :: a11 :: a12 :: a13 :: some v :: r) H Q := ⟨v, rfl, k⟩
theorem r_g14 {a0 a1 a2 a3 a4 a5 a6 a7 a8 a9 a10 a11 a12 a13 : Option V} {z : Option V} {G : L2.St → Hp → Prop} (k : G (a0 :: a1 :: a2 :: a3 :: a4 :: a5 :: a6 :: a7 :: a8 :: a9 :: a10 :: a11 :: a12 :: a13 :: some v :: r) H) : gName 14 v (a0 :: a1 :: a2 :: a3 :: a4 :: a5 :: a6 :: a7 :: a8 :: a9 :: a10 :: a11 :: a12 :: a13 :: z :: r) H G := k
theorem r_v15 {a0 a1 a2 a3 a4 a5 a6 a7 a8 a9 a10 a11 a12 a13 a14 : Option V} (k : Q v H) : tVar 15 (a0 :: a1 :: a2 :: a3 :: a4 :: a5 :: a6 :: a7 :: a8 :: a9 :: a10 :: a11 :: a12 :: a13 :: a14 :: some v :: r) H Q := ⟨v, rfl, k⟩
theorem r_g15 {a0 a1 a2 a3 a4 a5 a6 a7 a8 a9 a10 a11 a12 a13 a14 : Option V} {z : Option V} {G : L2.St → Hp → Prop} (k : G (a0 :: a1 :: a2 :: a3 :: a4 :: a5 :: a6 :: a7 :: a8 :: a9 :: a10 :: a11 :: a12 :: a13 :: a14 :: some v :: r) H) : gName 15 v (a0 :: a1 :: a2 :: a3 :: a4 :: a5 :: a6 :: a7 :: a8 :: a9 :: a10 :: a11 :: a12 :: a13 :: a14 :: z :: r) H G := k
theorem r_v16 {a0 a1 a2 a3 a4 a5 a6 a7 a8 a9 a10 a11 a12 a13 a14 a15 : Option V} (k : Q v H) : tVar 16 (a0 :: a1 :: a2 :: a3 :: a4 :: a5 :: a6 :: a7 :: a8 :: a9 :: a10 :: a11 :: a12 :: a13 :: a14 :: a15 :: some v :: r) H Q := ⟨v, rfl, k⟩
theorem r_g16 {a0 a1 a2 a3 a4 a5 a6 a7 a8 a9 a10 a11 a12 a13 a14 a15 : Option V} {z : Option V} {G : L2.St → Hp → Prop} (k : G (a0 :: a1 :: a2 :: a3 :: a4 :: a5 :: a6 :: a7 :: a8 :: a9 :: a10 :: a11 :: a12 :: a13 :: a14 :: a15 :: some v :: r) H) : gName 16 v (a0 :: a1 :: a2 :: a3 :: a4 :: a5 :: a6 :: a7 :: a8 :: a9 :: a10 :: a11 :: a12 :: a13 :: a14 :: a15 :: z :: r) H G := k
theorem r_v17 {a0 a1 a2 a3 a4 a5 a6 a7 a8 a9 a10 a11 a12 a13 a14 a15 a16 : Option V} (k : Q v H) : tVar 17 (a0 :: a1 :: a2 :: a3 :: a4 :: a5 :: a6 :: a7 :: a8 :: a9 :: a10 :: a11 :: a12 :: a13 :: a14 :: a15 :: a16 :: some v :: r) H Q := ⟨v, rfl, k⟩
theorem r_g17 {a0 a1 a2 a3 a4 a5 a6 a7 a8 a9 a10 a11 a12 a13 a14 a15 a16 : Option V} {z : Option V} {G : L2.St → Hp → Prop} (k : G (a0 :: a1 :: a2 :: a3 :: a4 :: a5 :: a6 :: a7 :: a8 :: a9 :: a10 :: a11 :: a12 :: a13 :: a14 :: a15 :: a16 :: some v :: r) H) : gName 17 v (a0 :: a1 :: a2 :: a3 :: a4 :: a5 :: a6 :: a7 :: a8 :: a9 :: a10 :: a11 :: a12 :: a13 :: a14 :: a15 :: a16 :: z :: r) H G := k
theorem r_v18 {a0 a1 a2 a3 a4 a5 a6 a7 a8 a9 a10 a11 a12 a13 a14 a15 a16 a17 : Option V} (k : Q v H) : tVar 18 (a0 :: a1 :: a2 :: a3 :: a4 :: a5 :: a6 :: a7 :: a8 :: a9 :: a10 :: a11 :: a12 :: a13 :: a14 :: a15 :: a16 :: a17 :: some v :: r) H Q := ⟨v, rfl, k⟩
theorem r_g18 {a0 a1 a2 a3 a4 a5 a6 a7 a8 a9 a10 a11 a12 a13 a14 a15 a16 a17 : Option V} {z : Option V} {G : L2.St → Hp → Prop} (k : G (a0 :: a1 :: a2 :: a3 :: a4 :: a5 :: a6 :: a7 :: a8 :: a9 :: a10 :: a11 :: a12 :: a13 :: a14 :: a15 :: a16 :: a17 :: some v :: r) H) : gName 18 v (a0 :: a1 :: a2 :: a3 :: a4 :: a5 :: a6 :: a7 :: a8 :: a9 :: a10 :: a11 :: a12 :: a13 :: a14 :: a15 :: a16 :: a17 :: z :: r) H G := k
theorem r_v19 {a0 a1 a2 a3 a4 a5 a6 a7 a8 a9 a10 a11 a12 a13 a14 a15 a16 a17 a18 : Option V} (k : Q v H) : tVar 19 (a0 :: a1 :: a2 :: a3 :: a4 :: a5 :: a6 :: a7 :: a8 :: a9 :: a10 :: a11 :: a12 :: a13 :: a14 :: a15 :: a16 :: a17 :: a18 :: some v :: r) H Q := ⟨v, rfl, k⟩
theorem r_g19 {a0 a1 a2 a3 a4 a5 a6 a7 a8 a9 a10 a11 a12 a13 a14 a15 a16 a17 a18 : Option V} {z : Option V} {G : L2.St → Hp → Prop} (k : G (a0 :: a1 :: a2 :: a3 :: a4 :: a5 :: a6 :: a7 :: a8 :: a9 :: a10 :: a11 :: a12 :: a13 :: a14 :: a15 :: a16 :: a17 :: a18 :: some v :: r) H) : gName 19 v (a0 :: a1 :: a2 :: a3 :: a4 :: a5 :: a6 :: a7 :: a8 :: a9 :: a10 :: a11 :: a12 :: a13 :: a14 :: a15 :: a16 :: a17 :: a18 :: z :: r) H G := k
theorem r_v20 {a0 a1 a2 a3 a4 a5 a6 a7 a8 a9 a10 a11 a12 a13 a14 a15 a16 a17 a18 a19 : Option V} (k : Q v H) : tVar 20 (a0 :: a1 :: a2 :: a3 :: a4 :: a5 :: a6 :: a7 :: a8 :: a9 :: a10 :: a11 :: a12 :: a13 :: a14 :: a15 :: a16 :: a17 :: a18 :: a19 :: some v :: r) H Q := ⟨v, rfl, k⟩
theorem r_g20 {a0 a1 a2 a3 a4 a5 a6 a7 a8 a9 a10 a11 a12 a13 a14 a15 a16 a17 a18 a19 : Option V} {z : Option V} {G : L2.St → Hp → Prop} (k : G (a0 :: a1 :: a2 :: a3 :: a4 :: a5 :: a6 :: a7 :: a8 :: a9 :: a10 :: a11 :: a12 :: a13 :: a14 :: a15 :: a16 :: a17 :: a18 :: a19 :: some v :: r) H) : gName 20 v (a0 :: a1 :: a2 :: a3 :: a4 :: a5 :: a6 :: a7 :: a8 :: a9 :: a10 :: a11 :: a12 :: a13 :: a14 :: a15 :: a16 :: a17 :: a18 :: a19 :: z :: r) H G := k
theorem r_v21 {a0 a1 a2 a3 a4 a5 a6 a7 a8 a9 a10 a11 a12 a13 a14 a15 a16 a17 a18 a19 a20 : Option V} (k : Q v H) : tVar 21 (a0 :: a1 :: a2 :: a3 :: a4 :: a5 :: a6 :: a7 :: a8 :: a9 :: a10 :: a11 :: a12 :: a13 :: a14 :: a15 :: a16 :: a17 :: a18 :: a19 :: a20 :: some v :: r) H Q := ⟨v, rfl, k⟩
theorem r_g21 {a0 a1 a2 a3 a4 a5 a6 a7 a8 a9 a10 a11 a12 a13 a14 a15 a16 a17 a18 a19 a20 : Option V} {z : Option V} {G : L2.St → Hp → Prop} (k : G (a0 :: a1 :: a2 :: a3 :: a4 :: a5 :: a6 :: a7 :: a8 :: a9 :: a10 :: a11 :: a12 :: a13 :: a14 :: a15 :: a16 :: a17 :: a18 :: a19 :: a20 :: some v :: r) H) : gName 21 v (a0 :: a1 :: a2 :: a3 :: a4 :: a5 :: a6 :: a7 :: a8 :: a9 :: a10 :: a11 :: a12 :: a13 :: a14 :: a15 :: a16 :: a17 :: a18 :: a19 :: a20 :: z :: r) H G := k
theorem r_v22 {a0 a1 a2 a3 a4 a5 a6 a7 a8 a9 a10 a11 a12 a13 a14 a15 a16 a17 a18 a19 a20 a21 : Option V} (k : Q v H) : tVar 22 (a0 :: a1 :: a2 :: a3 :: a4 :: a5 :: a6 :: a7 :: a8 :: a9 :: a10 :: a11 :: a12 :: a13 :: a14 :: a15 :: a16 :: a17 :: a18 :: a19 :: a20 :: a21 :: some v :: r) H Q := ⟨v, rfl, k⟩
theorem r_g22 {a0 a1 a2 a3 a4 a5 a6 a7 a8 a9 a10 a11 a12 a13 a14 a15 a16 a17 a18 a19 a20 a21 : Option V} {z : Option V} {G : L2.St → Hp → Prop} (k : G (a0 :: a1 :: a2 :: a3 :: a4 :: a5 :: a6 :: a7 :: a8 :: a9 :: a10 :: a11 :: a12 :: a13 :: a14 :: a15 :: a16 :: a17 :: a18 :: a19 :: a20 :: a21 :: some v :: r) H) : gName 22 v (a0 :: a1 :: a2 :: a3 :: a4 :: a5 :: a6 :: a7 :: a8 :: a9 :: a10 :: a11 :: a12 :: a13 :: a14 :: a15 :: a16 :: a17 :: a18 :: a19 :: a20 :: a21 :: z :: r) H G := k
theorem r_v23 {a0 a1 a2 a3 a4 a5 a6 a7 a8 a9 a10 a11 a12 a13 a14 a15 a16 a17 a18 a19 a20 a21 a22 : Option V} (k : Q v H) : tVar 23 (a0 :: a1 :: a2 :: a3 :: a4 :: a5 :: a6 :: a7 :: a8 :: a9 :: a10 :: a11 :: a12 :: a13 :: a14 :: a15 :: a16 :: a17 :: a18 :: a19 :: a20 :: a21 :: a22 :: some v :: r) H Q := ⟨v, rfl, k⟩
theorem r_g23 {a0 a1 a2 a3 a4 a5 a6 a7 a8 a9 a10 a11 a12 a13 a14 a15 a16 a17 a18 a19 a20 a21 a22 : Option V} {z : Option V} {G : L2.St → Hp → Prop} (k : G (a0 :: a1 :: a2 :: a3 :: a4 :: a5 :: a6 :: a7 :: a8 :: a9 :: a10 :: a11 :: a12 :: a13 :: a14 :: a15 :: a16 :: a17 :: a18 :: a19 :: a20 :: a21 :: a22 :: some v :: r) H) : gName 23 v (a0 :: a1 :: a2 :: a3 :: a4 :: a5 :: a6 :: a7 :: a8 :: a9 :: a10 :: a11 :: a12 :: a13 :: a14 :: a15 :: a16 :: a17 :: a18 :: a19 :: a20 :: a21 :: a22 :: z :: r) H G := k
/-! ## reading: structure -/
theorem r_op {r : R2} {ta tb : TE} (k : ta σ H fun x H1 => tb σ H1 fun y H2 => r x y H2 Q) : tOp r ta tb σ H Q := k
theorem r_un {r : V → Hp → VK → Prop} {ta : TE} (k : ta σ H fun x H1 => r x H1 Q) : tUn r ta σ H Q := k
theorem r_chain {r r' : R2} {ta tb tc : TE} (k : ta σ H fun x H1 => tb σ H1 fun y H2 => r x y H2 fun z H3 => ∃ k, z = .bl k ∧ (if k = true then tc σ H3 fun w' H4 => r' y w' H4 Q else Q (.bl false) H3)) : tChain r r' ta tb tc σ H Q := k
theorem r_nil {Q : List V → Hp → Prop} (k : Q [] H) : tNil σ H Q := k
theorem r_cons {Q : List V → Hp → Prop} {ta : TE} {tr : TA} (k : ta σ H fun x H1 => tr σ H1 fun xs H2 => Q (x :: xs) H2) : tCons ta tr σ H Q := k
theorem r_cB {r : List V → Hp → VK → Prop} {t : TA} (k : t σ H fun vs H1 => r vs H1 Q) : tCB r t σ H Q := k
theorem r_call {sp : Sp} {E : XK} {t : TA} (k : t σ H fun vs H1 => sp vs H1 Q E) : tCall sp [] E t σ H Q := by
  have e : (fun (vs : List V) H1 => sp (vs ++ []) H1 Q E) = fun vs H1 => sp vs H1 Q E := by
    funext vs H1
    rw [List.append_nil]
  show t σ H fun vs H1 => sp (vs ++ []) H1 Q E
  rw [e]
  exact k
theorem r_tup {t : TA} (k : t σ H fun xs H1 => xs.length ≤ sizeLine ∧ ∀ p, H1 p = none → Q (.ref p) (upd H1 p (.tup xs))) : tTup t σ H Q := k
theorem r_lst {t : TA} (k : t σ H fun xs H1 => xs.length ≤ sizeLine ∧ ∀ p, H1 p = none → Q (.ref p) (upd H1 p (.lst xs))) : tLst t σ H Q := k
theorem r_test {t : TE} {Q : Bool → Hp → Prop} (k : t σ H fun x H' => ∃ k, x = .bl k ∧ Q k H') : tTest t σ H Q := k
theorem r_B {t : TE} {Q : Bool → Hp → Prop} (k : t σ H fun x H' => ∃ k, x = .bl k ∧ Q k H') : tB t σ H Q := k
theorem r_bl {b : Bool} {P : Bool → Prop} (k : P b) : ∃ c, V.bl b = .bl c ∧ P c := ⟨b, rfl, k⟩
theorem r_and {t u : TT} {Q : Bool → Hp → Prop} (k : t σ H fun c H1 => if c = true then u σ H1 Q else Q false H1) : tAnd t u σ H Q := k
theorem r_or {t u : TT} {Q : Bool → Hp → Prop} (k : t σ H fun c H1 => if c = true then Q true H1 else u σ H1 Q) : tOr t u σ H Q := k
theorem r_not {t : TT} {Q : Bool → Hp → Prop} (k : t σ H fun c H1 => Q (!c) H1) : tNot t σ H Q := k
theorem r_andV {ta tb : TE} (k : ta σ H fun x H1 => ∃ c, x = .bl c ∧ if c = true then tb σ H1 Q else Q (.bl false) H1) : tAndV ta tb σ H Q := k
theorem r_orV {ta tb : TE} (k : ta σ H fun x H1 => ∃ c, x = .bl c ∧ if c = true then Q (.bl true) H1 else tb σ H1 Q) : tOrV ta tb σ H Q := k
theorem r_notV {ta : TE} (k : ta σ H fun x H1 => ∃ c, x = .bl c ∧ Q (.bl (!c)) H1) : tNotV ta σ H Q := k
theorem r_if {t : TT} {ta tb : TE} (k : t σ H fun c H1 => if c = true then ta σ H1 Q else tb σ H1 Q) : tIf t ta tb σ H Q := k
theorem r_sl {rr : V → Option Int → Option Int → Hp → VK → Prop} {te : TE} {tl th : TO} (k : te σ H fun x H1 => tl σ H1 fun l H2 => th σ H2 fun u H3 => rr x l u H3 Q) : tSl rr te tl th σ H Q := k
theorem r_noP {Q : Option Int → Hp → Prop} (k : Q none H) : tNoPart σ H Q := k
theorem r_part {t : TE} {Q : Option Int → Hp → Prop} (k : t σ H fun x H1 => ∃ i, x = .int i ∧ Q (some i) H1) : tPart t σ H Q := k
theorem r_partI {i : Int} {P : Int → Prop} (k : P i) : ∃ j, V.int i = .int j ∧ P j := ⟨i, rfl, k⟩
theorem r_bm {T : String} {rr : V → List V → Hp → VK → Prop} {to : TE} {t : TA} (k : to σ H fun x H1 => tyV K T x H1 ∧ t σ H1 fun xs H2 => rr x xs H2 Q) : tBM K T rr to t σ H Q := k
theorem r_bm0 {T : String} {rr : V → List V → Hp → VK → Prop} {to : TE} (k : to σ H fun x H1 => tyV K T x H1 ∧ rr x [] H1 Q) : tBM0 K T rr to σ H Q := k
/-! ### statements -/
variable {nn bb cc : L2.St → Hp → Prop} {rr : VK}
theorem r_seq {t u : TS} (k : t ⟨u ⟨nn, rr, bb, cc⟩, rr, bb, cc⟩ σ H) : tSeq t u ⟨nn, rr, bb, cc⟩ σ H := k
theorem r_cut {t u : TS} (Mid : L2.St → Hp → Prop) (k : t ⟨Mid, rr, bb, cc⟩ σ H) (k2 : ∀ σ' H', Mid σ' H' → u ⟨nn, rr, bb, cc⟩ σ' H') : tCut t u ⟨nn, rr, bb, cc⟩ σ H := ⟨Mid, k, k2⟩
theorem r_next (k : nn σ H) : tNext ⟨nn, rr, bb, cc⟩ σ H := k
theorem r_break (k : bb σ H) : tBreak ⟨nn, rr, bb, cc⟩ σ H := k
theorem r_cont (k : cc σ H) : tCont ⟨nn, rr, bb, cc⟩ σ H := k
theorem r_drop {te : TE} (k : te σ H fun _ H1 => nn σ H1) : tDrop te ⟨nn, rr, bb, cc⟩ σ H := k
theorem r_ret {te : TE} (k : te σ H rr) : tRet te ⟨nn, rr, bb, cc⟩ σ H := k
theorem r_retN (k : rr .non H) : tRetN ⟨nn, rr, bb, cc⟩ σ H := k
theorem r_ifS {c : TT} {t u : TS} (k : c σ H fun b H1 => if b = true then t ⟨nn, rr, bb, cc⟩ σ H1 else u ⟨nn, rr, bb, cc⟩ σ H1) : tIfS c t u ⟨nn, rr, bb, cc⟩ σ H := k
theorem r_asg {te : TE} {g : TG} (k : te σ H fun x H1 => g x σ H1 nn) : tAsg te g ⟨nn, rr, bb, cc⟩ σ H := k
def ForW (J : It) (g : TG) (tb : TS) (D : Ends) (σ : L2.St) (H1 : Hp) : Prop := ∃ W : Nat → Nat → L2.St → Hp → Prop, (∃ m, W 0 m σ H1) ∧ ∀ i m σ H, W i m σ H →
  (J.stop i H ∧ D.nx σ H) ∨ (J.go i H ∧ ∃ N : L2.St → Hp → Prop, (∀ σ' H', N σ' H' → ∃ m', m' < m ∧ W (i + 1) m' σ' H') ∧ ∀ x H', J.yld i H x H' → g x σ H' fun σ2 H2 => tb { D with nx := N, ct := N, bk := D.nx } σ2 H2)
theorem r_for {wi : TI} {g : TG} {tb : TS} (k : wi σ H fun J H1 => ForW J g tb ⟨nn, rr, bb, cc⟩ σ H1) : tFor wi g tb ⟨nn, rr, bb, cc⟩ σ H := k
theorem fw_list {a : Addr} {xs : List V} {g : TG} {tb : TS} (Pv : Nat → L2.St → Hp → Prop) (h0 : Pv 0 σ H) (hl : ∀ i σ H, i ≤ xs.length → Pv i σ H → SqL K H a xs)
    (hs : ∀ i x σ H, xs[i]? = some x → Pv i σ H → g x σ H fun σ2 H2 => tb ⟨Pv (i + 1), rr, nn, Pv (i + 1)⟩ σ2 H2) (hd : ∀ σ H, Pv xs.length σ H → nn σ H) : ForW (Itl K a) g tb ⟨nn, rr, bb, cc⟩ σ H := for_list Pv h0 hl hs hd
theorem fw_tup {a : Addr} {xs : List V} {g : TG} {tb : TS} (Pv : Nat → L2.St → Hp → Prop) (h0 : Pv 0 σ H) (hl : ∀ i σ H, i ≤ xs.length → Pv i σ H → SqT K H a xs)
    (hs : ∀ i x σ H, xs[i]? = some x → Pv i σ H → g x σ H fun σ2 H2 => tb ⟨Pv (i + 1), rr, nn, Pv (i + 1)⟩ σ2 H2) (hd : ∀ σ H, Pv xs.length σ H → nn σ H) : ForW (Itt K a) g tb ⟨nn, rr, bb, cc⟩ σ H := for_tup Pv h0 hl hs hd
theorem fw_range {lo : Int} {n : Nat} {g : TG} {tb : TS} (Pv : Nat → L2.St → Hp → Prop) (h0 : Pv 0 σ H)
    (hs : ∀ i σ H, i < n → Pv i σ H → g (.int (lo + i)) σ H fun σ2 H2 => tb ⟨Pv (i + 1), rr, nn, Pv (i + 1)⟩ σ2 H2) (hd : ∀ σ H, Pv n σ H → nn σ H) : ForW (Itr lo n) g tb ⟨nn, rr, bb, cc⟩ σ H := for_range Pv h0 hs hd
theorem r_iList {tl : TE} {R : It → Hp → Prop} (k : tl σ H fun x H1 => ∃ a, x = .ref a ∧ (∃ xs, SqL K H1 a xs) ∧ R (Itl K a) H1) : iList K tl σ H R := k
theorem r_iRng1 {ta : TA} {R : It → Hp → Prop} (k : ta σ H fun vs H1 => ∃ j : Int, vs = [.int j] ∧ -(2 ^ 62) ≤ j ∧ j < 2 ^ 62 ∧ R (Itr 0 j.toNat) H1) : iRng1 ta σ H R := k
theorem r_iRng2 {ta : TA} {R : It → Hp → Prop} (k : ta σ H fun vs H1 => ∃ i j : Int, vs = [.int i, .int j] ∧ (-(2 ^ 62) ≤ i ∧ i < 2 ^ 62 ∧ -(2 ^ 62) ≤ j ∧ j < 2 ^ 62) ∧ R (Itr i (j - i).toNat) H1) : iRng2 ta σ H R := k
/-! ### targets -/
variable {G : L2.St → Hp → Prop} {x : V}
theorem r_gTup {n : Nat} {t : TGs} {a : Addr} {xs : List V} (h : SqT K H a xs) (hl : xs.length = n) (k : t xs σ H G) : gTup K n t (.ref a) σ H G := ⟨a, xs, rfl, h, hl, k⟩
theorem r_gCons {t : TG} {u : TGs} {xs : List V} (k : t x σ H fun σ' H' => u xs σ' H' G) : gCons t u (x :: xs) σ H G := ⟨x, xs, rfl, k⟩
theorem r_gNil (k : G σ H) : gNil [] σ H G := ⟨rfl, k⟩
theorem r_gSub {to ti : TE} {t : TSet} (k : to σ H fun o H1 => ti σ H1 fun i H2 => t o i x H2 fun H3 => G σ H3) : gSub to ti t x σ H G := k
theorem r_setL {p : Addr} {xs : List V} {i : Int} {j : Nat} {G : Hp → Prop} (h : H p = some (.lst xs)) (e : ixN xs.length i = some j) (k : G (upd H p (.lst (xs.set j x)))) : rSetL (.ref p) (.int i) x H G := ⟨p, xs, i, j, rfl, rfl, h, e, k⟩
/-! ### values -/
theorem r_I0 {g : Int → Int → V} {i j : Int} (k : Q (g i j) H) : rI0 g (.int i) (.int j) H Q := ⟨i, j, rfl, rfl, k⟩
theorem r_I {C : Int → Int → Prop} {g : Int → Int → V} {i j : Int} (c : C i j) (k : Q (g i j) H) : rI C g (.int i) (.int j) H Q := ⟨i, j, rfl, rfl, c, k⟩
theorem r_U {g : Int → V} {i : Int} (k : Q (g i) H) : rU g (.int i) H Q := ⟨i, rfl, k⟩
theorem r_addI {i j : Int} (k : Q (.int (i + j)) H) : rAddA K (.int i) (.int j) H Q := .inl ⟨i, j, rfl, rfl, k⟩
theorem r_addL {l b : Addr} {xs zs : List V} (h1 : H l = some (.lst xs)) (h2 : H b = some (.lst zs)) (hl : xs.length + zs.length ≤ sizeLine) (k : ∀ p, H p = none → Q (.ref p) (upd H p (.lst (xs ++ zs)))) : rAddA K (.ref l) (.ref b) H Q := .inr (.inr (.inl ⟨l, b, xs, zs, rfl, rfl, h1, h2, hl, k⟩))
theorem r_eqI {i j : Int} (k : Q (.bl (decide (i = j))) H) : rEqA K (.int i) (.int j) H Q := .inl ⟨rfl, by
  have e : decide (V.int i = V.int j) = decide (i = j) := by by_cases h : i = j <;> simp [h]
  rw [e]
  exact k⟩
theorem r_neI {i j : Int} (k : Q (.bl (!decide (i = j))) H) : rNeA K (.int i) (.int j) H Q := .inl ⟨rfl, by
  have e : decide (V.int i = V.int j) = decide (i = j) := by by_cases h : i = j <;> simp [h]
  rw [e]
  exact k⟩
theorem r_eqB {i j : Bool} (k : Q (.bl (decide (i = j))) H) : rEqA K (.bl i) (.bl j) H Q := .inl ⟨rfl, by
  have e : decide (V.bl i = V.bl j) = decide (i = j) := by by_cases h : i = j <;> simp [h]
  rw [e]
  exact k⟩
theorem r_neB {i j : Bool} (k : Q (.bl (!decide (i = j))) H) : rNeA K (.bl i) (.bl j) H Q := .inl ⟨rfl, by
  have e : decide (V.bl i = V.bl j) = decide (i = j) := by by_cases h : i = j <;> simp [h]
  rw [e]
  exact k⟩
theorem r_ix {p : Addr} {xs : List V} {i : Int} {v : V} (h : SqL K H p xs ∨ SqT K H p xs) (e : atI xs i = some v) (k : Q v H) : rIx K (.ref p) (.int i) H Q := by
  rcases h with h | h
  · exact .inl ⟨p, xs, i, v, rfl, rfl, h, e, k⟩
  · exact .inr (.inl ⟨p, xs, i, v, rfl, rfl, h, e, k⟩)
theorem r_lenS {p : Addr} {ys : List V} (h : SqL K H p ys ∨ SqT K H p ys) (k : ys.length ≤ 16777216 → Q (.int ys.length) H) : rLen K [.ref p] H Q := .inl ⟨p, ys, rfl, h, k⟩
theorem r_max2 {i j : Int} (k : Q (.int (max i j)) H) : rMaxA K [.int i, .int j] H Q := .inl ⟨i, j, rfl, by
  have e : (if j > i then j else i) = max i j := by rw [Int.max_def]; split <;> split <;> omega
  rw [e]
  exact k⟩
theorem r_min2 {i j : Int} (k : Q (.int (min i j)) H) : rMinA K [.int i, .int j] H Q := .inl ⟨i, j, rfl, by
  have e : (if j < i then j else i) = min i j := by rw [Int.min_def]; split <;> split <;> omega
  rw [e]
  exact k⟩
theorem r_maxL {p : Addr} {ns : List Int} (h : SqL K H p (ns.map V.int)) (h0 : 0 < ns.length) (k : ∀ m, m ∈ ns → (∀ y, y ∈ ns → y ≤ m) → Q (.int m) H) : rMaxA K [.ref p] H Q := .inr ⟨p, ns, rfl, h, h0, k⟩
theorem r_minL {p : Addr} {ns : List Int} (h : SqL K H p (ns.map V.int)) (h0 : 0 < ns.length) (k : ∀ m, m ∈ ns → (∀ y, y ∈ ns → m ≤ y) → Q (.int m) H) : rMinA K [.ref p] H Q := .inr ⟨p, ns, rfl, h, h0, k⟩
theorem r_abs {i : Int} (k : Q (.int i.natAbs) H) : rAbs [.int i] H Q := ⟨i, rfl, by
  have e : (if i < 0 then -i else i) = (i.natAbs : Int) := by split <;> omega
  rw [e]
  exact k⟩
theorem r_intI {i : Int} (k : Q (.int i) H) : rInt1 [.int i] H Q := .inl ⟨i, rfl, k⟩
theorem r_intB {b : Bool} (k : Q (.int (if b then 1 else 0)) H) : rInt1 [.bl b] H Q := .inr ⟨b, rfl, k⟩
theorem r_listOf {p : Addr} {ys : List V} (h : SqL K H p ys ∨ SqT K H p ys) (k : ∀ l, H l = none → Q (.ref l) (upd H l (.lst ys))) : rListOf K [.ref p] H Q := ⟨p, ys, rfl, h, k⟩
theorem r_tupT {p : Addr} {ys : List V} (h : SqT K H p ys) (k : Q (.ref p) H) : rTupOf K [.ref p] H Q := ⟨p, ys, rfl, .inr ⟨h, k⟩⟩
theorem r_tupL {p : Addr} {ys : List V} (h : SqL K H p ys) (k : ∀ l, H l = none → Q (.ref l) (upd H l (.tup ys))) : rTupOf K [.ref p] H Q := ⟨p, ys, rfl, .inl ⟨h, k⟩⟩
theorem r_slL {p : Addr} {xs : List V} {lo hi : Option Int} (h : SqL K H p xs) (k : ∀ l, H l = none → Q (.ref l) (upd H l (.lst (cutV xs lo hi)))) : rSlAll K (.ref p) lo hi H Q := .inl ⟨p, xs, rfl, h, k⟩
theorem r_app {l : Addr} {xs : List V} {y : V} (h : H l = some (.lst xs)) (hz : xs.length < sizeLine) (k : Q .non (upd H l (.lst (xs ++ [y])))) : rAppend (.ref l) [y] H Q := ⟨l, xs, y, rfl, rfl, h, hz, k⟩
theorem r_tyL {p : Addr} {xs : List V} (h : H p = some (.lst xs)) : tyV K "list" (.ref p) H := .inl ⟨rfl, _, SqL.of h⟩
theorem r_eqD {x y : V} {d : PyData} (h1 : Dp K H x d) (h2 : Dp K H y d) (hs : SeqAt.shaped d = true) (k : Q (.bl true) H) : rEqA K x y H Q := .inr ⟨d, d, h1, h2, hs, hs, by
  rw [SeqAt.eqv_refl d (SeqAt.canLay_of_shaped hs)]
  exact k⟩
theorem r_neD {x y : V} {d : PyData} (h1 : Dp K H x d) (h2 : Dp K H y d) (hs : SeqAt.shaped d = true) (k : Q (.bl false) H) : rNeA K x y H Q := .inr ⟨d, d, h1, h2, hs, hs, by
  rw [SeqAt.eqv_refl d (SeqAt.canLay_of_shaped hs)]
  exact k⟩
end
/-! ## tests -/
theorem iteD {c A B : Prop} [Decidable c] (h1 : c → A) (h2 : ¬ c → B) : if decide c = true then A else B := by
  by_cases h : c
  · rw [if_pos (decide_eq_true h)]
    exact h1 h
  · rw [if_neg (by simpa using h)]
    exact h2 h
theorem iteN {c A B : Prop} [Decidable c] (h1 : ¬ c → A) (h2 : c → B) : if (!decide c) = true then A else B := by
  by_cases h : c
  · rw [if_neg (by simpa using h)]
    exact h2 h
  · rw [if_pos (by simpa using h)]
    exact h1 h
theorem iteDT {c A B : Prop} [Decidable c] (hc : c) (h1 : A) : if decide c = true then A else B := iteD (fun _ => h1) fun h => absurd hc h
theorem iteDF {c A B : Prop} [Decidable c] (hc : ¬ c) (h1 : B) : if decide c = true then A else B := iteD (fun h => absurd h hc) fun _ => h1
theorem iteNT {c A B : Prop} [Decidable c] (hc : ¬ c) (h1 : A) : if (!decide c) = true then A else B := iteN (fun _ => h1) fun h => absurd h hc
theorem iteNF {c A B : Prop} [Decidable c] (hc : c) (h1 : B) : if (!decide c) = true then A else B := iteN (fun h => absurd hc h) fun _ => h1
/-! ## heaps -/
section
variable {H H' H1 H2 : Hp}
theorem at_new {p g : Addr} {o u : HO} (np : H p = none) (h : H g = some o) : upd H p u g = some o := by
  rw [upd_ne (ne_of_none h np)]
  exact h
theorem at_wr {p g : Addr} {o u : HO} (hne : g ≠ p) (h : H g = some o) : upd H p u g = some o := by
  rw [upd_ne hne]
  exact h
theorem same_new {p : Addr} {u : HO} (np : H p = none) : Same H (upd H p u) := fun _ _ h => at_new np h
end
/-! ## frames: all stays but the place of the draws -/
/-- not the list that the draws turn -/
def NotSt (o : HO) : Prop := ∀ (a : Addr) (i m r : Int), o ≠ .lst [.ref a, .int i, .int m, .int r]
theorem nst_tup {xs : List V} : NotSt (.tup xs) := fun _ _ _ _ h => nomatch h
theorem nst_frz {o : Obj} {u : HO} : NotSt (.frz o u) := fun _ _ _ _ h => nomatch h
theorem nst_ins {C dx : Addr} {fs : List (Str × V)} : NotSt (.ins C dx fs) := fun _ _ _ _ h => nomatch h
theorem nst_own {x : Addr} : NotSt (.own x) := fun _ _ _ _ h => nomatch h
theorem nst_nil : NotSt (.lst []) := fun _ _ _ _ h => by cases h
theorem nst_int {i : Int} {r : List V} : NotSt (.lst (.int i :: r)) := fun _ _ _ _ h => by cases h
theorem nst_cons {a b : Addr} {r : List V} : NotSt (.lst (.ref a :: .ref b :: r)) := fun _ _ _ _ h => by cases h
theorem nst_ints {ns : List Int} : NotSt (.lst (ns.map V.int)) := fun _ _ _ _ h => by
  cases ns with
  | nil => cases h
  | cons a r => cases h
theorem nst_refs {as : List Addr} : NotSt (.lst (as.map V.ref)) := fun _ _ _ _ h => by
  match as, h with
  | [], h => cases h
  | [_], h => cases h
  | _ :: _ :: _, h => cases h
def Fr (H H' : Hp) : Prop := ∀ b o, H b = some o → NotSt o → H' b = some o
section
variable {K : PySem.W.Frag} {H H' H1 H2 : Hp}
theorem Fr.refl (H : Hp) : Fr H H := fun _ _ h _ => h
theorem Fr.trans (a : Fr H H1) (b : Fr H1 H2) : Fr H H2 := fun c o h n => b c o (a c o h n) n
theorem Fr.same (a : Fr H H1) (b : Same H1 H2) : Fr H H2 := fun c o h n => b c o (a c o h n)
theorem Fr.of (a : Same H H1) : Fr H H1 := fun c o h _ => a c o h
theorem fr_at {g : Addr} {o : HO} (R : Fr H H') (h : H g = some o) (n : NotSt o) : H' g = some o := R g o h n
theorem same_at {g : Addr} {o : HO} (R : Same H H') (h : H g = some o) : H' g = some o := R g o h
theorem same_sq {a : Addr} {xs : List V} (R : Same H H') (h : SqL K H a xs) : SqL K H' a xs := R.seq h
theorem fr_sq {a : Addr} {ns : List Int} (R : Fr H H') (h : SqL K H a (ns.map V.int)) : SqL K H' a (ns.map V.int) := by
  rcases h with (h | ⟨o, h⟩) | h
  · exact .inl (.inl (R _ _ h nst_ints))
  · exact .inl (.inr ⟨o, R _ _ h nst_frz⟩)
  · exact .inr h
theorem sq_new {p a : Addr} {u : HO} {xs : List V} (np : H p = none) (h : SqL K H a xs) : SqL K (upd H p u) a xs := (same_new np).seq h
theorem fr_new {p : Addr} {u : HO} (np : H1 p = none) (h : Fr H H1) : Fr H (upd H1 p u) := fun b o e n => at_new np (h b o e n)
theorem sm_new {p : Addr} {u : HO} (np : H1 p = none) (h : Same H H1) : Same H (upd H1 p u) := fun b o e => at_new np (h b o e)
theorem Same.free {p : Addr} (h : Same H H1) (n : H1 p = none) : H p = none := by
  cases e : H p with
  | none => rfl
  | some o => rw [h p o e] at n; cases n
theorem r_pow {Q : VK} {i j : Int} (c : 0 ≤ j ∧ j ≤ 1000000 ∧ i.natAbs < 2 ^ 64) (k : Q (.int (i ^ j.toNat)) H) : rI CPow (fun i j => .int (i ^ j.toNat)) (.int i) (.int j) H Q := ⟨i, j, rfl, rfl, c, k⟩
theorem r_dec {Q : VK} {p : Prop} [Decidable p] {a : Hp} (k : Q (.bl (decide p)) a) : Q (.bl (decide p)) a := k
end
theorem map_at {α : Type} {f : α → V} {l : List α} {i : Nat} {y : V} (h : (l.map f)[i]? = some y) : ∃ z, l[i]? = some z ∧ y = f z := by
  rw [List.getElem?_map] at h
  cases e : l[i]? with
  | none => rw [e] at h; cases h
  | some z => rw [e] at h; exact ⟨z, rfl, (Option.some.inj h).symm⟩
theorem r_start {T : L2.St → Hp → Prop} {σ σ' : L2.St} {H : Hp} (e : σ = σ') (k : T σ' H) : T σ H := e ▸ k
theorem len_ok {n : Nat} (h : Nat.ble n 1000 = true) : n ≤ sizeLine := Nat.le_of_lt (small1000 (Nat.le_of_ble_eq_true h))
theorem r_lay {xs : List V} {R : Prop} (h : xs.length ≤ sizeLine) (k : R) : xs.length ≤ sizeLine ∧ R := ⟨h, k⟩
theorem r_setA {H : Hp} {p : Addr} {xs ys : List V} {i : Int} {j : Nat} {x : V} {G : Hp → Prop} (h : H p = some (.lst xs)) (e : ixN xs.length i = some j) (hy : xs.set j x = ys) (k : ∀ H', H' p = some (.lst ys) → (∀ b o, b ≠ p → H b = some o → H' b = some o) → G H') : rSetL (.ref p) (.int i) x H G :=
  r_setL h e (by rw [hy]; exact k _ upd_same fun b o n q => at_wr n q)
theorem r_appA {H : Hp} {Q : VK} {l : Addr} {xs : List V} {y : V} (h : H l = some (.lst xs)) (hz : xs.length < sizeLine) (k : ∀ H', H' l = some (.lst (xs ++ [y])) → (∀ b o, b ≠ l → H b = some o → H' b = some o) → Q .non H') : rAppend (.ref l) [y] H Q :=
  r_app h hz (k _ upd_same fun b o n q => at_wr n q)
theorem pickI {v : Int} (ns : List Int) (h0 : 0 ≤ v) (h1 : v < ns.length) : ∃ w, atI (ns.map V.int) v = some (.int w) ∧ w ∈ ns := by
  have h : v.toNat < ns.length := by omega
  exact ⟨ns[v.toNat], at_of (j := v.toNat) (by omega) (by rw [List.getElem?_map, List.getElem?_eq_getElem h]; rfl), List.getElem_mem h⟩
theorem pickN {v : Int} {n : Nat} (ns : List Int) (h0 : 0 ≤ v) (h1 : v < n) (h2 : n ≤ ns.length) : ∃ w, atI (ns.map V.int) v = some (.int w) ∧ w ∈ ns.take n := by
  have h : v.toNat < ns.length := by omega
  refine ⟨ns[v.toNat], at_of (j := v.toNat) (by omega) (by rw [List.getElem?_map, List.getElem?_eq_getElem h]; rfl), ?_⟩
  have h3 : v.toNat < (ns.take n).length := by rw [List.length_take]; omega
  have e : (ns.take n)[v.toNat] = ns[v.toNat] := List.getElem_take
  rw [← e]
  exact List.getElem_mem h3
theorem pick2 {v : Int} (a b : Int) (h0 : 0 ≤ v) (h1 : v < 2) : ∃ w, atI [V.int a, V.int b] v = some (.int w) ∧ (v = 0 ∧ w = a ∨ v = 1 ∧ w = b) := by
  have : v = 0 ∨ v = 1 := by omega
  rcases this with rfl | rfl
  · exact ⟨a, rfl, .inl ⟨rfl, rfl⟩⟩
  · exact ⟨b, rfl, .inr ⟨rfl, rfl⟩⟩
theorem pick3 {v : Int} (a b c : Int) (h0 : 0 ≤ v) (h1 : v < 3) : ∃ w, atI [V.int a, V.int b, V.int c] v = some (.int w) ∧ (v = 0 ∧ w = a ∨ v = 1 ∧ w = b ∨ v = 2 ∧ w = c) := by
  have : v = 0 ∨ v = 1 ∨ v = 2 := by omega
  rcases this with rfl | rfl | rfl
  · exact ⟨a, rfl, .inl ⟨rfl, rfl⟩⟩
  · exact ⟨b, rfl, .inr (.inl ⟨rfl, rfl⟩)⟩
  · exact ⟨c, rfl, .inr (.inr ⟨rfl, rfl⟩)⟩
theorem pick4 {v : Int} (a b c d : Int) (h0 : 0 ≤ v) (h1 : v < 4) : ∃ w, atI [V.int a, V.int b, V.int c, V.int d] v = some (.int w) ∧ (v = 0 ∧ w = a ∨ v = 1 ∧ w = b ∨ v = 2 ∧ w = c ∨ v = 3 ∧ w = d) := by
  have : v = 0 ∨ v = 1 ∨ v = 2 ∨ v = 3 := by omega
  rcases this with rfl | rfl | rfl | rfl
  · exact ⟨a, rfl, .inl ⟨rfl, rfl⟩⟩
  · exact ⟨b, rfl, .inr (.inl ⟨rfl, rfl⟩)⟩
  · exact ⟨c, rfl, .inr (.inr (.inl ⟨rfl, rfl⟩))⟩
  · exact ⟨d, rfl, .inr (.inr (.inr ⟨rfl, rfl⟩))⟩
theorem at_neg1 {xs : List V} {n : Nat} {v : V} (hl : xs.length = n + 1) (h : xs[n]? = some v) : atI xs (-1) = some v := by
  have e : ixN xs.length (-1) = some n := by
    unfold ixN
    rw [hl, if_neg (by decide), if_pos (by omega)]
    have : (-1 + ((n + 1 : Nat) : Int)).toNat = n := by omega
    rw [this]
  unfold atI
  rw [e]
  exact h
/-! ## comprehensions -/
def LcW (J : It) (g : TG) (tt : TT) (te : TE) (vs : List Nat) (σ : L2.St) (Q : VK) (D : Addr) (H1 : Hp) : Prop := ∃ W : Nat → Nat → Hp → Prop, (∃ m, W 0 m (upd H1 D (.lst []))) ∧ ∀ i m H, W i m H →
  (J.stop i H ∧ Q (.ref D) H) ∨ (J.go i H ∧ ∃ Nx : Hp → Prop, (∀ H', Nx H' → ∃ m', m' < m ∧ W (i + 1) m' H') ∧ ∀ x H', J.yld i H x H' → g x (wipe σ vs) H' fun σ2 H2 => wipe σ2 vs = wipe σ vs ∧ tt σ2 H2 fun b H3 =>
    if b = true then te σ2 H3 fun y H4 => ∃ acc, H4 D = some (.lst acc) ∧ acc.length < sizeLine ∧ Nx (upd H4 D (.lst (acc ++ [y]))) else Nx H3)
theorem r_lc {wi : TI} {g : TG} {tt : TT} {te : TE} {vs : List Nat} {σ : L2.St} {H : Hp} {Q : VK} (k : wi σ H fun J H1 => ∀ D, H1 D = none → LcW J g tt te vs σ Q D H1) : tLc wi g tt te vs σ H Q := k
theorem r_tYes {σ : L2.St} {H : Hp} {Q : Bool → Hp → Prop} (k : Q true H) : tYes σ H Q := k
section
variable {g : TG} {tt : TT} {te : TE} {vs : List Nat} {σ σw : L2.St} {Q : VK} {D : Addr} {H1 : Hp}
theorem lcw_range {lo : Int} {n : Nat} (Pv : Nat → Hp → Prop) (hw : wipe σ vs = σw) (h0 : Pv 0 (upd H1 D (.lst [])))
    (hs : ∀ i H, i < n → Pv i H → g (.int (lo + i)) σw H fun σ2 H2 => wipe σ2 vs = σw ∧ tt σ2 H2 fun b H3 =>
      if b = true then te σ2 H3 fun y H4 => ∃ acc, H4 D = some (.lst acc) ∧ acc.length < sizeLine ∧ Pv (i + 1) (upd H4 D (.lst (acc ++ [y]))) else Pv (i + 1) H3) (hd : ∀ H, Pv n H → Q (.ref D) H) : LcW (Itr lo n) g tt te vs σ Q D H1 := by
  subst hw
  exact lc_range Pv h0 hs hd
theorem lcw_list {K : PySem.W.Frag} {a : Addr} {xs : List V} (Pv : Nat → Hp → Prop) (hw : wipe σ vs = σw) (h0 : Pv 0 (upd H1 D (.lst []))) (hl : ∀ i H, i ≤ xs.length → Pv i H → SqL K H a xs)
    (hs : ∀ i x H, xs[i]? = some x → Pv i H → g x σw H fun σ2 H2 => wipe σ2 vs = σw ∧ tt σ2 H2 fun b H3 =>
      if b = true then te σ2 H3 fun y H4 => ∃ acc, H4 D = some (.lst acc) ∧ acc.length < sizeLine ∧ Pv (i + 1) (upd H4 D (.lst (acc ++ [y]))) else Pv (i + 1) H3) (hd : ∀ H, Pv xs.length H → Q (.ref D) H) : LcW (Itl K a) g tt te vs σ Q D H1 := by
  subst hw
  exact lc_list Pv h0 hl hs hd
end
/-- what the tail of a comprehension's turn asks, the heap behind it a letter -/
theorem lc_put {D : Addr} {acc : List V} {y : V} {H4 : Hp} {Nx : Hp → Prop} (h : H4 D = some (.lst acc)) (hz : acc.length < sizeLine) (k : ∀ H5, H5 D = some (.lst (acc ++ [y])) → (∀ b o, b ≠ D → H4 b = some o → H5 b = some o) → Nx H5) :
    ∃ acc, H4 D = some (.lst acc) ∧ acc.length < sizeLine ∧ Nx (upd H4 D (.lst (acc ++ [y]))) := ⟨acc, h, hz, k _ upd_same fun b o n q => at_wr n q⟩
/-! ## data in the heap -/
mutual
inductive Is (H : Hp) : V → PyData → Prop
  | non : Is H .non .none
  | bl (b : Bool) : Is H (.bl b) (.bool b)
  | int (i : Int) : Is H (.int i) (.int i)
  | str (x : Str) : Is H (.str x) (.str x)
  | lst {a : Addr} {xs : List V} {ds : List PyData} : H a = some (.lst xs) → IsAll H xs ds → Is H (.ref a) (.list ds)
  | tup {a : Addr} {xs : List V} {ds : List PyData} : H a = some (.tup xs) → IsAll H xs ds → Is H (.ref a) (.tuple ds)
inductive IsAll (H : Hp) : List V → List PyData → Prop
  | nil : IsAll H [] []
  | cons {v : V} {vs : List V} {d : PyData} {ds : List PyData} : Is H v d → IsAll H vs ds → IsAll H (v :: vs) (d :: ds)
end
mutual
theorem Is.dp {K : PySem.W.Frag} {H : Hp} : ∀ (d : PyData) (v : V), Is H v d → Dp K H v d
  | .none, _, h => by cases h; exact .non
  | .bool b, _, h => by cases h; exact .bl b
  | .int i, _, h => by cases h; exact .int i
  | .str x, _, h => by cases h; exact .str x
  | .list ds, _, h => by
    cases h with
    | lst a b => exact .lst (SqL.of a) (IsAll.dp ds _ b)
  | .tuple ds, _, h => by
    cases h with
    | tup a b => exact .tup (SqT.of a) (IsAll.dp ds _ b)
  | .dict _, _, h => by cases h
theorem IsAll.dp {K : PySem.W.Frag} {H : Hp} : ∀ (ds : List PyData) (vs : List V), IsAll H vs ds → DpAll K H vs ds
  | [], _, h => by cases h; exact .nil
  | d :: ds, _, h => by
    cases h with
    | cons a b => exact .cons (Is.dp d _ a) (IsAll.dp ds _ b)
end
mutual
theorem Is.mono {H H' : Hp} (R : Same H H') : ∀ (d : PyData) (v : V), Is H v d → Is H' v d
  | .none, _, h => by cases h; exact .non
  | .bool b, _, h => by cases h; exact .bl b
  | .int i, _, h => by cases h; exact .int i
  | .str x, _, h => by cases h; exact .str x
  | .list ds, _, h => by
    cases h with
    | lst a b => exact .lst (R _ _ a) (IsAll.mono R ds _ b)
  | .tuple ds, _, h => by
    cases h with
    | tup a b => exact .tup (R _ _ a) (IsAll.mono R ds _ b)
  | .dict _, _, h => by cases h
theorem IsAll.mono {H H' : Hp} (R : Same H H') : ∀ (ds : List PyData) (vs : List V), IsAll H vs ds → IsAll H' vs ds
  | [], _, h => by cases h; exact .nil
  | d :: ds, _, h => by
    cases h with
    | cons a b => exact .cons (Is.mono R d _ a) (IsAll.mono R ds _ b)
end
theorem IsAll.len {H : Hp} : ∀ {ds : List PyData} {vs : List V}, IsAll H vs ds → vs.length = ds.length
  | [], _, h => by cases h; rfl
  | d :: ds, _, h => by
    cases h with
    | cons a b =>
      show _ + 1 = _ + 1
      rw [IsAll.len b]
theorem IsAll.get {H : Hp} : ∀ {ds : List PyData} {vs : List V} {i : Nat}, IsAll H vs ds → i < ds.length → ∃ v d, vs[i]? = some v ∧ ds[i]? = some d ∧ Is H v d
  | [], _, _, _, h2 => by simp at h2
  | d :: ds, _, 0, h, _ => by
    cases h with
    | cons a b => exact ⟨_, d, rfl, rfl, a⟩
  | d :: ds, _, i + 1, h, h2 => by
    cases h with
    | cons a b =>
      obtain ⟨v, e, h1, h3, h4⟩ := IsAll.get (i := i) b (by simpa using h2)
      exact ⟨v, e, by simpa using h1, by simpa using h3, h4⟩
theorem IsAll.snoc {H : Hp} {v : V} {d : PyData} (h2 : Is H v d) : ∀ {ds : List PyData} {vs : List V}, IsAll H vs ds → IsAll H (vs ++ [v]) (ds ++ [d])
  | [], _, h => by cases h; exact .cons h2 .nil
  | e :: ds, _, h => by
    cases h with
    | cons a b => exact .cons a (IsAll.snoc h2 b)
theorem IsAll.ints {H : Hp} : ∀ ns : List Int, IsAll H (ns.map V.int) (ns.map PyData.int)
  | [] => .nil
  | n :: r => .cons (.int n) (IsAll.ints r)
/-- a pair of ints as data -/
def dPair (x : Int × Int) : PyData := .tuple [.int x.1, .int x.2]
theorem Is.pair {H : Hp} {a : Addr} {x : Int × Int} (h : H a = some (.tup [.int x.1, .int x.2])) : Is H (.ref a) (dPair x) := .tup h (.cons (.int _) (.cons (.int _) .nil))
def dInts (ns : List Int) : PyData := .list (ns.map PyData.int)
theorem Is.ints {H : Hp} {a : Addr} {ns : List Int} (h : H a = some (.lst (ns.map V.int))) : Is H (.ref a) (dInts ns) := .lst h (.ints ns)
/-- flat enough, and without dicts -/
def Fl (n : Nat) (d : PyData) : Prop := d.canLay0 = true ∧ d.depth ≤ n
theorem Fl.shaped {n : Nat} {d : PyData} (h : Fl n d) (hn : n ≤ 64) : SeqAt.shaped d = true := by
  unfold SeqAt.shaped
  rw [h.1]
  exact decide_eq_true (Nat.le_trans h.2 hn)
theorem fl_all {n : Nat} : ∀ {ds : List PyData}, (∀ d ∈ ds, Fl n d) → PyData.canLayAll0 ds = true ∧ PyData.depthAll ds ≤ n
  | [], _ => ⟨rfl, Nat.zero_le _⟩
  | d :: ds, h => by
    obtain ⟨a, b⟩ := fl_all (ds := ds) fun e he => h e (List.mem_cons_of_mem _ he)
    obtain ⟨c, e⟩ := h d List.mem_cons_self
    refine ⟨?_, ?_⟩
    · rw [PyData.canLayAll0, c, a]
      rfl
    · rw [PyData.depthAll]
      omega
theorem Fl.list {n : Nat} {ds : List PyData} (h : ∀ d ∈ ds, Fl n d) : Fl (n + 1) (.list ds) := by
  obtain ⟨a, b⟩ := fl_all h
  exact ⟨by rw [PyData.canLay0]; exact a, by rw [PyData.depth]; omega⟩
theorem Fl.tuple {n : Nat} {ds : List PyData} (h : ∀ d ∈ ds, Fl n d) : Fl (n + 1) (.tuple ds) := by
  obtain ⟨a, b⟩ := fl_all h
  exact ⟨by rw [PyData.canLay0]; exact a, by rw [PyData.depth]; omega⟩
theorem Fl.int (n : Nat) (i : Int) : Fl n (.int i) := ⟨by rw [PyData.canLay0], by rw [PyData.depth]; omega⟩
theorem Fl.bl (n : Nat) (i : Bool) : Fl n (.bool i) := ⟨by rw [PyData.canLay0], by rw [PyData.depth]; omega⟩
theorem Fl.non (n : Nat) : Fl n .none := ⟨by rw [PyData.canLay0], by rw [PyData.depth]; omega⟩
theorem Fl.pair (n : Nat) (x : Int × Int) : Fl (n + 1) (dPair x) := Fl.tuple fun d h => by
  simp at h
  rcases h with rfl | rfl <;> exact Fl.int _ _
theorem Fl.ints (n : Nat) (ns : List Int) : Fl (n + 1) (dInts ns) := Fl.list fun d h => by
  obtain ⟨i, _, rfl⟩ := List.mem_map.mp h
  exact Fl.int _ _
theorem Fl.pairs (n : Nat) (xs : List (Int × Int)) : Fl (n + 2) (.list (xs.map dPair)) := Fl.list fun d h => by
  obtain ⟨i, _, rfl⟩ := List.mem_map.mp h
  exact Fl.pair _ _
theorem Fl.mono {n m : Nat} {d : PyData} (h : Fl n d) (k : n ≤ m) : Fl m d := ⟨h.1, Nat.le_trans h.2 k⟩
theorem r_eqIs {K : PySem.W.Frag} {H : Hp} {Q : VK} {x y : V} {d : PyData} {n : Nat} (h1 : Is H x d) (h2 : Is H y d) (f : Fl n d) (k : Q (.bl true) H) (hn : n ≤ 64 := by decide) : rEqA K x y H Q := r_eqD (Is.dp d x h1) (Is.dp d y h2) (f.shaped hn) k
theorem r_neIs {K : PySem.W.Frag} {H : Hp} {Q : VK} {x y : V} {d : PyData} {n : Nat} (h1 : Is H x d) (h2 : Is H y d) (f : Fl n d) (k : Q (.bl false) H) (hn : n ≤ 64 := by decide) : rNeA K x y H Q := r_neD (Is.dp d x h1) (Is.dp d y h2) (f.shaped hn) k
/-! ## isinstance -/
def rIsiA (K : PySem.W.Frag) : List V → Hp → VK → Prop := fun xs H Q => rIsi K xs H Q ∨ rIsiT K xs H Q
/-- the class of a datum -/
def tyD : PyData → String
  | .none => "NoneType"
  | .bool _ => "bool"
  | .int _ => "int"
  | .str _ => "str"
  | .list _ => "list"
  | .tuple _ => "tuple"
  | .dict _ => "dict"
theorem Is.ty {K : PySem.W.Frag} {H : Hp} {v : V} {d : PyData} (h : Is H v d) : TyX K H v (.type (tyD d)) := by
  cases h with
  | non => exact .base .non
  | bl b => exact .base (.bl b)
  | int i => exact .base (.int i)
  | str x => exact .base (.str x)
  | lst a b => exact .base (.lst a)
  | tup a b => exact .base (.tup a)
theorem r_isi {K : PySem.W.Frag} {H : Hp} {Q : VK} {v : V} {T c : String} {b : Bool} (ty : TyX K H v (.type T)) (e : kitB T c = some b) (k : Q (.bl b) H) : rIsiA K [v, .ty c] H Q := .inl ⟨v, .ty c, .type T, .type c, b, rfl, .ty c, ty, kit_ty e, k⟩
theorem r_isi2 {K : PySem.W.Frag} {H : Hp} {Q : VK} {v : V} {t : Addr} {T c1 c2 : String} {b1 b2 : Bool} (ht : H t = some (.tup [.ty c1, .ty c2])) (ty : TyX K H v (.type T)) (e1 : kitB T c1 = some b1) (e2 : kitB T c2 = some b2) (k : Q (.bl (b1 || b2)) H) : rIsiA K [v, .ref t] H Q := by
  refine .inr ⟨v, t, [.ty c1, .ty c2], .type T, [.type c1, .type c2], b1 || b2, rfl, ht, .cons (.ty c1) (.cons (.ty c2) .nil), ty, ?_, k⟩
  refine kitAny_cons (kit_ty e1) (r := b1 || b2) (fun h => ?_) fun h => by rw [h]; rfl
  subst h
  refine kitAny_cons (kit_ty e2) (r := false || b2) (fun h => ?_) fun h => by rw [h]; rfl
  subst h
  exact kitAny_nil
theorem kcc_isi {X : Cx} {K : PySem.W.Frag} (h : X.K = K) : CallR X (.builtin "isinstance") (rIsiA K) := by subst h; exact CallR.or call_isi call_isiT
/-- where drawing stands -/
structure St (H : Hp) (st a : Addr) : Prop where
  ex : ∃ i m r : Int, H st = some (.lst [.ref a, .int i, .int m, .int r]) ∧ 0 ≤ i ∧ 0 ≤ m ∧ m < 2147483647 ∧ 0 ≤ r
theorem fr_st {H : Hp} {st : Addr} {a : Addr} {i m r : Int} {o : HO} (h : H st = some (.lst [.ref a, .int i, .int m, .int r])) : Fr H (upd H st o) := fun b u e n => by
  rw [upd_ne (fun q => by subst q; rw [h] at e; cases e; exact n _ _ _ _ rfl)]
  exact e
theorem St.same {H H' : Hp} {st a : Addr} (s : St H st a) (R : Same H H') : St H' st a := by
  obtain ⟨i, m, r, h, q⟩ := s.ex
  exact ⟨i, m, r, R _ _ h, q⟩
theorem St.new {H : Hp} {st a p : Addr} {u : HO} (s : St H st a) (np : H p = none) : St (upd H p u) st a := s.same (same_new np)
theorem St.ne {H : Hp} {st a p : Addr} {o : HO} (s : St H st a) (h : H p = some o) (n : NotSt o) : st ≠ p := by
  obtain ⟨i, m, r, e, q⟩ := s.ex
  exact ne_of e h fun z => n _ _ _ _ z.symm
theorem St.wr {H : Hp} {st a p : Addr} {o u : HO} (s : St H st a) (h : H p = some o) (n : NotSt o) : St (upd H p u) st a := by
  have ne := s.ne h n
  obtain ⟨i, m, r, e, q⟩ := s.ex
  exact ⟨i, m, r, by rw [upd_ne ne]; exact e, q⟩
theorem kpi_enum {X : Cx} {K : PySem.W.Frag} {e : Expr} {ta : TA} {p pos tpos : Pos} {elts : List Expr} {kk : Nat} (hK : X.K = K) (hg : Gl X "enumerate") (hm : X.mg "enumerate" = none) (ha : PA X [e] ta) (hs : starEach [e] X.env = [(false, eval e X.env)] := by rfl) :
    PI X (.Tuple elts kk tpos) (.Call (.Name "enumerate" p) [e] [] pos) (iEnum K ta) := by subst hK; exact pi_enum hg hm ha hs
theorem r_iEnum {K : PySem.W.Frag} {σ : L2.St} {H : Hp} {ta : TA} {R : It → Hp → Prop} (k : ta σ H fun vs H1 => ∃ a xs, vs = [.ref a] ∧ SqL K H1 a xs ∧ R (Ite K a) H1) : iEnum K ta σ H R := k
theorem fw_enum {K : PySem.W.Frag} {σ : L2.St} {H : Hp} {nn bb cc : L2.St → Hp → Prop} {rr : VK} {a : Addr} {xs : List V} {g : TG} {tb : TS} (Pv : Nat → L2.St → Hp → Prop) (h0 : Pv 0 σ H) (hl : ∀ i σ H, i ≤ xs.length → Pv i σ H → SqL K H a xs)
    (hs : ∀ i x σ H T, xs[i]? = some x → Pv i σ H → H T = none → g (.ref T) σ (upd H T (.tup [.int (i : Nat), x])) fun σ2 H2 => tb ⟨Pv (i + 1), rr, nn, Pv (i + 1)⟩ σ2 H2) (hd : ∀ σ H, Pv xs.length σ H → nn σ H) : ForW (Ite K a) g tb ⟨nn, rr, bb, cc⟩ σ H := by
  refine for_it (walk_enum (xs := xs)) Pv h0 hl (fun i x σ H H' hi p y => ?_) hd
  obtain ⟨T, u, v, rfl, nT, rfl, e1, e2⟩ := y
  cases e1
  exact hs i v σ H T e2 p nT
/-- == of two pairs of ints -/
theorem eqv_pair (x y : Int × Int) : PyData.eqv (dPair x) (dPair y) = decide (x = y) := by
  unfold dPair
  simp only [PyData.eqv, PyData.eqvAll, Bool.and_true]
  by_cases h : x = y
  · subst h
    simp
  · have : ¬ (x.1 = y.1 ∧ x.2 = y.2) := fun z => h (Prod.ext z.1 z.2)
    rw [decide_eq_false h]
    simp only [Bool.and_eq_false_iff, beq_eq_false_iff_ne]
    by_cases h1 : x.1 = y.1
    · exact .inr fun h2 => this ⟨h1, h2⟩
    · exact .inl h1
theorem r_eqPair {K : PySem.W.Frag} {H : Hp} {Q : VK} {a b : Addr} {x y : Int × Int} (h1 : H a = some (.tup [.int x.1, .int x.2])) (h2 : H b = some (.tup [.int y.1, .int y.2])) (k : Q (.bl (decide (x = y))) H) : rEqA K (.ref a) (.ref b) H Q :=
  .inr ⟨dPair x, dPair y, Is.dp _ _ (Is.pair h1), Is.dp _ _ (Is.pair h2), (Fl.pair 0 x).shaped (by decide), (Fl.pair 0 y).shaped (by decide), by rw [eqv_pair]; exact k⟩
theorem r_nePair {K : PySem.W.Frag} {H : Hp} {Q : VK} {a b : Addr} {x y : Int × Int} (h1 : H a = some (.tup [.int x.1, .int x.2])) (h2 : H b = some (.tup [.int y.1, .int y.2])) (k : Q (.bl (!decide (x = y))) H) : rNeA K (.ref a) (.ref b) H Q :=
  .inr ⟨dPair x, dPair y, Is.dp _ _ (Is.pair h1), Is.dp _ _ (Is.pair h2), (Fl.pair 0 x).shaped (by decide), (Fl.pair 0 y).shaped (by decide), by rw [eqv_pair]; exact k⟩
theorem r_sum {K : PySem.W.Frag} {H : Hp} {Q : VK} {a : Addr} {ns : List Int} (h : SqL K H a (ns.map V.int)) (k : Q (.int ns.sum) H) : rSum K [.ref a] H Q := ⟨a, ns, rfl, h, k⟩
theorem r_neSelf {K : PySem.W.Frag} {H : Hp} {Q : VK} {v : V} (h : v = .non ∨ ∃ i, v = .int i) (k : Q (.bl false) H) : rNeA K v v H Q := by
  rcases h with rfl | ⟨i, rfl⟩
  · exact .inl ⟨rfl, by rw [decide_eq_true rfl]; exact k⟩
  · exact r_neI (by rw [decide_eq_true rfl]; exact k)
theorem r_neNil {K : PySem.W.Frag} {H : Hp} {Q : VK} {a b : Addr} {ns : List Int} (h : H a = some (.lst (ns.map V.int))) (h2 : H b = some (.lst [])) (k : Q (.bl (!decide (ns = []))) H) : rNeA K (.ref a) (.ref b) H Q := by
  refine .inr ⟨dInts ns, .list [], Is.dp _ _ (Is.ints h), Is.dp _ _ (.lst h2 .nil), (Fl.ints 0 ns).shaped (by decide), (Fl.list (n := 0) (ds := []) (by simp)).shaped (by decide), ?_⟩
  have e : PyData.eqv (dInts ns) (.list []) = decide (ns = []) := by
    cases ns with
    | nil => simp [dInts, PyData.eqv, PyData.eqvAll]
    | cons n r => simp [dInts, PyData.eqv, PyData.eqvAll]
  rw [e]
  exact k
theorem cut_take {α : Type} (f : α → V) (ms : List α) {v : Int} (h0 : 0 ≤ v) : cutV (ms.map f) none (some v) = (ms.take v.toNat).map f := by
  obtain ⟨n, rfl⟩ : ∃ n : Nat, v = (n : Int) := ⟨v.toNat, by omega⟩
  unfold cutV
  rw [HT.sIx_nat, HT.sIx_none, List.drop_zero, Nat.sub_zero, Int.toNat_natCast, List.map_take]
  by_cases h : n ≤ (ms.map f).length
  · rw [Nat.min_eq_left h]
  · rw [Nat.min_eq_right (by omega), List.take_of_length_le (Nat.le_refl _), List.take_of_length_le (by omega)]
theorem cut_drop {α : Type} (f : α → V) (ms : List α) {v : Int} (h0 : 0 ≤ v) : cutV (ms.map f) (some v) none = (ms.drop v.toNat).map f := by
  obtain ⟨n, rfl⟩ : ∃ n : Nat, v = (n : Int) := ⟨v.toNat, by omega⟩
  unfold cutV
  rw [HT.sIx_nat, HT.sIx_none, Int.toNat_natCast, List.map_drop]
  by_cases h : n ≤ (ms.map f).length
  · rw [Nat.min_eq_left h, List.take_of_length_le (by rw [List.length_drop]; omega)]
  · rw [Nat.min_eq_right (by omega), Nat.sub_self, List.take_zero, List.drop_of_length_le (by omega)]
end Rd

/-! ## macros -/
local macro_rules | `(tactic| walk_at "nst") => `(tactic| first
  | exact Rd.nst_tup | exact Rd.nst_ints | exact Rd.nst_refs | exact Rd.nst_nil | exact Rd.nst_int | exact Rd.nst_cons | exact Rd.nst_frz | exact Rd.nst_ins | exact Rd.nst_own | assumption
  | (intro a i m r h; simp at h; done) | (intro a i m r h; cases h; done))
local macro_rules | `(tactic| walk_at "hp") => `(tactic| first
  | with_reducible assumption
  | with_reducible exact L2.upd_same
  | ((with_reducible refine' Rd.at_new ?hnp ?hup); (case hnp => with_reducible assumption); (case hup => walk_at "hp"))
  | ((with_reducible refine' Rd.same_at ?hsm ?hup); (case hsm => with_reducible assumption); (case hup => walk_at "hp"))
  | ((with_reducible refine' Rd.fr_at ?hsm ?hup ?hns); (case hsm => with_reducible assumption); (case hup => walk_at "hp"); (case hns => walk_at "nst"))
  | ((with_reducible refine' Rd.at_wr ?hne ?hup); (case hup => walk_at "hp"); (case hne => first | with_reducible assumption | (with_reducible refine' Ne.symm ?hne2; with_reducible assumption))))
local macro_rules | `(tactic| walk_at "sq") => `(tactic| first
  | with_reducible assumption
  | ((with_reducible refine' Rd.same_sq ?hsm ?hup); (case hsm => with_reducible assumption); (case hup => walk_at "sq"))
  | ((with_reducible refine' Rd.fr_sq ?hsm ?hup); (case hsm => with_reducible assumption); (case hup => walk_at "sq"))
  | ((with_reducible refine' Rd.sq_new ?hnp ?hup); (case hnp => with_reducible assumption); (case hup => walk_at "sq"))
  | ((with_reducible refine' L2.SqL.of ?hup); (case hup => walk_at "hp"))
  | ((with_reducible refine' L2.SqT.of ?hup); (case hup => walk_at "hp"))
  | ((with_reducible refine' Or.inl ?hup); (case hup => walk_at "sq"))
  | ((with_reducible refine' Or.inr ?hup); (case hup => walk_at "sq")))
local macro_rules | `(tactic| walk_at "ss") => `(tactic| first
  | with_reducible assumption
  | ((with_reducible refine' Rd.St.new ?hup ?hnp); (case hnp => with_reducible assumption); (case hup => walk_at "ss"))
  | ((with_reducible refine' Rd.St.same ?hup ?hsm); (case hsm => with_reducible assumption); (case hup => walk_at "ss")))
local macro_rules | `(tactic| walk_at "fr") => `(tactic| first
  | with_reducible assumption
  | with_reducible exact Rd.Fr.refl _
  | with_reducible exact L2.Same.refl _
  | ((with_reducible refine' Rd.fr_new ?hnp ?hup); (case hnp => first | with_reducible assumption | walk_at "no"); (case hup => walk_at "fr"))
  | ((with_reducible refine' Rd.sm_new ?hnp ?hup); (case hnp => first | with_reducible assumption | walk_at "no"); (case hup => walk_at "fr"))
  | ((with_reducible refine' Rd.Fr.trans ?hup ?hsm); (case hsm => with_reducible assumption); (case hup => walk_at "fr"))
  | ((with_reducible refine' Rd.Fr.same ?hup ?hsm); (case hsm => with_reducible assumption); (case hup => walk_at "fr"))
  | ((with_reducible refine' L2.Same.trans ?hup ?hsm); (case hsm => with_reducible assumption); (case hup => walk_at "fr")))
/-- one step -/
local macro_rules | `(tactic| walk_at "go1") => `(tactic| first
  | with_reducible refine Rd.r_v0 ?_ | with_reducible refine Rd.r_v1 ?_ | with_reducible refine Rd.r_v2 ?_ | with_reducible refine Rd.r_v3 ?_ | with_reducible refine Rd.r_v4 ?_ | with_reducible refine Rd.r_v5 ?_
  | with_reducible refine Rd.r_c ?_ | with_reducible refine Rd.r_op ?_ | with_reducible refine Rd.r_cons ?_ | with_reducible refine Rd.r_nil ?_
  | with_reducible refine Rd.r_I0 ?_ | with_reducible refine Rd.r_addI ?_ | with_reducible refine Rd.r_eqI ?_ | with_reducible refine Rd.r_neI ?_ | with_reducible refine Rd.r_eqB ?_ | with_reducible refine Rd.r_neB ?_
  | with_reducible refine Rd.r_seq ?_ | with_reducible refine Rd.r_asg ?_
  | with_reducible refine Rd.r_g0 ?_ | with_reducible refine Rd.r_g1 ?_ | with_reducible refine Rd.r_g2 ?_ | with_reducible refine Rd.r_g3 ?_ | with_reducible refine Rd.r_g4 ?_ | with_reducible refine Rd.r_g5 ?_
  | with_reducible refine Rd.r_ret ?_ | with_reducible refine Rd.r_retN ?_ | with_reducible refine Rd.r_ifS ?_ | with_reducible refine Rd.r_next ?_ | with_reducible refine Rd.r_drop ?_ | with_reducible refine Rd.r_break ?_ | with_reducible refine Rd.r_cont ?_
  | with_reducible refine Rd.r_test ?_ | with_reducible refine Rd.r_B ?_ | with_reducible refine Rd.r_bl ?_ | with_reducible refine Rd.r_and ?_ | with_reducible refine Rd.r_or ?_ | with_reducible refine Rd.r_not ?_
  | with_reducible refine Rd.r_andV ?_ | with_reducible refine Rd.r_orV ?_ | with_reducible refine Rd.r_notV ?_ | with_reducible refine Rd.r_if ?_ | with_reducible refine Rd.r_chain ?_ | with_reducible refine Rd.r_un ?_ | with_reducible refine Rd.r_U ?_
  | with_reducible refine Rd.r_cB ?_ | with_reducible refine Rd.r_call ?_ | with_reducible refine Rd.r_tup ?_ | with_reducible refine Rd.r_lst ?_
  | with_reducible refine Rd.r_sl ?_ | with_reducible refine Rd.r_noP ?_ | with_reducible refine Rd.r_part ?_ | with_reducible refine Rd.r_partI ?_ | with_reducible refine Rd.r_bm ?_ | with_reducible refine Rd.r_bm0 ?_
  | with_reducible refine Rd.r_for ?_ | with_reducible refine Rd.r_iList ?_ | with_reducible refine Rd.r_iRng1 ?_ | with_reducible refine Rd.r_iRng2 ?_ | with_reducible refine Rd.r_iEnum ?_
  | with_reducible refine Rd.r_lc ?_ | with_reducible refine Rd.r_tYes ?_
  | with_reducible refine Rd.r_max2 ?_ | with_reducible refine Rd.r_min2 ?_ | with_reducible refine Rd.r_abs ?_ | with_reducible refine Rd.r_intI ?_ | with_reducible refine Rd.r_intB ?_
  | with_reducible refine Rd.r_gCons ?_ | with_reducible refine Rd.r_gNil ?_ | with_reducible refine Rd.r_gSub ?_
  | ((with_reducible refine' Rd.r_ix ?hsq ?hat ?hk); (case hsq => walk_at "sq"); (case hat => first | rfl | assumption))
  | ((with_reducible refine' Rd.r_gTup ?hsq ?hat ?hk); (case hsq => walk_at "sq"); (case hat => rfl))
  | ((with_reducible refine' Rd.r_lenS ?hsq ?hk); (case hsq => walk_at "sq"); (intro hlenS))
  | ((with_reducible refine' Rd.r_lay ?hlen ?hk); (case hlen => exact Rd.len_ok rfl))
  | ((with_reducible refine' Rd.r_pow ?hpo ?hk); (case hpo => decide))
  | with_reducible refine Rd.r_v6 ?_ | with_reducible refine Rd.r_v7 ?_ | with_reducible refine Rd.r_v8 ?_ | with_reducible refine Rd.r_v9 ?_ | with_reducible refine Rd.r_v10 ?_ | with_reducible refine Rd.r_v11 ?_ | with_reducible refine Rd.r_v12 ?_ | with_reducible refine Rd.r_v13 ?_ | with_reducible refine Rd.r_v14 ?_ | with_reducible refine Rd.r_v15 ?_ | with_reducible refine Rd.r_v16 ?_ | with_reducible refine Rd.r_v17 ?_ | with_reducible refine Rd.r_v18 ?_ | with_reducible refine Rd.r_v19 ?_ | with_reducible refine Rd.r_v20 ?_ | with_reducible refine Rd.r_v21 ?_
  | with_reducible refine Rd.r_g6 ?_ | with_reducible refine Rd.r_g7 ?_ | with_reducible refine Rd.r_g8 ?_ | with_reducible refine Rd.r_g9 ?_ | with_reducible refine Rd.r_g10 ?_ | with_reducible refine Rd.r_g11 ?_ | with_reducible refine Rd.r_g12 ?_ | with_reducible refine Rd.r_g13 ?_ | with_reducible refine Rd.r_g14 ?_ | with_reducible refine Rd.r_g15 ?_ | with_reducible refine Rd.r_g16 ?_ | with_reducible refine Rd.r_g17 ?_ | with_reducible refine Rd.r_g18 ?_ | with_reducible refine Rd.r_g19 ?_ | with_reducible refine Rd.r_g20 ?_ | with_reducible refine Rd.r_g21 ?_)
local macro_rules | `(tactic| walk_at "go") => `(tactic| repeat walk_at "go1")

namespace Rd
open PySem L2
def top (i : Nat) : Stmt := PySem.Challenge.pw_stepgear_k08_keepers.main.body.getD i (.Pass ⟨0, 0, 0, 0⟩)
abbrev s_need_gear : Stmt := top 11
theorem sc_need_gear : FnScope ["gear", "around", "play"] ["gear"] (defScope s_need_gear) := ⟨rfl, rfl, rfl, by decide +kernel, rfl, by decide +kernel, by decide +kernel⟩
theorem bo_need_gear : BindOk "need_gear" s_need_gear ["gear"] := fun _ _ _ _ _ _ us hl => match us, hl with | [_], _ => rfl
abbrev s_need_standing : Stmt := top 12
theorem sc_need_standing : FnScope ["gear", "standing", "motor", "shaft"] ["gear", "standing"] (defScope s_need_standing) := ⟨rfl, rfl, rfl, by decide +kernel, rfl, by decide +kernel, by decide +kernel⟩
theorem bo_need_standing : BindOk "need_standing" s_need_standing ["gear", "standing"] := fun _ _ _ _ _ _ us hl => match us, hl with | [_, _], _ => rfl
abbrev s_behind : Stmt := top 13
theorem sc_behind : FnScope ["gear", "standing", "steps", "motor"] ["gear", "standing", "steps"] (defScope s_behind) := ⟨rfl, rfl, rfl, by decide +kernel, rfl, by decide +kernel, by decide +kernel⟩
theorem bo_behind : BindOk "behind" s_behind ["gear", "standing", "steps"] := fun _ _ _ _ _ _ us hl => match us, hl with | [_, _, _], _ => rfl
abbrev s_need_marks : Stmt := top 16
theorem sc_need_marks : FnScope ["gear", "marks", "good", "mark"] ["gear", "marks"] (defScope s_need_marks) := ⟨rfl, rfl, rfl, by decide +kernel, rfl, by decide +kernel, by decide +kernel⟩
theorem bo_need_marks : BindOk "need_marks" s_need_marks ["gear", "marks"] := fun _ _ _ _ _ _ us hl => match us, hl with | [_, _], _ => rfl
abbrev s_off_to : Stmt := top 17
theorem sc_off_to : FnScope ["around", "shaft", "mark", "low"] ["around", "shaft", "mark"] (defScope s_off_to) := ⟨rfl, rfl, rfl, by decide +kernel, rfl, by decide +kernel, by decide +kernel⟩
theorem bo_off_to : BindOk "off_to" s_off_to ["around", "shaft", "mark"] := fun _ _ _ _ _ _ us hl => match us, hl with | [_, _, _], _ => rfl
abbrev s_law_start : Stmt := top 20
theorem sc_law_start : FnScope ["_law_script", "_law_mixed", "_law_cell"] ["_law_script"] (defScope s_law_start) := ⟨rfl, rfl, rfl, by decide +kernel, rfl, by decide +kernel, by decide +kernel⟩
theorem bo_law_start : BindOk "_law_start" s_law_start ["_law_script"] := fun _ _ _ _ _ _ us hl => match us, hl with | [_], _ => rfl
abbrev s_law_drawn : Stmt := top 21
theorem sc_law_drawn : FnScope ["_law_state", "_law_many", "_law_found", "_law_cell"] ["_law_state", "_law_many"] (defScope s_law_drawn) := ⟨rfl, rfl, rfl, by decide +kernel, rfl, by decide +kernel, by decide +kernel⟩
theorem bo_law_drawn : BindOk "_law_drawn" s_law_drawn ["_law_state", "_law_many"] := fun _ _ _ _ _ _ us hl => match us, hl with | [_, _], _ => rfl
abbrev s_law_same : Stmt := top 22
theorem sc_law_same : FnScope ["_law_found", "_law_due", "_law_k"] ["_law_found", "_law_due"] (defScope s_law_same) := ⟨rfl, rfl, rfl, by decide +kernel, rfl, by decide +kernel, by decide +kernel⟩
theorem bo_law_same : BindOk "_law_same" s_law_same ["_law_found", "_law_due"] := fun _ _ _ _ _ _ us hl => match us, hl with | [_, _], _ => rfl
abbrev s_law_kind : Stmt := top 23
theorem sc_law_kind : FnScope ["_law_work", "e", "_law_kinds", "_law_words", "_law_word"] ["_law_work"] (defScope s_law_kind) := ⟨rfl, rfl, rfl, by decide +kernel, rfl, by decide +kernel, by decide +kernel⟩
theorem bo_law_kind : BindOk "_law_kind" s_law_kind ["_law_work"] := fun _ _ _ _ _ _ us hl => match us, hl with | [_], _ => rfl
abbrev s_law_far : Stmt := top 24
theorem sc_law_far : FnScope ["_law_state", "_law_least", "_law_most", "_law_far_here"] ["_law_state", "_law_least", "_law_most"] (defScope s_law_far) := ⟨rfl, rfl, rfl, by decide +kernel, rfl, by decide +kernel, by decide +kernel⟩
theorem bo_law_far : BindOk "_law_far" s_law_far ["_law_state", "_law_least", "_law_most"] := fun _ _ _ _ _ _ us hl => match us, hl with | [_, _, _], _ => rfl
abbrev s_law_gear : Stmt := top 25
theorem sc_law_gear : FnScope ["_law_state", "_law_small", "_law_sorts", "_law_around", "_law_play"] ["_law_state", "_law_small"] (defScope s_law_gear) := ⟨rfl, rfl, rfl, by decide +kernel, rfl, by decide +kernel, by decide +kernel⟩
theorem bo_law_gear : BindOk "_law_gear" s_law_gear ["_law_state", "_law_small"] := fun _ _ _ _ _ _ us hl => match us, hl with | [_, _], _ => rfl
abbrev s_law_standing : Stmt := top 26
theorem sc_law_standing : FnScope ["_law_state", "_law_gear_here", "_law_far_here", "_law_motor"] ["_law_state", "_law_gear_here"] (defScope s_law_standing) := ⟨rfl, rfl, rfl, by decide +kernel, rfl, by decide +kernel, by decide +kernel⟩
theorem bo_law_standing : BindOk "_law_standing" s_law_standing ["_law_state", "_law_gear_here"] := fun _ _ _ _ _ _ us hl => match us, hl with | [_, _], _ => rfl
abbrev s_law_moves : Stmt := top 27
theorem sc_law_moves : FnScope ["_law_state", "_law_gear_here", "_law_most", "_law_found", "_law_k", "_law_size"] ["_law_state", "_law_gear_here", "_law_most"] (defScope s_law_moves) := ⟨rfl, rfl, rfl, by decide +kernel, rfl, by decide +kernel, by decide +kernel⟩
theorem bo_law_moves : BindOk "_law_moves" s_law_moves ["_law_state", "_law_gear_here", "_law_most"] := fun _ _ _ _ _ _ us hl => match us, hl with | [_, _, _], _ => rfl
abbrev s_law_behind : Stmt := top 28
theorem sc_law_behind : FnScope ["_law_gear_here", "_law_standing_here", "_law_steps", "_law_motor", "_law_shaft", "_law_free"] ["_law_gear_here", "_law_standing_here", "_law_steps"] (defScope s_law_behind) := ⟨rfl, rfl, rfl, by decide +kernel, rfl, by decide +kernel, by decide +kernel⟩
theorem bo_law_behind : BindOk "_law_behind" s_law_behind ["_law_gear_here", "_law_standing_here", "_law_steps"] := fun _ _ _ _ _ _ us hl => match us, hl with | [_, _, _], _ => rfl
abbrev s_law_marks : Stmt := top 29
theorem sc_law_marks : FnScope ["_law_state", "_law_gear_here", "_law_some", "_law_k"] ["_law_state", "_law_gear_here"] (defScope s_law_marks) := ⟨rfl, rfl, rfl, by decide +kernel, rfl, by decide +kernel, by decide +kernel⟩
theorem bo_law_marks : BindOk "_law_marks" s_law_marks ["_law_state", "_law_gear_here"] := fun _ _ _ _ _ _ us hl => match us, hl with | [_, _], _ => rfl
abbrev s_law_nearest : Stmt := top 30
theorem sc_law_nearest : FnScope ["_law_gear_here", "_law_shaft", "_law_mark", "_law_up"] ["_law_gear_here", "_law_shaft", "_law_mark"] (defScope s_law_nearest) := ⟨rfl, rfl, rfl, by decide +kernel, rfl, by decide +kernel, by decide +kernel⟩
theorem bo_law_nearest : BindOk "_law_nearest" s_law_nearest ["_law_gear_here", "_law_shaft", "_law_mark"] := fun _ _ _ _ _ _ us hl => match us, hl with | [_, _, _], _ => rfl
abbrev s_law_deed : Stmt := top 31
theorem sc_law_deed : FnScope ["_law_state", "_law_side", "_law_keeper", "_law_gear_here", "_law_marks_here", "_law_here", "_law_way", "_law_steps", "_law_odd", "_law_number", "_law_due", "_law_offs", "_law_mark", "_law_off"] ["_law_state", "_law_side"] (defScope s_law_deed) := ⟨rfl, rfl, rfl, by decide +kernel, rfl, by decide +kernel, by decide +kernel⟩
theorem bo_law_deed : BindOk "_law_deed" s_law_deed ["_law_state", "_law_side"] := fun _ _ _ _ _ _ us hl => match us, hl with | [_, _], _ => rfl
abbrev s_law : Stmt := top 32
theorem sc_law : FnScope ["_law_script", "_law_state", "_law_sides", "_law_k", "_law_gear_here", "_law_marks_here", "_law_standing_here", "_law_turn", "_law_side"] ["_law_script"] (defScope s_law) := ⟨rfl, rfl, rfl, by decide +kernel, rfl, by decide +kernel, by decide +kernel⟩
theorem bo_law : BindOk "law" s_law ["_law_script"] := fun _ _ _ _ _ _ us hl => match us, hl with | [_], _ => rfl
abbrev s_BadText_init : Stmt := inClass (top 8) 0
theorem sc_BadText_init : FnScope ["self", "place"] ["self", "place"] (defScope s_BadText_init) := ⟨rfl, rfl, rfl, by decide +kernel, rfl, by decide +kernel, by decide +kernel⟩
abbrev s_Keeper_init : Stmt := inClass (top 18) 0
theorem sc_Keeper_init : FnScope ["self", "gear", "marks", "standing"] ["self", "gear", "marks", "standing"] (defScope s_Keeper_init) := ⟨rfl, rfl, rfl, by decide +kernel, rfl, by decide +kernel, by decide +kernel⟩
theorem bo_Keeper_init : BindOkQ "__init__" "Keeper.__init__" s_Keeper_init ["self", "gear", "marks", "standing"] := fun _ _ _ _ _ _ us hl => match us, hl with | [_, _, _, _], _ => rfl
abbrev s_Keeper_move : Stmt := inClass (top 18) 1
theorem sc_Keeper_move : FnScope ["self", "steps"] ["self", "steps"] (defScope s_Keeper_move) := ⟨rfl, rfl, rfl, by decide +kernel, rfl, by decide +kernel, by decide +kernel⟩
theorem bo_Keeper_move : BindOkQ "move" "Keeper.move" s_Keeper_move ["self", "steps"] := fun _ _ _ _ _ _ us hl => match us, hl with | [_, _], _ => rfl
abbrev s_Keeper_believed : Stmt := inClass (top 18) 2
theorem sc_Keeper_believed : FnScope ["self"] ["self"] (defScope s_Keeper_believed) := ⟨rfl, rfl, rfl, by decide +kernel, rfl, by decide +kernel, by decide +kernel⟩
theorem bo_Keeper_believed : BindOkQ "believed" "Keeper.believed" s_Keeper_believed ["self"] := fun _ _ _ _ _ _ us hl => match us, hl with | [_], _ => rfl
abbrev s_Keeper_moved_by : Stmt := inClass (top 18) 3
theorem sc_Keeper_moved_by : FnScope ["self", "off"] ["self", "off"] (defScope s_Keeper_moved_by) := ⟨rfl, rfl, rfl, by decide +kernel, rfl, by decide +kernel, by decide +kernel⟩
theorem bo_Keeper_moved_by : BindOkQ "moved_by" "Keeper.moved_by" s_Keeper_moved_by ["self", "off"] := fun _ _ _ _ _ _ us hl => match us, hl with | [_, _], _ => rfl
abbrev s_Keeper_found : Stmt := inClass (top 18) 4
theorem sc_Keeper_found : FnScope ["self", "number"] ["self", "number"] (defScope s_Keeper_found) := ⟨rfl, rfl, rfl, by decide +kernel, rfl, by decide +kernel, by decide +kernel⟩
theorem bo_Keeper_found : BindOkQ "found" "Keeper.found" s_Keeper_found ["self", "number"] := fun _ _ _ _ _ _ us hl => match us, hl with | [_, _], _ => rfl
abbrev s_Keeper_found_any : Stmt := inClass (top 18) 5
theorem sc_Keeper_found_any : FnScope ["self", "offs", "mark"] ["self"] (defScope s_Keeper_found_any) := ⟨rfl, rfl, rfl, by decide +kernel, rfl, by decide +kernel, by decide +kernel⟩
theorem bo_Keeper_found_any : BindOkQ "found_any" "Keeper.found_any" s_Keeper_found_any ["self"] := fun _ _ _ _ _ _ us hl => match us, hl with | [_], _ => rfl
end Rd

/-! ## texts -/
namespace Rd
open PySem PySem.Spec L2 PyProof.Rows TL
section
variable {K : PySem.W.Frag} {σ : L2.St} {H : Hp} {Q : VK}
def rStrI : List V → Hp → VK → Prop := fun xs H Q => ∃ i, xs = [.int i] ∧ i.natAbs.log2 < 1920 ∧ Q (.str (toString i)) H
theorem kc_str {X : Cx} : CallR X (.type "str") rStrI := call_str_int
theorem r_strI {i : Int} (h : i.natAbs.log2 < 1920) (k : Q (.str (toString i)) H) : rStrI [.int i] H Q := ⟨i, rfl, h, k⟩
def rIntS : List V → Hp → VK → Prop := fun xs H Q => ∃ a n, xs = [.str a] ∧ PySem.intText? a = some n ∧ a.length ≤ 640 ∧ Q (.int n) H
theorem kc_intS {X : Cx} : CallR X (.type "int") rIntS := call_int_str
theorem r_intS {a : Str} {n : Int} (h : PySem.intText? a = some n) (hl : a.length ≤ 640) (k : Q (.int n) H) : rIntS [.str a] H Q := ⟨a, n, rfl, h, hl, k⟩
theorem r_eqS {x y : Str} (k : Q (.bl (decide (x = y))) H) : rEqA K (.str x) (.str y) H Q := .inl ⟨rfl, by
  have e : decide (V.str x = V.str y) = decide (x = y) := by by_cases h : x = y <;> simp [h]
  rw [e]
  exact k⟩
theorem r_neS {x y : Str} (k : Q (.bl (!decide (x = y))) H) : rNeA K (.str x) (.str y) H Q := .inl ⟨rfl, by
  have e : decide (V.str x = V.str y) = decide (x = y) := by by_cases h : x = y <;> simp [h]
  rw [e]
  exact k⟩
theorem r_ixS {z : Str} {i : Int} {c : Nat} (hz : z.length ≤ sizeLine) (e : atI z.cps.toList i = some c) (k : Q (.str ⟨#[c]⟩) H) : rIx K (.str z) (.int i) H Q := .inr (.inr ⟨z, i, c, rfl, rfl, hz, e, k⟩)
theorem r_slS {z : Str} {lo hi : Option Int} (hz : z.length ≤ sizeLine) (k : Q (.str (cutS z lo hi)) H) : rSlAll K (.str z) lo hi H Q := .inr (.inr ⟨z, rfl, hz, k⟩)
theorem r_lenStr {z : Str} (hz : z.length ≤ sizeLine) (k : Q (.int z.length) H) : rLen K [.str z] H Q := .inr ⟨z, rfl, hz, k⟩
theorem r_addS {x y : Str} (hz : x.length + y.length ≤ sizeLine) (k : Q (.str (x ++ y)) H) : rAddA K (.str x) (.str y) H Q := .inr (.inl ⟨x, y, rfl, rfl, hz, k⟩)
theorem inV_strs (x : Str) : ∀ ys : List Str, inV (.str x) (ys.map V.str) = decide (x ∈ ys)
  | [] => by simp [inV]
  | a :: r => by
    have ih := inV_strs x r
    unfold inV at ih ⊢
    rw [List.map_cons, List.any_cons, ih]
    have e : eqV (.str a) (.str x) = decide (x = a) := by
      by_cases c : x = a
      · subst c
        simp [eqV]
      · have c2 : ¬ a = x := fun e => c e.symm
        simp [eqV, c, c2]
    rw [e]
    by_cases c : x = a
    · simp [c]
    · simp [c]
theorem flat_strs9 (ys : List Str) : (ys.map V.str).all flatV = true := by
  rw [List.all_map]
  exact List.all_eq_true.mpr fun _ _ => rfl
theorem r_notInT {a : Addr} {x : Str} {ys : List Str} (h : H a = some (.tup (ys.map V.str))) (k : Q (.bl (!decide (x ∈ ys))) H) : rIn K true (.str x) (.ref a) H Q := ⟨a, _, rfl, .inr (SqT.of h), rfl, flat_strs9 ys, by rw [inV_strs]; exact k⟩
theorem r_inT {a : Addr} {x : Str} {ys : List Str} (h : H a = some (.tup (ys.map V.str))) (k : Q (.bl (decide (x ∈ ys))) H) : rIn K false (.str x) (.ref a) H Q := ⟨a, _, rfl, .inr (SqT.of h), rfl, flat_strs9 ys, by rw [inV_strs]; exact k⟩
def rNSign : R2 := fun x y H Q => ∃ (c : Nat) (z : Str), x = .str ⟨#[c]⟩ ∧ y = .str z ∧ Q (.bl (!decide (c ∈ z.cps.toList))) H
theorem op_nsign {X : Cx} : OpR X (compareOp .NotIn) rNSign := op_notIn_sign
theorem r_nsign {c : Nat} {z : Str} (k : Q (.bl (!decide (c ∈ tl z))) H) : rNSign (.str ⟨#[c]⟩) (.str z) H Q := ⟨c, z, rfl, rfl, k⟩
theorem r_iStr {te : TE} {R : It → Hp → Prop} (k : te σ H fun y H1 => ∃ x, y = .str x ∧ R (Its x) H1) : iStr te σ H R := k
theorem lcw_str {g : TG} {tt : TT} {te : TE} {vs : List Nat} {σw : L2.St} {D : Addr} {H1 : Hp} {z : Str} (Pv : Nat → Hp → Prop) (hw : wipe σ vs = σw) (h0 : Pv 0 (upd H1 D (.lst [])))
    (hs : ∀ i c H, (tl z)[i]? = some c → Pv i H → g (.str ⟨#[c]⟩) σw H fun σ2 H2 => wipe σ2 vs = σw ∧ tt σ2 H2 fun b H3 =>
      if b = true then te σ2 H3 fun y H4 => ∃ acc, H4 D = some (.lst acc) ∧ acc.length < sizeLine ∧ Pv (i + 1) (upd H4 D (.lst (acc ++ [y]))) else Pv (i + 1) H3) (hd : ∀ H, Pv (tl z).length H → Q (.ref D) H) : LcW (Its z) g tt te vs σ Q D H1 := by
  subst hw
  have e : z.cps.size = (tl z).length := len_tl z
  refine lc_it walk_str Pv h0 (fun _ _ _ _ => trivial) (fun i x H H' hi p y => ?_) (fun H p => hd H (by rw [← e]; exact p))
  obtain ⟨rfl, c, hc, rfl⟩ := y
  exact hs i c H' (by rw [Array.getElem?_toList]; exact hc) p
def rJoin (K : PySem.W.Frag) : V → List V → Hp → VK → Prop := fun x xs H Q => ∃ a p, ∃ ys : List Str, x = .str a ∧ xs = [.ref p] ∧ (SqL K H p (ys.map V.str) ∨ SqT K H p (ys.map V.str)) ∧ (ys.map (·.length)).sum + ys.length * a.length ≤ 16777216 ∧ Q (.str (Txt.join a ys)) H
theorem kpe_join {X : Cx} {o e : Expr} {to te : TE} {apos pos : Pos} (h : X.K = K) (ho : PE X o to) (he : PE X e te) (hs : starEach [e] X.env = [(false, eval e X.env)] := by rfl) (hbase : attributeBase o "join" X.env (eval o X.env) = eval o X.env := by rfl) (hline : (apos.endLine == pos.line) = true := by rfl) :
    PE X (.Call (.Attribute o "join" apos) [e] [] pos) (tM1 (rJoin K) to te) := by subst h; exact pe_join ho he hs hbase hline
def rSplit : V → List V → Hp → VK → Prop := fun x xs H Q => ∃ a b, x = .str a ∧ xs = [.str b] ∧ (b.length == 0) = false ∧ a.length + 2 ≤ sizeLine ∧ rNewStrs (Txt.split a b) H Q
theorem kpe_split {X : Cx} {o e : Expr} {to te : TE} {apos pos : Pos} (ho : PE X o to) (he : PE X e te) (hs : starEach [e] X.env = [(false, eval e X.env)] := by rfl) (hbase : attributeBase o "split" X.env (eval o X.env) = eval o X.env := by rfl) (hline : (apos.endLine == pos.line) = true := by rfl) :
    PE X (.Call (.Attribute o "split" apos) [e] [] pos) (tM1 rSplit to te) := pe_split ho he hs hbase hline
theorem r_m1 {r : V → List V → Hp → VK → Prop} {to te : TE} (k : to σ H fun x H1 => (∃ a, x = .str a) ∧ te σ H1 fun y H2 => r x [y] H2 Q) : tM1 r to te σ H Q := k
theorem r_join {a : Str} {p : Addr} {ys : List Str} (h : SqL K H p (ys.map V.str)) (hz : (ys.map (·.length)).sum + ys.length * a.length ≤ 16777216) (k : Q (.str (Txt.join a ys)) H) : rJoin K (.str a) [.ref p] H Q := ⟨a, p, ys, rfl, rfl, .inl h, hz, k⟩
theorem r_split {a b : Str} (hb : (b.length == 0) = false) (hz : a.length + 2 ≤ sizeLine) (k : ∀ p, H p = none → Q (.ref p) (upd H p (.lst ((Txt.split a b).map V.str)))) : rSplit (.str a) [.str b] H Q := ⟨a, b, rfl, rfl, hb, hz, k⟩
/-- a module's text -/
structure CnS (mg : Str → Option Value) (x : Str) (i : Str) : Prop where
  ex : ∃ t, mg x = some (.str i t)
theorem pe_cnS {X : Cx} {x i : Str} {pos : Pos} (h : CnS X.mg x i) (hg : Gl X x) (hd : (x == ("__debug__" : Str)) = false := by decide) : PE X (.Name x pos) (tC (.str i)) := by
  obtain ⟨t, e⟩ := h.ex
  exact pe_glob hg e ⟨t, rfl⟩ hd
end
/-! ### words of moves -/
theorem tl_cut1 (z : Str) : tl (cutS z (some 1) none) = (tl z).drop 1 := by
  unfold cutS
  rw [tl_mk, show (1 : Int) = ((1 : Nat) : Int) from rfl, HT.sIx_nat, HT.sIx_none]
  rw [len_tl]
  by_cases h : 1 ≤ (tl z).length
  · rw [Nat.min_eq_left h, List.take_of_length_le (by rw [List.length_drop]; exact Nat.le_refl _)]
  · rw [Nat.min_eq_right (by omega), Nat.sub_self, List.take_zero, List.drop_of_length_le (by omega)]
theorem tl_cut01 (z : Str) : tl (cutS z none (some 1)) = (tl z).take 1 := by
  unfold cutS
  rw [tl_mk, show (1 : Int) = ((1 : Nat) : Int) from rfl, HT.sIx_nat, HT.sIx_none]
  rw [len_tl, List.drop_zero, Nat.sub_zero]
  by_cases h : 1 ≤ (tl z).length
  · rw [Nat.min_eq_left h]
  · rw [Nat.min_eq_right (by omega), List.take_of_length_le (Nat.le_refl _), List.take_of_length_le (by omega)]
def wordL (k : Int) : List Nat := if k = 0 then [48] else (if 0 < k then 43 else 45) :: numL k.natAbs
def wordS (k : Int) : Str := ⟨(wordL k).toArray⟩
theorem tl_word (k : Int) : tl (wordS k) = wordL k := rfl
def digit (c : Nat) : Bool := decide (48 ≤ c ∧ c ≤ 57)
/-- the move that a word writes -/
def stepsL (l : List Nat) : Option Int :=
  if l = [48] then some 0 else
  if l.take 1 = [43] ∨ l.take 1 = [45] then
    (if 1 ≤ (l.drop 1).length ∧ (l.drop 1).length ≤ 30 ∧ (l.drop 1).head? ≠ some 48 ∧ (l.drop 1).all digit = true then some (if l.take 1 = [43] then (NumText.digitsVal (l.drop 1) : Int) else 0 - (NumText.digitsVal (l.drop 1) : Int)) else none)
  else none
theorem numL_head {n : Nat} (h : 0 < n) : (numL n).head? ≠ some 48 := by
  induction n using Nat.strongRecOn with
  | _ n ih =>
    by_cases c : n < 10
    · rw [numL_lt c]
      show some (48 + n) ≠ some 48
      intro e
      have := Option.some.inj e
      omega
    · have a := ih (n / 10) (by omega) (by omega)
      have b := numL_ne (n / 10)
      rw [numL_step (by omega)]
      cases e : numL (n / 10) with
      | nil => exact absurd e b
      | cons x r =>
        rw [e] at a
        exact a
theorem allDigits_iff (l : List Nat) : l.all digit = true ↔ NumText.AllDigits l := by
  rw [List.all_eq_true]
  exact ⟨fun h c hc => of_decide_eq_true (h c hc), fun h c hc => decide_eq_true (h c hc)⟩
theorem stepsL_word {k : Int} (h : k.natAbs < 10 ^ 30) : stepsL (wordL k) = some k := by
  unfold wordL
  by_cases c : k = 0
  · rw [if_pos c, stepsL, if_pos rfl, c]
  · rw [if_neg c]
    have n0 : 0 < k.natAbs := by omega
    have hne : numL k.natAbs ≠ [] := numL_ne _
    have hl : 1 ≤ (numL k.natAbs).length := List.length_pos_iff.mpr hne
    have h30 : (numL k.natAbs).length ≤ 30 := numL_len (by decide) h
    have hd := (allDigits_iff _).mpr (numL_digits k.natAbs)
    unfold stepsL
    rw [if_neg (fun e => hne (List.cons.inj e).2)]
    by_cases p : 0 < k
    · rw [if_pos p, if_pos (.inl rfl)]
      have cond : 1 ≤ (List.drop 1 (43 :: numL k.natAbs)).length ∧ (List.drop 1 (43 :: numL k.natAbs)).length ≤ 30 ∧ (List.drop 1 (43 :: numL k.natAbs)).head? ≠ some 48 ∧ (List.drop 1 (43 :: numL k.natAbs)).all digit = true := ⟨hl, h30, numL_head n0, hd⟩
      rw [if_pos cond]
      show some (if ([43] : List Nat) = [43] then ((NumText.digitsVal (numL k.natAbs) : Nat) : Int) else 0 - ((NumText.digitsVal (numL k.natAbs) : Nat) : Int)) = _
      rw [if_pos rfl]
      show some ((NumText.digitsVal (numL k.natAbs) : Nat) : Int) = _
      rw [numL_val]
      congr 1
      omega
    · rw [if_neg p, if_pos (.inr rfl)]
      have cond : 1 ≤ (List.drop 1 (45 :: numL k.natAbs)).length ∧ (List.drop 1 (45 :: numL k.natAbs)).length ≤ 30 ∧ (List.drop 1 (45 :: numL k.natAbs)).head? ≠ some 48 ∧ (List.drop 1 (45 :: numL k.natAbs)).all digit = true := ⟨hl, h30, numL_head n0, hd⟩
      rw [if_pos cond]
      show some (if ([45] : List Nat) = [43] then ((NumText.digitsVal (numL k.natAbs) : Nat) : Int) else 0 - ((NumText.digitsVal (numL k.natAbs) : Nat) : Int)) = _
      rw [if_neg (by decide), numL_val]
      congr 1
      omega
theorem word_free (k : Int) : 32 ∉ wordL k := by
  unfold wordL
  split
  · decide
  · intro h
    rcases List.mem_cons.mp h with e | e
    · split at e <;> omega
    · exact numL_free (.inl (by decide)) e
theorem word_len {k : Int} (h : k.natAbs < 10 ^ 30) : (wordS k).length ≤ 31 := by
  rw [len_tl, tl_word, wordL]
  split
  · decide
  · rw [List.length_cons]
    have := numL_len (n := k.natAbs) (k := 30) (by decide) h
    omega
theorem word_ne (k : Int) : wordL k ≠ [] := by
  unfold wordL
  split
  · decide
  · exact List.cons_ne_nil _ _
/-- the text of moves -/
def textS (ms : List Int) : Str := Txt.join ⟨#[32]⟩ (ms.map wordS)
theorem textS_nil : textS [] = ⟨#[]⟩ := by decide +kernel
theorem tl_text (ms : List Int) : tl (textS ms) = joinL [32] (ms.map wordL) := by
  unfold textS
  rw [join_eq, tl_join, List.map_map]
  rfl
theorem split_text {ms : List Int} (h : ms ≠ []) : Txt.split (textS ms) ⟨#[32]⟩ = ms.map wordS := by
  refine split_join (y := ⟨#[32]⟩) (s := 32) (S := []) rfl (by decide +kernel) (fun e => h (List.map_eq_nil_iff.mp e)) fun p hp => ?_
  obtain ⟨k, _, rfl⟩ := List.mem_map.mp hp
  exact word_free k
theorem joinL_ne {ps : List (List Nat)} (h : ps ≠ []) (hp : ∀ p ∈ ps, p ≠ []) : joinL [32] ps ≠ [] := by
  match ps, h with
  | [p], _ => exact hp p List.mem_cons_self
  | p :: q :: r, _ =>
    intro e
    exact hp p List.mem_cons_self (List.append_eq_nil_iff.mp e).1
theorem text_ne {ms : List Int} (h : ms ≠ []) : textS ms ≠ ⟨#[]⟩ := fun e => by
  have := congrArg tl e
  rw [tl_text] at this
  exact joinL_ne (fun z => h (List.map_eq_nil_iff.mp z)) (fun p hp => by
    obtain ⟨k, _, rfl⟩ := List.mem_map.mp hp
    exact word_ne k) this
theorem joinL_len {c : Nat} : ∀ {ps : List (List Nat)}, (∀ p ∈ ps, p.length ≤ c) → (joinL [32] ps).length ≤ ps.length * (c + 1)
  | [], _ => Nat.zero_le _
  | [p], h => by
    have := h p List.mem_cons_self
    show p.length ≤ 1 * (c + 1)
    omega
  | p :: q :: r, h => by
    have a := h p List.mem_cons_self
    have b := joinL_len (ps := q :: r) fun z hz => h z (List.mem_cons_of_mem _ hz)
    show (p ++ ([32] ++ joinL [32] (q :: r))).length ≤ ((q :: r).length + 1) * (c + 1)
    rw [List.length_append, List.length_append, Nat.succ_mul]
    show p.length + (1 + _) ≤ _
    omega
theorem text_len {ms : List Int} (h : ∀ m ∈ ms, m.natAbs < 10 ^ 30) : (textS ms).length ≤ ms.length * 32 := by
  rw [len_tl, tl_text]
  have := joinL_len (c := 31) (ps := ms.map wordL) fun p hp => by
    obtain ⟨k, hk, rfl⟩ := List.mem_map.mp hp
    have := word_len (h k hk)
    rw [len_tl, tl_word] at this
    exact this
  rw [List.length_map] at this
  exact this
end Rd

/-! ## min(xs, key=lambda x: (abs(x), 0 - x)), xs a list of ints -/
namespace Rd
open PySem PySem.Spec L2 PyProof.Rows LamX
/-- the order of the keys (abs(x), 0 - x), as one number -/
def cod (n : Int) : Int := 2 * (n.natAbs : Int) + (if n < 0 then 1 else 0)
theorem cod_lt (n m : Int) : cod n < cod m ↔ (n.natAbs : Int) < m.natAbs ∨ ((n.natAbs : Int) = m.natAbs ∧ 0 - n < 0 - m) := by
  unfold cod
  split <;> split <;> omega
theorem cod_inj {n m : Int} (h : cod n = cod m) : n = m := by
  unfold cod at h
  split at h <;> split at h <;> omega
/-- an address that no frame, no cell and no pin of the context is -/
structure Loose (X : Cx) (pins : List (Addr × Obj)) (b : Addr) : Prop where
  hi : X.s_0.heap.objs.size ≤ b
  nl : b ≠ X.env.locals
  nc : ∀ x c, X.env.cells.lookup x = some c → c ≠ b
  np : ∀ p ∈ X.pn ++ pins, p.1 ≠ b
  nf : b ∉ X.fs
  ns : b ∉ frs X.stack
section
variable {X : Cx} {pins : List (Addr × Obj)} {σ : L2.St} {H : Hp} {s : Shared}
theorem Loose.of (I : Inv X pins σ H s) {b : Addr} (h : s.heap.objs.size ≤ b) : Loose X pins b where
  hi := Nat.le_trans I.sz h
  nl := Nat.ne_of_gt (Nat.lt_of_lt_of_le I.lt h)
  nc := fun x c e z => by
    obtain ⟨v, o, ho, _⟩ := I.cell x c e
    have h1 := Heap.lt_size ho
    rw [z] at h1
    exact Nat.lt_irrefl _ (Nat.lt_of_lt_of_le h1 h)
  np := fun p hp z => by
    have h1 := Heap.lt_size (I.pin p hp).1
    rw [z] at h1
    exact Nat.lt_irrefl _ (Nat.lt_of_lt_of_le h1 h)
  nf := I.nofs h
  ns := fun z => by
    rcases List.mem_cons.mp (I.stkSub _ z) with e | e
    · have h1 := I.lt
      rw [← e] at h1
      exact Nat.lt_irrefl _ (Nat.lt_of_lt_of_le h1 h)
    · exact I.nofs h e
theorem Inv.moved {wr : List Addr} {s' : Shared} (I : Inv X pins σ H s) (hw : ∀ b ∈ wr, Loose X pins b ∧ H b = none) (m : Moved wr (fun a b => b = a) s s') : Inv X pins σ H s' := by
  have nw : ∀ b, (∃ u, H b = some u) → b ∉ wr := fun b ⟨u, e⟩ z => by
    rw [(hw b z).2] at e
    cases e
  have J : Inv X pins σ H { s with heap := s'.heap, gens := s'.gens, drawn := s'.drawn, toks := s'.toks } := by
    refine I.step (ch := wr) (fun b hb => ⟨.inr (hw b hb).1.hi, (hw b hb).1.nl, (hw b hb).1.nc, (hw b hb).1.np⟩) (fun b o _ _ nb e _ => m.heap b o nb e) (fun b o _ _ nb e _ => ⟨o.slots, m.heap b o nb e⟩) (fun b o _ _ e => e)
      (fun b o nb e => ⟨o, m.heap b o nb e⟩) (fun _ _ e => e) (fun _ _ _ e => e) (fun b ps e => ⟨#[], by rw [Array.append_empty]; exact e⟩) (fun mm hn => ?_) (fun b u e => ?_) (by rw [m.gens]; exact I.bare)
    · obtain ⟨ob, es, ep, ho, r⟩ := hn
      exact ⟨ob, es, ep, m.heap _ ob (fun z => (hw _ z).1.nl rfl) ho, r⟩
    · refine (I.hok b u e).stay (fun d v hd q => m.heap d v ?_ q) (fun d q => q) fun d xs q => q
      rcases hd with z | z
      · rw [z]
        exact nw b ⟨u, e⟩
      · exact nw d ⟨_, z⟩
  have e : s' = { s with heap := s'.heap, gens := s'.gens, drawn := s'.drawn, toks := s'.toks } := by
    have := m.os
    cases s'
    cases s
    cases this
    rfl
  rw [e]
  exact J
/-- behind a call, the state itself -/
theorem Inv.behind {s' : Shared} {Q : VK} {u : Value} (I : Inv X pins σ H s) (h : CE X.stack X.prog X.w H s Q u s') : ∃ v H', Inv X pins σ H' s' ∧ Un (frs X.stack) [] H H' s.heap s'.heap ∧ RelV v u ∧ Q v H' := by
  obtain ⟨v, H', os, bare, un, hok, r, q⟩ := h
  obtain ⟨hh, g, d, t, os'⟩ := s'
  obtain rfl : os' = s.os := os
  exact ⟨v, H', I.call (h' := hh) (g' := g) (d' := d) (t' := t) (ch := []) un hok bare (fun b z => absurd z (by simp)), un, r, q⟩
/-- a lambda of one parameter is called -/
theorem lam1_run {P : Program} {w : World} {K : PySem.W.Frag} {mg : Str → Option Value} {base : Heap} {A : Around} {outer : List Env} {H : Hp} {s : Shared} {q a : Str} {f c' : Addr} {pm ctv : Value} {params : Arguments} {body : Expr} {scope : Scope} {k : Nat} {tb : TE} {v : V} {u : Value} {Q : VK}
    (e0 : Env0 P w K mg base A outer s H) (hr : Room (k + 1) A) (S : FnScope [a] [a] scope) (hf : s.heap.get? f = some (PySem.W.kla_obj "<lambda>" q params body scope [] pm c' ctv)) (hc : H c' = some (CodeO c' q))
    (hbind : ∀ u, bindArgs (PySem.W.kla_fn "<lambda>" q params body scope [] pm (.ref c') ctv) ⟨[u], []⟩ = pure [(a, u)])
    (hbody : PE (cxOf L2.CX0 P w K mg base [a] q scope f (.ref c') A outer s H L2.E0) body tb)
    (r : RelV v u) (h : tb [some v] H Q) :
    codeAny (model P w) A (.call (.ref f) ⟨[u], []⟩) (CR L2.CX0 outer P w H s Q L2.E0) s := by
  have lim : s.heap.NoLimit := e0.mod.nolimit.keeps fun b o e => (e0.bs b o e).1
  obtain ⟨⟨oc, vs, t, hoc, hdc, hvc⟩, _, _⟩ := e0.hok c' _ hc
  refine PySem.W.kla_callFunE hr.depth hf rfl S.co S.gen rfl ⟨c', oc, vs, t, rfl, hoc, hdc, hvc⟩ ?_
  rw [hbind]
  refine wpAny_pure ?_
  have hkind : ∀ y ∈ [(a, u)], scope.names.lookup y.1 = some .local ∨ (scope.names.lookup y.1 = some .cell ∧ ((cellsFrom (s.heap.objs.size + 1) scope.names []).lookup y.1).isSome = true) := fun y hy => by
    rw [List.mem_singleton.mp hy]
    rcases S.par a (List.mem_singleton.mpr rfl) with z | z
    · exact .inl z
    · exact .inr ⟨z, PySem.W.cellsFrom_some _ _ _ (.inl z)⟩
  refine wpAny_newFunctionEnv_cells S.kind hkind fun env he s1 x => ?_
  subst he
  refine ⟨lim.keeps x.toInCall.keep, ?_⟩
  have I : Inv (cxOf L2.CX0 P w K mg base [a] q scope f (.ref c') A outer s H L2.E0) [] (L2.start [a] [v]) H s1 := inv_start (us := [u]) S hr.hd e0 rfl (.cons r .nil) x
  refine PySem.W.kla_codeExpr (wpAny_mono (hbody.run [] _ _ H Q I h) (fun v s' hq => ?_) fun e s' hq => hq)
  obtain ⟨w', H', J', rv, q⟩ := hq
  exact ⟨w', H', J'.os, J'.bare, J'.base, J'.hok, rv, q⟩
/-- a list of ints is walked; the list's object may be another at each step -/
theorem walkI {prog : Program} {w : World} {A : Around} (hh : A.handled = none) (I ax : Addr) (hne : ax ≠ I) (ns : List Int) :
    WalksS prog w A I [I, ax] [I] (fun a b => b = a) ns.length (fun i v => ∃ t, v = .int (ns.getD i 0) t) (fun i s => s.heap.IsListIter I ax i ∧ ∃ its : List Value, IntsAre its ns ∧ s.heap.IsList ax its.toArray) where
  sub := fun b hb => by simp at hb; simp [hb]
  grefl := fun _ => rfl
  gtrans := fun _ _ _ h1 h2 => h2.trans h1
  frame := fun i s h' tk st _ hk => ⟨st.1.at fun o e => hk I (by simp) o e, let ⟨its, r, e⟩ := st.2; ⟨its, r, e.at fun o e => hk ax (by simp) o e⟩⟩
  item := fun i s Q E hi st hQ => by
    obtain ⟨its, r, e⟩ := st.2
    have W := (Walks.list (prog := prog) (w := w) hh I ax hne its.toArray).toS
    have hl : its.toArray.size = ns.length := by rw [List.size_toArray]; exact r.length
    refine W.item i s Q E (by omega) ⟨st.1, e⟩ fun v s' hP hst m => ?_
    obtain ⟨t, ht⟩ := r.get i (ns.getD i 0) (by rw [List.getD_eq_getElem?_getD, List.getElem?_eq_getElem hi] <;> rfl)
    refine hQ v s' ⟨t, ?_⟩ ⟨hst.1, its, r, hst.2⟩ m
    have hP' : its[i]? = some v := by simpa using hP
    rw [ht] at hP'
    exact (Option.some.inj hP').symm
  done := fun s Q E st hQ => by
    obtain ⟨its, r, e⟩ := st.2
    have W := (Walks.list (prog := prog) (w := w) hh I ax hne its.toArray).toS
    have hl : its.toArray.size = ns.length := by rw [List.size_toArray]; exact r.length
    refine W.done s Q E ⟨?_, e⟩ hQ
    rw [hl]
    exact st.1
  self := fun i s Q E st hQ => wpAny_pyIter_listiter st.1 hQ
/-- the object of the key of n -/
def KeyOb (o : Obj) (n : Int) : Prop := ∃ t1 t2 c, o.cls = .type "tuple" ∧ o.data = .seq #[.int n.natAbs t1, .int (0 - n) t2] c
theorem keys_lt {A : Around} {s : Shared} {t u : Addr} {ot ou : Obj} {n m : Int} (hu : A.units < cLine) (h1 : s.heap.get? t = some ot) (k1 : KeyOb ot n) (h2 : s.heap.get? u = some ou) (k2 : KeyOb ou m) :
    Ob.RcOp .Lt A s (.ref t) (.ref u) (decide (cod n < cod m)) := by
  obtain ⟨t1, t2, c, hc, hd⟩ := k1
  obtain ⟨u1, u2, c', hc', hd'⟩ := k2
  have beq : ∀ a b : Int, (a == b) = decide (a = b) := fun a b => by
    by_cases q : a = b
    · rw [decide_eq_true q]; exact beq_iff_eq.mpr q
    · rw [decide_eq_false q]; exact beq_eq_false_iff_ne.mpr q
  have R := Ob.RcOp.tuples_lt (A := A) (s := s) (l := t) (b := u) (items := #[.int n.natAbs t1, .int (0 - n) t2]) (items2 := #[.int m.natAbs u1, .int (0 - m) u2])
    (e := fun j => if j = 0 then decide ((n.natAbs : Int) = m.natAbs) else decide (0 - n = 0 - m)) (r := fun j => if j = 0 then decide ((n.natAbs : Int) < m.natAbs) else decide (0 - n < 0 - m)) ⟨ot, h1, hc, c, hd⟩ ⟨ou, h2, hc', c', hd'⟩ hu
    (fun j a b => by
      have hj : j < 2 := a
      match j, hj with
      | 0, _ => rw [if_pos rfl, ← beq]; exact SeqAt.EqAt.int_int _ _ _ _
      | 1, _ => rw [if_neg (by decide), ← beq]; exact SeqAt.EqAt.int_int _ _ _ _)
    (fun j a b _ => by
      have hj : j < 2 := a
      match j, hj with
      | 0, _ => rw [if_pos rfl]; exact Ob.RcOp.lt_int _ _ _ _
      | 1, _ => rw [if_neg (by decide)]; exact Ob.RcOp.lt_int _ _ _ _)
  have e : Ob.lexAt (fun j => if j = 0 then decide ((n.natAbs : Int) = m.natAbs) else decide (0 - n = 0 - m)) (fun j => if j = 0 then decide ((n.natAbs : Int) < m.natAbs) else decide (0 - n < 0 - m)) (decide (2 < 2)) 0 2 = decide (cod n < cod m) := by
    have i := cod_lt n m
    rw [Ob.lexAt_succ, Ob.lexAt_succ, Ob.lexAt_zero]
    simp only [if_true, Nat.zero_add, Nat.succ_ne_zero, if_false, decide_eq_true_eq, Nat.one_ne_zero]
    by_cases a : (n.natAbs : Int) = m.natAbs
    · rw [if_pos a]
      by_cases b : 0 - n = 0 - m
      · rw [if_pos b]
        refine (decide_eq_decide.mpr ?_)
        rw [i]
        omega
      · rw [if_neg b]
        refine (decide_eq_decide.mpr ?_)
        rw [i]
        omega
    · rw [if_neg a]
      refine (decide_eq_decide.mpr ?_)
      rw [i]
      omega
  rw [← e]
  exact R
/-- what the loop of min keeps: the tracked heap has only grown -/
def MkJ (X : Cx) (pins : List (Addr × Obj)) (σ : L2.St) (H : Hp) (l f c' I S : Addr) (q : Str) (fo : Obj) (s : Shared) : Prop := ∃ H', Inv X pins σ H' s ∧ Same H H' ∧ H' I = none ∧ H' S = none ∧ H' f = none ∧ s.heap.get? f = some fo ∧ ∀ b o, H b = none → H' b = some o → ∃ xs, o = .tup xs
/-- f tells the key of the i-th -/
def MkV (X : Cx) (H : Hp) (ns : List Int) (I S : Addr) (i : Nat) (k : Value) (s : Shared) : Prop := ∃ t o, k = .ref t ∧ (H t = none ∧ t ∉ frs X.stack) ∧ t ≠ I ∧ t ≠ S ∧ s.heap.get? t = some o ∧ KeyOb o (ns.getD i 0)
theorem min_key {K : PySem.W.Frag} {k : Nat} {q a : Str} {l f c' : Addr} {pm ctv : Value} {params : Arguments} {body : Expr} {scope : Scope} {ns : List Int} {tb : TE} {Q : VK} (hK : X.K = K) (hcalm : X.calm = true)
    (I : Inv X pins σ H s) (hr : Room (k + 2) X.A) (hl : SqL K H l (ns.map V.int)) (hne : 0 < ns.length) (S : FnScope [a] [a] scope) (hf : s.heap.get? f = some (PySem.W.kla_obj "<lambda>" q params body scope [] pm c' ctv)) (hfn : H f = none) (hfr : f ∉ frs X.stack) (hc : H c' = some (CodeO c' q))
    (hbind : ∀ u, bindArgs (PySem.W.kla_fn "<lambda>" q params body scope [] pm (.ref c') ctv) ⟨[u], []⟩ = pure [(a, u)])
    (hbody : ∀ (A : Around) (outer : List Env) (s : Shared) (H : Hp), PE (cxOf L2.CX0 X.prog X.w X.K X.mg X.base [a] q scope f (.ref c') A outer s H L2.E0) body tb)
    (htb : ∀ (n : Int) (H : Hp) (Q : VK), (∀ t, H t = none → Q (.ref t) (upd H t (.tup [.int n.natAbs, .int (0 - n)]))) → tb [some (.int n)] H Q)
    (h : ∀ m H', m ∈ ns → (∀ y ∈ ns, cod m ≤ cod y) → Same H H' → Q (.int m) H') :
    wpAny (model X.prog X.w) X.A (call (.builtin "min") [.ref l] [(Str.ofString "key", .ref f)]) (EP X pins σ Q) X.xe s := by
  subst hK
  obtain ⟨its, r0, pl, _⟩ := I.list hl
  have hlL : l < s.heap.objs.size := by
    obtain ⟨o, e, _⟩ := pl.isList
    exact Heap.lt_size e
  have hlt : f < s.heap.objs.size := Heap.lt_size hf
  refine call_min_walkK (wpAny_pyIter_list pl.isList ?_)
  have I2 : Inv X pins σ H { s with heap := s.heap.push { cls := .type "list_iterator", data := .fields #[.ref l, .int 0 0] } } := I.kept (t' := s.toks) fun b o e => Heap.get?_push_of_some _ e
  have hsz : (s.heap.push { cls := .type "list_iterator", data := .fields #[.ref l, .int 0 0] }).objs.size = s.heap.objs.size + 1 := Heap.size_push _ _
  have lI : Loose X pins s.heap.objs.size := Loose.of I (Nat.le_refl _)
  have lS : Loose X pins (s.heap.push { cls := .type "list_iterator", data := .fields #[.ref l, .int 0 0] }).objs.size := Loose.of I2 (Nat.le_refl _)
  have nI : H s.heap.objs.size = none := I.hok.fresh (Nat.le_refl _)
  have nS : H (s.heap.push { cls := .type "list_iterator", data := .fields #[.ref l, .int 0 0] }).objs.size = none := I2.hok.fresh (Nat.le_refl _)
  have hIt : (s.heap.push { cls := .type "list_iterator", data := .fields #[.ref l, .int 0 0] }).get? s.heap.objs.size = some { cls := .type "list_iterator", data := .fields #[.ref l, .int 0 0] } := Heap.get?_push_size _ rfl
  have hf2 : (s.heap.push { cls := .type "list_iterator", data := .fields #[.ref l, .int 0 0] }).get? f = some (PySem.W.kla_obj "<lambda>" q params body scope [] pm c' ctv) := Heap.get?_push_of_some _ hf
  have hpl2 : (s.heap.push { cls := .type "list_iterator", data := .fields #[.ref l, .int 0 0] }).IsList l its.toArray := pl.isList.at fun o e => Heap.get?_push_of_some _ e
  generalize hSe : (s.heap.push { cls := .type "list_iterator", data := .fields #[.ref l, .int 0 0] }).objs.size = Sa at lS nS hsz
  have fI : f ≠ s.heap.objs.size := Nat.ne_of_lt hlt
  have fS : f ≠ Sa := by rw [hsz]; exact Nat.ne_of_lt (Nat.lt_succ_of_lt hlt)
  have SI : Sa ≠ s.heap.objs.size := by rw [hsz]; exact Nat.succ_ne_self _
  have lIne : l ≠ s.heap.objs.size := Nat.ne_of_lt hlL
  refine ⟨s.heap.objs.size, [s.heap.objs.size, l], [s.heap.objs.size], fun a b => b = a, ns.length, _, _, MkJ X pins σ H l f c' s.heap.objs.size Sa q (PySem.W.kla_obj "<lambda>" q params body scope [] pm c' ctv), MkV X H ns s.heap.objs.size Sa, fun i j => decide (cod (ns.getD i 0) < cod (ns.getD j 0)), rfl,
    walkI (A := X.A.in1) (I.ok.hd hcalm) s.heap.objs.size l lIne ns, ⟨⟨_, hIt, rfl, rfl⟩, its, Vals.ints r0, hpl2⟩, fun b hb => ?_, hne, ?_, ⟨H, I2, Same.refl _, nI, nS, hfn, hf2, fun b o e1 e2 => by rw [e1] at e2; cases e2⟩, fun v s' hP hJ => ?_⟩
  · show b < Sa
    rw [hsz]
    rcases List.mem_cons.mp hb with e | hb
    · rw [e]
      exact Nat.lt_succ_self _
    · rw [List.mem_singleton.mp hb]
      exact Nat.lt_succ_of_lt hlL
  · refine ⟨fun s1 s2 hJ m => ?_, fun i kx s1 s2 hV m => ?_, fun i v s1 o Q1 E1 hi hP hJ hst hS hQ => ?_, fun i j ki kj s1 Q1 E1 hJ hi hj hQ => ?_⟩
    · obtain ⟨H', I', sm, n1, n2, n3, e, tp⟩ := hJ
      refine ⟨H', Inv.moved I' (fun b hb => ?_) m, sm, n1, n2, n3, m.heap f _ (fun z => ?_) e, tp⟩
      · rcases List.mem_cons.mp hb with e | hb
        · rw [e]
          exact ⟨lS, n2⟩
        · rw [List.mem_singleton.mp hb]
          exact ⟨lI, n1⟩
      · rcases List.mem_cons.mp z with z | z
        · exact fS z
        · exact fI (List.mem_singleton.mp z)
    · obtain ⟨t, o, e, n0, n1, n2, ht, ko⟩ := hV
      refine ⟨t, o, e, n0, n1, n2, m.heap t o (fun z => ?_) ht, ko⟩
      rcases List.mem_cons.mp z with z | z
      · exact n2 z
      · exact n1 (List.mem_singleton.mp z)
    · obtain ⟨H', I', sm, n1, n2, n3, e, tp⟩ := hJ
      obtain ⟨tt, ev⟩ := hP
      have ev : v = .int (ns.getD i 0) tt := ev
      subst ev
      have hx := lam1_run (tb := tb) (v := .int (ns.getD i 0)) (u := .int (ns.getD i 0) tt) (Q := fun v H'' => ∃ t, v = .ref t ∧ H' t = none ∧ H'' t = some (.tup [.int (ns.getD i 0).natAbs, .int (0 - ns.getD i 0)]) ∧ Same H' H'' ∧ ∀ b o, H' b = none → H'' b = some o → ∃ xs, o = .tup xs)
        I'.env0.in1 (show Room (k + 1) X.A.in1 from hr.in1) S e (sm _ _ hc) hbind (hbody _ _ _ _) ⟨tt, rfl⟩ (htb _ _ _ fun t nt => ⟨t, rfl, nt, upd_same, same_new nt, fun b o e1 e2 => by
          by_cases z : b = t
          · rw [z, upd_same] at e2
            exact ⟨_, (Option.some.inj e2).symm⟩
          · rw [upd_ne z, e1] at e2
            cases e2⟩)
      refine wpAny_call (codeAny_mono hx fun r s2 hq => ?_)
      cases r with
      | error e => exact (show False from hq).elim
      | ok fl =>
        cases fl with
        | next => exact False.elim hq
        | brk => exact False.elim hq
        | cont => exact False.elim hq
        | ret u =>
          obtain ⟨v2, H2, I2', un, rv, t, rfl, nt, ht, sm2, tp2⟩ := Inv.behind I' hq
          obtain rfl : u = Value.ref t := rv
          obtain ⟨ob, hot, hct, ⟨c2, hdt⟩⟩ : ∃ ob, s2.heap.get? t = some ob ∧ ob.cls = .type "tuple" ∧ ∃ c, ∃ t1 t2, ob.data = .seq #[.int (ns.getD i 0).natAbs t1, .int (0 - ns.getD i 0) t2] c := by
            obtain ⟨its2, rv2, ⟨ob, h1, h2, c, h3⟩, _⟩ := I2'.tuple (xs := [.int (ns.getD i 0).natAbs, .int (0 - ns.getD i 0)]) (SqT.of ht)
            cases rv2 with
            | cons ra rr =>
              cases rr with
              | cons rb rr =>
                cases rr
                obtain ⟨t1, rfl⟩ := ra
                obtain ⟨t2, rfl⟩ := rb
                exact ⟨ob, h1, h2, c, t1, t2, h3⟩
          obtain ⟨t1, t2, hdt⟩ := hdt
          have keepI : ∀ {b ob}, s1.heap.get? b = some ob → H' b = none → b ∉ frs X.stack → s2.heap.get? b = some ob := fun e1 e2 e3 => un.keep _ _ e1 e2 e3 (by simp)
          obtain ⟨⟨oI, eI, cI, dI⟩, _⟩ := hst
          obtain ⟨its2, rv2, pl2, _⟩ := I2'.list ((sm.trans sm2).seq hl)
          have nI2 : H2 s.heap.objs.size = none := un.free _ _ eI n1 (by simp)
          have nS2 : H2 Sa = none := un.free _ _ hS n2 (by simp)
          refine hQ _ _ ⟨H2, I2', sm.trans sm2, nI2, nS2, un.free _ _ e n3 (by simp), keepI e n3 hfr, fun b o e1 e2 => ?_⟩ ⟨⟨oI, keepI eI n1 lI.ns, cI, dI⟩, its2, Vals.ints rv2, pl2.isList⟩ (keepI hS n2 lS.ns) ⟨t, ob, rfl, ⟨Same.free sm nt, fun z => ?_⟩, fun z => ?_, fun z => ?_, hot, t1, t2, c2, hct, hdt⟩ fun j kj hV => ?_
          · cases q : H' b with
            | none => exact tp2 b o q e2
            | some o' =>
              have e3 := sm2 _ _ q
              rw [e2] at e3
              cases e3
              exact tp b o e1 q
          · have e3 := I2'.stkFree t z
            rw [e3] at ht
            cases ht
          · rw [z, nI2] at ht
            cases ht
          · rw [z, nS2] at ht
            cases ht
          · obtain ⟨tj, oj, ej, ⟨m0, m00⟩, m1, m2, htj, kj⟩ := hV
            cases q : H' tj with
            | none => exact ⟨tj, oj, ej, ⟨m0, m00⟩, m1, m2, keepI htj q m00, kj⟩
            | some o' =>
              obtain ⟨xs, rfl⟩ := tp tj o' m0 q
              obtain ⟨its1, ra1, ⟨ob1, g1, g2, g3, g4⟩, _⟩ := I'.tuple (SqT.of q)
              rw [htj] at g1
              cases g1
              obtain ⟨u1, u2, c3, k1, k2⟩ := kj
              rw [k2] at g4
              obtain ⟨its3, ra3, ⟨ob3, f1, f2, f3, f4⟩, _⟩ := I2'.tuple (SqT.of (un.tups _ _ q))
              have ei : its1 = [.int (ns.getD j 0).natAbs u1, .int (0 - ns.getD j 0) u2] := by
                have z := congrArg (fun d => match d with | Data.seq a _ => a.toList | _ => []) g4
                simpa using z.symm
              subst ei
              cases ra1 with
              | cons ra rr =>
                cases rr with
                | cons rb rr =>
                  cases rr
                  obtain rfl := ra.inj (y := .int (ns.getD j 0).natAbs) ⟨u1, rfl⟩
                  obtain rfl := rb.inj (y := .int (0 - ns.getD j 0)) ⟨u2, rfl⟩
                  cases ra3 with
                  | cons rc rr =>
                    cases rr with
                    | cons rd rr =>
                      cases rr
                      obtain ⟨w1, rfl⟩ := rc
                      obtain ⟨w2, rfl⟩ := rd
                      exact ⟨tj, ob3, ej, ⟨m0, m00⟩, m1, m2, f1, w1, w2, f3, f2, f4⟩
    · obtain ⟨t, o, rfl, _, _, _, ht, ko⟩ := hi
      obtain ⟨u, o2, rfl, _, _, _, hu, ko2⟩ := hj
      exact keys_lt (A := X.A.in1) (hr.in1.units0) ht ko hu ko2 _ _ _ _ hQ
  · obtain ⟨H', I', sm, _⟩ := hJ
    obtain ⟨b1, b2⟩ := argBest_lt (fun i => cod (ns.getD i 0)) (ns.length - 1)
    obtain ⟨t, ht⟩ := hP
    have ht : v = .int (ns.getD (argBest (fun i j => decide (cod (ns.getD i 0) < cod (ns.getD j 0))) (ns.length - 1)) 0) t := ht
    rw [ht]
    refine ⟨.int _, H', I', ⟨t, rfl⟩, h _ _ ?_ (fun y hy => ?_) sm⟩
    · have hb : argBest (fun i j => decide (cod (ns.getD i 0) < cod (ns.getD j 0))) (ns.length - 1) < ns.length := by omega
      rw [List.getD_eq_getElem?_getD, List.getElem?_eq_getElem hb]
      exact List.getElem_mem hb
    · obtain ⟨i, hi, e⟩ := List.mem_iff_getElem.mp hy
      have e2 : ns.getD i 0 = y := by rw [List.getD_eq_getElem?_getD, List.getElem?_eq_getElem hi, ← e] <;> rfl
      rw [← e2]
      exact b2 i (by omega)
end
theorem ExtN.sq {K : PySem.W.Frag} {H H' : Hp} {a : Addr} {xs : List V} (e : ExtN H H') (h : SqL K H a xs) : SqL K H' a xs := by
  rcases h with (h | ⟨o, h⟩) | h
  · exact .inl (.inl (e _ _ h fun ps z => nomatch z))
  · exact .inl (.inr ⟨o, e _ _ h fun ps z => nomatch z⟩)
  · exact .inr h
def rMinKey (K : PySem.W.Frag) (T : List (Addr × Str)) (vs : List V) (H1 : Hp) (Q : VK) : Prop := ∃ (l : Addr) (ns : List Int), vs = [.ref l] ∧ SqL K H1 l (ns.map V.int) ∧ 0 < ns.length ∧ Tabs T H1 ∧
  ∀ m H', m ∈ ns → (∀ y ∈ ns, cod m ≤ cod y) → ExtN H1 H' → Tabs T H' → Q (.int m) H'
def tMinKey (K : PySem.W.Frag) (T : List (Addr × Str)) (te : TE) : TE := fun σ H Q => tCons te tNil σ H fun vs H1 => rMinKey K T vs H1 Q
theorem r_minKey {K : PySem.W.Frag} {T : List (Addr × Str)} {te : TE} {σ : L2.St} {H : Hp} {Q : VK} (k : te σ H fun x H1 => rMinKey K T [x] H1 Q) : tMinKey K T te σ H Q := k
theorem pe_minKey {X : Cx} {K : PySem.W.Frag} {T : List (Addr × Str)} {te tb : TE} {e body : Expr} {params : Arguments} {scope : Scope} {a : Str} {k : Nat} {c P : Addr} {p pos lpos kpos : Pos} (hK : X.K = K) (hg : Gl X "min") (hm : X.mg "min" = none) (he : PE X e te)
    (TB : TabB X.base X.mg c P) (hcode : X.env.code = .ref c) (hmT : (P, X.env.qual ++ "<lambda>") ∈ T) (hu : ∀ p ∈ T, p.1 = P → p.2 = X.env.qual ++ "<lambda>") (hr : Room (k + 2) X.A) (S : FnScope [a] [a] scope) (hclo : cloFrom X.env.cells scope.names [] = [])
    (hdef : defaultsOf params X.env = ([], [])) (hbind : ∀ (q : Str) (pm cv ctv u : Value), bindArgs (PySem.W.kla_fn "<lambda>" q params body scope [] pm cv ctv) ⟨[u], []⟩ = pure [(a, u)])
    (hbody : ∀ (f : Addr) (cd : Value) (A : Around) (outer : List Env) (s : Shared) (H : Hp), PE (cxOf L2.CX0 X.prog X.w X.K X.mg X.base [a] (X.env.qual ++ "<lambda>") scope f cd A outer s H L2.E0) body tb)
    (htb : ∀ (n : Int) (H : Hp) (Q : VK), (∀ t, H t = none → Q (.ref t) (upd H t (.tup [.int n.natAbs, .int (0 - n)]))) → tb [some (.int n)] H Q)
    (hcalm : X.calm = true := by rfl) (na : starEach [e] X.env = (false, eval e X.env) :: starEach [] X.env := by rfl)
    (hs : backTo pos (starEach [e] X.env) = (false, eval e X.env) :: backTo pos (starEach [] X.env) := by rfl) (hpl : (backTo pos (starEach [e] X.env)).any (·.1) = false := by rfl) :
    PE X (.Call (.Name "min" p) [e] [⟨some "key", .Lambda params body scope lpos, kpos⟩] pos) (tMinKey K T te) := by
  subst hK
  refine ⟨fun pins s σ H Q I h => ?_⟩
  have hfree : ∀ y ∈ scope.names, y.2 = .free → ∃ c, X.env.cells.lookup y.1 = some c := fun y hy z => absurd z (S.nofree y hy)
  refine wpAny_Call_Name_kw (ld_blt (u := .builtin "min") I hg hm (by decide +kernel) ?_)
  refine PyProof.Rows.callWith_kw (thn ((pa_cons he pa_nil na).run pos pins s σ H _ I h) fun us s1 ⟨vs, H1, I1, r1, q1⟩ => ?_) hs hpl (by rfl) (by rfl)
  obtain ⟨l, ns, rfl, hl, hne, hT, q1⟩ := q1
  rw [Vals.ref1 r1]
  show wpAny _ _ (evalAll [(do let v ← eval (.Lambda params body scope lpos) X.env; standAt pos; pure v)]) _ _ s1
  refine wpAny_evalAll_cons (wpAny_bind (lam_make2 I1 TB hcode hmT hu hT hdef hfree fun f c' pm ctv H2 s2 I2 eN T2 hf hfn hfr hco => wpAny_bind (wpAny_standAt (wpAny_pure (wpAny_evalAll_nil ?_)))))
  rw [hclo] at hf
  show wpAny _ _ (call (.builtin "min") [.ref l] [(Str.ofString "key", .ref f)]) _ _ s2
  exact min_key rfl hcalm I2 hr (ExtN.sq eN hl) hne S hf hfn hfr hco (fun u => hbind _ _ _ _ u) (fun A outer s H => hbody f (.ref c') A outer s H) htb fun m H' m1 m2 sm => q1 m H' m1 m2 (eN.trans (ExtN.of sm)) (T2.ext sm)
end Rd

/-! ## defs with a table of code objects, and the end of a law with such tables -/
namespace Rd
open PySem PySem.Spec L2 PyProof.Rows LamX
/-- the def st stands at the name x; c is its code object, P that one's table -/
structure FunTab (K : PySem.W.Frag) (mg : Str → Option Value) (x : Str) (st : Stmt) (c P : Addr) : Prop where
  ex : ∃ (f : Addr) (oc : Value) (od an : Option Addr) (kV doc pm ct : Value) (osl : Array (Option Value)),
    K.lookup f = some ⟨oc, od, .func (PySem.W.fnOf x x (defArgs st) (defBody st) (defScope st) .none kV doc pm an (.ref c) ct), osl⟩ ∧ PySem.W.codeIn K (.ref c) x = true ∧ PySem.W.keepIn K (.ref f) = true ∧ mg x = some (.ref f)
section
variable {P : Program} {w : World} {K : PySem.W.Frag} {mg : Str → Option Value} {base : Heap}
theorem FunTab.ok {x : Str} {st : Stmt} {N ps : List Str} {k : Nat} {sp : Sp} {c Pt : Addr} (F : FunTab K mg x st c Pt) (S : FnScope N ps (defScope st)) (bo : BindOk x st ps) (len : ∀ vs H Q E, sp vs H Q E → vs.length = ps.length)
    (hbody : ∀ (f : Addr) (A : Around) (outer : List Env) (s : Shared) (H : Hp) (vs : List V) (Q : VK) (E : XK), Room k (A.deeper (envOfC x (defScope st) s.heap.objs.size f (.ref c))) → sp vs H Q E →
      ∃ t, PSs (cxOf L2.CX0 P w K mg base N x (defScope st) f (.ref c) A outer s H E).nox (defBody st) t ∧ t { nx := fun _ H' => Q .non H', rt := Q } (L2.start N vs) H) : Has P w K mg base L2.CX0 (k + 1) x sp := by
  obtain ⟨f, oc, od, an, kV, doc, pm, ct, osl, lk, hcd, kp, hm⟩ := F.ex
  refine ⟨f, _, ps, fn_of lk hcd S len fun A outer s H vs Q E hr hsp => ?_, hm, kp, Binds.all (bo kV doc pm an (.ref c) ct)⟩
  obtain ⟨t, h, q⟩ := hbody f A outer s H vs Q E hr hsp
  exact ⟨t, h.nox, q⟩
theorem tab_code {K : PySem.W.Frag} {x : Str} {f c Pt : Addr} {oc : Value} {od : Option Addr} {fd : FuncData} {osl : Array (Option Value)} (a : PySem.W.nsIn K mainGlobals x = some (some (.ref f))) (l : K.lookup f = some ⟨oc, od, .func fd, osl⟩) (t : PySem.W.tabIn K x = some (c, Pt)) : fd.code = .ref c := by
  unfold PySem.W.tabIn at t
  rw [a] at t
  dsimp only at t
  rw [l] at t
  dsimp only at t
  split at t
  · rename_i c' hc
    split at t
    · split at t
      · have z := Option.some.inj t
        have z1 : c' = c := congrArg Prod.fst z
        rw [hc, z1]
      · cases t
    · cases t
  · cases t
theorem FunTab.mk' {x : Str} {st : Stmt} {h : Heap} {c Pt : Addr} (X : K.In h) (G : h.Ns mainGlobals mg) {f : Addr} {oc : Value} {od an : Option Addr} {osl : Array (Option Value)} {kV doc pm cdv ct : Value}
    (a : PySem.W.nsIn K mainGlobals x = some (some (.ref f)))
    (l : K.lookup f = some ⟨oc, od, .func (PySem.W.fnOf x x (defArgs st) (defBody st) (defScope st) .none kV doc pm an cdv ct), osl⟩)
    (cc : PySem.W.codeIn K cdv x = true) (k : PySem.W.keepIn K (.ref f) = true) (t : PySem.W.tabIn K x = some (c, Pt)) : FunTab K mg x st c Pt := by
  have e : cdv = .ref c := tab_code a l t
  subst e
  exact ⟨f, oc, od, an, kV, doc, pm, ct, osl, l, cc, k, PySem.W.mg_of X G a⟩
end
/-- what the end knows of the tables of the defs named xs -/
def TabsAt (q : Program) (K : PySem.W.Frag) (h : Heap) : Prop := ∀ (x : Str) (c P : Addr), ((recsOf q).any fun e => e.name == x) = true → PySem.W.tabIn K x = some (c, P) → PySem.W.CodeHd h c P ∧ h.get? P = some { cls := .none, data := .fields #[] }
theorem walk_tabs {l : PySem.W.OpenLaw} {n k : Nat} {q : Program} {loose : List Str} {XP : (Str → Option Value) → Heap → Prop} {YP : World → Heap → Prop} {d : DefRec} {K : Params → PySem.W.Frag} {CX : World → CXT} {x : Str}
    (hn : l.most = some n) (hn2 : n ≤ sizeLine) (hdf : d.params.defaults = []) (hr : Room k callerA) (hY : ∀ (w : World) (h : Heap), YP w h → (K w.params).In h)
    (F : ∀ (w : World) (mg : Str → Option Value) (fa : Addr) (h : Heap), YP w h → (K w.params).In h → h.Ns mainGlobals mg → mg d.name = some (.ref fa) → TabsAt q (K w.params) h → LawAtS l w (K w.params) (CX w) k n x mg fa h)
    (hCX : ∀ (w : World) (H : Hp) (s : Shared) (e : Value) (s' : Shared), CX w [] H s (fun _ _ _ => False) e s' → False) :
    PySem.W.WalkO q loose XP YP l.row.toRowW d [] (fun f vs => PySem.call f vs) := by
  refine Att.attach_callB hn hdf fun w s₀ s₁ mg mb fa o pm cd doc a vs ns G Y ho hd hcd hmg hobj hints hlen hbits hg => ?_
  have KX := hY w _ Y
  have tabs : TabsAt q (K w.params) s₁.heap := fun x c P hrec ht => by
    have hs : ((recsOf q).find? fun e => e.name == x).isSome = true := by rw [List.find?_isSome]; simpa using hrec
    obtain ⟨d', hd'⟩ := Option.isSome_iff_exists.mp hs
    exact PySem.W.tab_of G.T KX hd' ht
  obtain ⟨fd, cs, sp, hT, nT, C, hb, hsp, hF⟩ := F w mg fa _ Y KX G.T.g hmg tabs
  exact law_callTs KX G.T.g G.T.b G.T.builtins G.T.nolimit hg hT nT C G.T.bmain hobj hints (Nat.le_trans hlen hn2) hr hF hb (fun H hH hS => hsp H a ns hlen hbits hH hS) fun H e s' => hCX w H s₁ e s'
/-- the script's list and the tables at the law's start -/
def spLawT (K : PySem.W.Frag) (T : List (Addr × Str)) : Sp := fun vs H Q _ => ∃ (a : Addr) (ns : List Int), vs = [.ref a] ∧ SqL K H a (ns.map V.int) ∧ ns.length ≤ 63 ∧ Tabs T H ∧ ∀ H', Q (.bl true) H'
theorem Tabs.fr {T : List (Addr × Str)} {H H' : Hp} (t : Tabs T H) (R : Fr H H') : Tabs T H' := fun p hp => by
  obtain ⟨ps, h1, h2, h3⟩ := t p hp
  refine ⟨ps, R _ _ h1 (fun _ _ _ _ h => nomatch h), h2, fun pos cv hc => ?_⟩
  obtain ⟨c, e1, e2⟩ := h3 pos cv hc
  exact ⟨c, e1, R _ _ e2 (fun _ _ _ _ h => nomatch h)⟩
theorem ExtN.at_tup {H H' : Hp} {g : Addr} {xs : List V} (e : ExtN H H') (h : H g = some (.tup xs)) : H' g = some (.tup xs) := e _ _ h fun ps z => nomatch z
theorem ExtN.at_lst {H H' : Hp} {g : Addr} {xs : List V} (e : ExtN H H') (h : H g = some (.lst xs)) : H' g = some (.lst xs) := e _ _ h fun ps z => nomatch z
theorem ExtN.st {H H' : Hp} {st a : Addr} (e : ExtN H H') (s : St H st a) : St H' st a := by
  obtain ⟨i, m, r, h, q⟩ := s
  exact ⟨i, m, r, ExtN.at_lst e h, q⟩
/-- all stays but the place of the draws and the tables -/
def FrN (H H' : Hp) : Prop := ∀ b o, H b = some o → NotSt o → (∀ ps, o ≠ .tbl ps) → H' b = some o
theorem FrN.refl (H : Hp) : FrN H H := fun _ _ e _ _ => e
theorem FrN.trans {H H1 H2 : Hp} (a : FrN H H1) (b : FrN H1 H2) : FrN H H2 := fun c o e n t => b c o (a c o e n t) n t
theorem FrN.of {H H' : Hp} (a : Fr H H') : FrN H H' := fun c o e n _ => a c o e n
theorem FrN.ext {H H' : Hp} (a : ExtN H H') : FrN H H' := fun c o e _ t => a c o e t
theorem FrN.sm {H H' : Hp} (a : Same H H') : FrN H H' := fun c o e _ _ => a c o e
theorem FrN.tup {H H' : Hp} (a : FrN H H') {b : Addr} {xs : List V} (e : H b = some (.tup xs)) : H' b = some (.tup xs) := a _ _ e nst_tup fun _ z => nomatch z
theorem FrN.ints {H H' : Hp} (a : FrN H H') {b : Addr} {ns : List Int} (e : H b = some (.lst (ns.map V.int))) : H' b = some (.lst (ns.map V.int)) := a _ _ e nst_ints fun _ z => nomatch z
theorem FrN.sq {K : PySem.W.Frag} {H H' : Hp} (R : FrN H H') {a : Addr} {ns : List Int} (h : SqL K H a (ns.map V.int)) : SqL K H' a (ns.map V.int) := by
  rcases h with (h | ⟨o, h⟩) | h
  · exact .inl (.inl (R.ints h))
  · exact .inl (.inr ⟨o, R _ _ h nst_frz fun _ z => nomatch z⟩)
  · exact .inr h
end Rd

/-! ## dicts whose keys are tuples; while -/
namespace Rd
open PySem PySem.Spec L2 PyProof.Rows
theorem nst_dT {kvs : List (List Key × V)} : NotSt (.dT kvs) := fun _ _ _ _ h => nomatch h
section
variable {κ : Type} [DecidableEq κ]
theorem put_len (c : List (κ × V)) (k : κ) (x : V) : (putK c k x).length ≤ c.length + 1 := by
  unfold putK
  by_cases e : (c.any fun kv => decide (kv.1 = k)) = true
  · rw [if_pos e, List.length_map]
    omega
  · rw [if_neg e, List.length_append]
    simp
theorem put_mem {c : List (κ × V)} {k j : κ} {x : V} : j ∈ (putK c k x).map (·.1) ↔ j = k ∨ j ∈ c.map (·.1) := by
  have h : ∀ (l : List (κ × V)) (i : κ), i ∈ l.map (·.1) ↔ (valV l i).isSome = true := fun l i => by
    cases e : valV l i with
    | none => exact ⟨fun m => absurd m (valV_not e), fun q => (nomatch q)⟩
    | some v => exact ⟨fun _ => rfl, fun _ => valV_in e⟩
  rw [h, h, valV_put]
  by_cases c : j = k
  · rw [if_pos c]
    exact ⟨fun _ => .inl c, fun _ => rfl⟩
  · rw [if_neg c]
    exact ⟨fun q => .inr q, fun q => q.resolve_left c⟩
theorem val_mem {c : List (κ × V)} {k : κ} : (valV c k).isSome = true ↔ k ∈ c.map (·.1) := by
  cases e : valV c k with
  | none => exact ⟨fun q => (nomatch q), fun m => absurd m (valV_not e)⟩
  | some v => exact ⟨fun _ => valV_in e, fun _ => rfl⟩
end
section
variable {K : PySem.W.Frag} {σ : L2.St} {H : Hp} {Q : VK} {nn bb cc : L2.St → Hp → Prop} {rr : VK}
theorem r_dnewT (k : ∀ p, H p = none → Q (.ref p) (upd H p (.dT []))) : tDNewT σ H Q := k
theorem r_dnotin {ty td : TE} (k : ty σ H fun y H1 => td σ H1 fun x H2 => ∃ a o, x = .ref a ∧ DGet H2 a y o ∧ Q (.bl (!o.isSome)) H2) : tDNotIn ty td σ H Q := k
theorem r_dput {td ty tv : TE} (k : tv σ H fun v H1 => td σ H1 fun x H2 => ty σ H2 fun y H3 => ∃ a H4, x = .ref a ∧ DPut H3 a y v H4 ∧ nn σ H4) : sDPut td ty tv ⟨nn, rr, bb, cc⟩ σ H := k
theorem r_putA {a b : Addr} {kvs : List (List Key × V)} {k : List Key} {v : V} {R : Hp → Prop} (h : H a = some (.dT kvs)) (hb : H b = some (.tup (k.map kV))) (hl : kvs.length < sizeLine)
    (q : ∀ H', H' a = some (.dT (putK kvs k v)) → (∀ b o, b ≠ a → H b = some o → H' b = some o) → R H') : ∃ a' H4, V.ref a = .ref a' ∧ DPut H a' (.ref b) v H4 ∧ R H4 :=
  ⟨a, _, rfl, DPut.t h hb hl, q _ upd_same fun _ _ n e => at_wr n e⟩
theorem r_iTup {tl : TE} {R : It → Hp → Prop} (k : tl σ H fun x H1 => ∃ a, x = .ref a ∧ (∃ xs, SqT K H1 a xs) ∧ R (Itt K a) H1) : iTup K tl σ H R := k
def rListDT : List V → Hp → VK → Prop := fun xs H Q => ∃ d kvs, xs = [V.ref d] ∧ L2.Rd H d (.dT kvs) ∧ ∀ p bs, H p = none → IsKeys H kvs bs → Q (.ref p) (upd H p (.lst (bs.map V.ref)))
theorem kc_listDT {X : Cx} (hc : X.calm = true) : CallR X (.type "list") rListDT := call_list_dT hc
theorem r_listDT {d : Addr} {kvs : List (List Key × V)} (h : H d = some (.dT kvs)) (k : ∀ p bs, H p = none → IsKeys H kvs bs → Q (.ref p) (upd H p (.lst (bs.map V.ref)))) : rListDT [.ref d] H Q := ⟨d, kvs, rfl, .inl h, k⟩
theorem r_while {c : TT} {tb : TS} (W : Nat → L2.St → Hp → Prop) (m0 : Nat) (h0 : W m0 σ H)
    (hs : ∀ m σ H, W m σ H → c σ H fun b H1 => if b = true then ∃ N : L2.St → Hp → Prop, (∀ σ' H', N σ' H' → ∃ m', m' < m ∧ W m' σ' H') ∧ tb ⟨N, rr, nn, N⟩ σ H1 else nn σ H1) : tWhile c tb ⟨nn, rr, bb, cc⟩ σ H := ⟨W, ⟨m0, h0⟩, hs⟩
theorem kc_sorted {X : Cx} (h : X.K = K) : CallR X (.builtin "sorted") (rSorted K) := by subst h; exact cr_sorted
theorem r_sorted {a : Addr} {ns : List Int} (h : SqL K H a (ns.map V.int)) (hl : ns.length < 64) (k : ∀ (ns' : List Int) (p : Addr), ns'.Perm ns → ns'.Pairwise (· ≤ ·) → H p = none → Q (.ref p) (upd H p (.lst (ns'.map V.int)))) : rSorted K [.ref a] H Q := ⟨a, ns, rfl, h, hl, k⟩
/-- t + u, two tuples that aren't empty -/
theorem r_addT {a b : Addr} {xs ys : List V} (h1 : H a = some (.tup xs)) (h2 : H b = some (.tup ys)) (n1 : xs ≠ []) (n2 : ys ≠ []) (hl : xs.length + ys.length ≤ sizeLine) (k : ∀ p, H p = none → Q (.ref p) (upd H p (.tup (xs ++ ys)))) : rAddA K (.ref a) (.ref b) H Q :=
  .inr (.inr (.inr ⟨a, b, xs, ys, rfl, rfl, SqT.of h1, SqT.of h2, hl, fun e => absurd e n1, fun _ e => absurd e n2, fun _ _ => k⟩))
end
end Rd

/-! ## set(xs) of ints, xs a list or a tuple; sorted of it -/
namespace Rd
open PySem PySem.Spec L2 PyProof.Rows
/-- an empty set, as it is made -/
abbrev mtSet (w : World) : Obj := ⟨.type "set", none, .set #[] 0 (.fresh 0 0 (!w.params.followText "set-order")), #[]⟩
section
variable {P : Program} {w : World} {A : Around} {E : Value → Shared → Prop} {s : Shared}
set_option maxRecDepth 100000 in
set_option maxHeartbeats 3200000 in
theorem setL_raw {l : Addr} {its : Array Value} (ns : List Int) {Q : Value → Shared → Prop} (hh : A.handled = none) (pl : s.heap.IsList l its) (iv : IntsAre its.toList ns) (few : ns.length + 1 < scanBound)
    (q : ∀ (h2 : Heap) (tk c : Nat), SetR w h2 s.heap.objs.size (fun j => decide (j ∈ ns)) c → c ≤ ns.length → (∀ b o, s.heap.get? b = some o → h2.get? b = some o) → Q (.ref s.heap.objs.size) { s with heap := h2, toks := tk }) :
    wpAny (model P w) A (call (.type "set") [.ref l]) Q E s := by
  have many : its.size = ns.length := by have z := iv.length; rwa [Array.length_toList] at z
  obtain ⟨cc, tl, hmro⟩ := F.called_set.mro
  have g1 := F.called_set.made
  have g2 := F.called_set.sub
  refine wpAny_call (codeAny_of_tree ?_)
  show wpAny _ _ (callAny (.type "set") _) _ _ _
  refine wpAny_pure ⟨Code.quiet_builtin _ (by decide +kernel), codeAny_builtin F.entry_type_call ?_⟩
  rw [Around.under_plain (weight_type_call_type "set" [.ref l] []) rfl]
  have g3 := F.called_set.notType
  have g4 := F.called_set.canCreate
  have g5 := F.typeCall_set_1 (.ref l)
  repeat (any_goals (first | assumption | wp_step))
  refine codeAny_mono (code_set_led1 (.ref l) (E := E) (Q₁ := fun ob s₁ => ob = .ref s.heap.objs.size ∧ s₁ = { s with heap := s.heap.push (mtSet w) }) ⟨rfl, rfl⟩) fun r s₁ hr => ?_
  cases r with
  | error e => exact hr
  | ok fl =>
    cases fl with
    | ret ob =>
      obtain ⟨rfl, rfl⟩ := hr
      have at0 : (s.heap.push (mtSet w)).get? s.heap.objs.size = some (mtSet w) := Heap.get?_push_size _ rfl
      have ty0 : Shared.TypeIs { s with heap := s.heap.push (mtSet w) } (.ref s.heap.objs.size) "set" := ⟨_, at0, rfl⟩
      have g6 := F.called_set.init.lookup
      have g7 := F.called_set.init.bind (.ref s.heap.objs.size)
      repeat (any_goals (first | assumption | wp_step))
      refine codeAny_mono (codeAny_call_builtin (R := wants (fun r s₂ => r = .none ∧ ∃ h2 tk c, s₂ = { s with heap := h2, toks := tk } ∧ SetR w h2 s.heap.objs.size (fun j => decide (j ∈ ns)) c ∧ c ≤ ns.length ∧
          (∀ b o, s.heap.get? b = some o → h2.get? b = some o)) E) F.called_set.init.plain F.entry_set_init (check_set_init_1 ty0 ?_)) fun r₂ s₂ hr₂ => ?_
      · obtain ⟨ol, hol, hcl, nl, hdl⟩ := pl
        obtain ⟨ocls, odict, odata, oslots⟩ := ol
        simp only at hcl hdl
        subst hcl; subst hdl
        have pl1 : (s.heap.push (mtSet w)).IsList l its := ⟨_, Heap.get?_push_of_some _ hol, rfl, nl, rfl⟩
        have hol1 : (s.heap.push (mtSet w)).get? l = some ⟨.type "list", odict, .seq its nl, oslots⟩ := Heap.get?_push_of_some _ hol
        have k1 := F.sub_list_set
        have k2 := F.sub_list_frozenset
        have k3 : (Value.type "list" == Value.type "dict") = false := by decide
        unfold Builtin.«set.__init__» noKeywords Builtin.Frozenset.updateFrom
        generalize hPI : pyIter = PI
        wp_walk
        subst hPI
        refine wpAny_pyIter_list pl1 (wpAny_bind (wpAny_runValue ?_))
        have lt : l < s.heap.objs.size := Heap.lt_size hol
        have hh3 : A.in1.in1.in1.handled = none := by simp [hh]
        have sz : (s.heap.push (mtSet w)).objs.size = s.heap.objs.size + 1 := Heap.size_push ..
        have ne1 : l ≠ (s.heap.push (mtSet w)).objs.size := by
          rw [sz]
          exact Nat.ne_of_lt (Nat.lt_succ_of_lt lt)
        have out : s.heap.objs.size ∉ [(s.heap.push (mtSet w)).objs.size, l] := by
          rw [sz]
          simp only [List.mem_cons, List.not_mem_nil, or_false, not_or]
          exact ⟨Nat.ne_of_lt (Nat.lt_succ_self _), Nat.ne_of_gt lt⟩
        refine set_update_ints ((Walks.list hh3 _ l ne1 its).toS) s.heap.objs.size out ns many few (fun i v hv => ?_) (its.size - 0) 0 _ (by omega) (Nat.zero_le _)
          ⟨⟨_, Heap.get?_push_size _ rfl, rfl, rfl⟩, (pl1.push _)⟩ ⟨0, Nat.le_refl 0, setR_new_at (Heap.get?_push_of_some _ at0)⟩ fun s3 c3 mv le3 S3 => ?_
        · have hi : i < ns.length := by rw [← many]; exact (Array.getElem?_eq_some_iff.mp hv).1
          obtain ⟨t, e⟩ := iv.int_at i v (by rw [Array.getElem?_toList]; exact hv)
          exact ⟨ns[i], t, List.getElem?_eq_getElem hi, by rw [e, List.getD_eq_getElem?_getD, List.getElem?_eq_getElem hi] <;> rfl⟩
        · obtain ⟨h3, gg, dd, tt, oo⟩ := s3
          obtain rfl : gg = s.gens := mv.gens
          obtain rfl : dd = s.drawn := mv.drawn
          obtain rfl : oo = s.os := mv.os
          rw [many] at le3
          show wpAny _ _ _ _ _ _
          refine wpAny_pure ?_
          show wpAny _ _ (ret Value.none) _ _ _
          refine wpAny_pure ⟨rfl, h3, tt, c3, rfl, S3, le3, fun b o e => ?_⟩
          have b0 : b < s.heap.objs.size := Heap.lt_size e
          refine mv.heap b o ?_ (Heap.get?_push_of_some _ (Heap.get?_push_of_some _ e))
          rw [sz]
          simp only [List.mem_cons, List.not_mem_nil, or_false, not_or]
          exact ⟨Nat.ne_of_lt b0, Nat.ne_of_lt (Nat.lt_succ_of_lt b0)⟩
      · cases r₂ with
        | error e => exact hr₂
        | ok fl₂ =>
          cases fl₂ with
          | ret r =>
            obtain ⟨rfl, h3, tk, c3, rfl, S3, le3, kp⟩ := hr₂
            repeat (any_goals (first | assumption | wp_step))
            exact q _ _ _ S3 le3 kp
          | _ => exact hr₂.elim
    | _ => exact hr.elim
end
def rSetI (K : PySem.W.Frag) (w : World) : List V → Hp → VK → Prop := fun xs H Q => ∃ (l : Addr) (ns : List Int), xs = [.ref l] ∧ (SqL K H l (ns.map V.int) ∨ SqT K H l (ns.map V.int)) ∧ ns.length ≤ 1000 ∧
  ∀ (p : Addr) (c : Nat), H p = none → c ≤ ns.length → Q (.ref p) (upd H p (SetO w p (fun j => decide (j ∈ ns)) c))
theorem cr_setI {X : Cx} (hc : X.calm = true) : CallR X (.type "set") (rSetI X.K X.w) := by
  intro pins s σ H xs us Q I r h
  obtain ⟨l, ns, rfl, hq, hl, q⟩ := h
  rw [Vals.ref1 r]
  have few : ns.length + 1 < scanBound := by unfold scanBound; omega
  rcases hq with hq | hq
  · obtain ⟨its, rv, pl, hz⟩ := I.list hq
    refine setL_raw ns (I.ok.hd hc) pl.isList (by simpa using rv.ints) few fun h2 tk c hS le kp => ?_
    exact ⟨.ref s.heap.objs.size, _, I.laid (t' := tk) kp (Nat.le_refl _) (setO_new hS), rfl, q _ _ (I.hok.fresh (Nat.le_refl _)) le⟩
  · obtain ⟨its, rv, pl, hz⟩ := I.tuple hq
    refine call_set_tupI ns (I.ok.hd hc) pl (by simpa using rv.ints) few fun h2 tk c hS le kp => ?_
    exact ⟨.ref s.heap.objs.size, _, I.laid (t' := tk) kp (Nat.le_refl _) (setO_new hS), rfl, q _ _ (I.hok.fresh (Nat.le_refl _)) le⟩
section
variable {X : Cx} {K : PySem.W.Frag} {w : World} {H : Hp} {Q : VK}
theorem kc_setI (h : X.K = K) (hw : X.w = w) (hc : X.calm = true) : CallR X (.type "set") (rSetI K w) := by subst h; subst hw; exact cr_setI hc
theorem r_setI {l : Addr} {ns : List Int} (h : SqL K H l (ns.map V.int) ∨ SqT K H l (ns.map V.int)) (hl : ns.length ≤ 1000) (k : ∀ (p : Addr) (c : Nat), H p = none → c ≤ ns.length → Q (.ref p) (upd H p (SetO w p (fun j => decide (j ∈ ns)) c))) : rSetI K w [.ref l] H Q := ⟨l, ns, rfl, h, hl, k⟩
theorem kc_sortedS (hw : X.w = w) (hc : X.calm = true) : CallR X (.builtin "sorted") (rSortedSet w) := by subst hw; exact cr_sortedSet hc
/-- sorted(set(ns)): rising, the same members -/
theorem r_sortedS {a : Addr} {ns : List Int} {c : Nat} (h : H a = some (SetO w a (fun j => decide (j ∈ ns)) c)) (hc : c < 64) (k : ∀ (ms : List Int) (p : Addr), ms.Pairwise (· < ·) → (∀ i, i ∈ ms ↔ i ∈ ns) → ms.length = c → H p = none → Q (.ref p) (upd H p (.lst (ms.map V.int)))) : rSortedSet w [.ref a] H Q :=
  ⟨a, _, c, rfl, h, hc, fun ms p h1 h2 h3 h4 => k ms p h1 (fun i => by rw [h2]; exact decide_eq_true_iff) h3 h4⟩
end
end Rd

/-! ## an own class: its methods by name, its making -/
namespace Rd
open PySem PySem.Spec PyProof.Rows L2
/-- the method m of the class at C keeps the promise sp -/
structure HasM (P : Program) (w : World) (K : PySem.W.Frag) (mg : Str → Option Value) (base : Heap) (CX : CXT) (C : Addr) (k : Nat) (m : Str) (sp : Sp) : Prop where
  ex : ∃ (f : Addr) (fd : FuncData) (ps : List Str), FnOk P w K mg base CX k f fd ps sp ∧ Meth K C m f ∧ Binds K fd ps []
/-- the class at C is made by an __init__ that keeps the promise sp -/
structure HasMk (P : Program) (w : World) (K : PySem.W.Frag) (mg : Str → Option Value) (base : Heap) (CX : CXT) (C : Addr) (k : Nat) (x : Str) (sp : Sp) : Prop where
  ex : ∃ (f : Addr) (fd : FuncData) (ps : List Str), FnOk P w K mg base CX k f fd ps sp ∧ Mk K C f ∧ Binds K fd ps [] ∧ mg x = some (.ref C)
/-- the def st of the class's text stands at its name m -/
structure MethAt (K : PySem.W.Frag) (C : Addr) (m q : Str) (st : Stmt) : Prop where
  ex : ∃ (f : Addr) (fd : FuncData), Fun K m q st f fd ∧ PySem.W.findIn K (.ref C) m = some (some (.ref f)) ∧ PySem.W.isFn K (.ref f) = true
/-- c is the code object of the method, Pt that one's table -/
structure MethTab (K : PySem.W.Frag) (C : Addr) (m q : Str) (st : Stmt) (c Pt : Addr) : Prop where
  ex : ∃ (f : Addr) (oc : Value) (od an : Option Addr) (kV doc pm ct : Value) (osl : Array (Option Value)),
    K.lookup f = some ⟨oc, od, .func (PySem.W.fnOf m q (defArgs st) (defBody st) (defScope st) .none kV doc pm an (.ref c) ct), osl⟩ ∧ PySem.W.codeIn K (.ref c) q = true ∧ Meth K C m f
section
variable {P : Program} {w : World} {K : PySem.W.Frag} {mg : Str → Option Value} {base : Heap}
theorem HasM.mono {CX : CXT} {C : Addr} {m : Str} {sp : Sp} {j k : Nat} (h : HasM P w K mg base CX C j m sp) (i : j ≤ k) : HasM P w K mg base CX C k m sp := by
  obtain ⟨f, fd, ps, F, r⟩ := h.ex
  exact ⟨f, fd, ps, F.mono i, r⟩
theorem MethAt.ok {C : Addr} {m q : Str} {st : Stmt} {N ps : List Str} {k : Nat} {sp : Sp} (F : MethAt K C m q st) (S : FnScope N ps (defScope st)) (bo : BindOkQ m q st ps) (len : ∀ vs H Q E, sp vs H Q E → vs.length = ps.length)
    (hbody : ∀ (f : Addr) (cdv : Value) (A : Around) (outer : List Env) (s : Shared) (H : Hp) (vs : List V) (Q : VK) (E : XK), Room k (A.deeper (envOfC q (defScope st) s.heap.objs.size f cdv)) → sp vs H Q E →
      ∃ t, PSs (cxOf CX0 P w K mg base N q (defScope st) f cdv A outer s H E).nox (defBody st) t ∧ t { nx := fun _ H' => Q .non H', rt := Q } (start N vs) H) : HasM P w K mg base CX0 C (k + 1) m sp := by
  obtain ⟨f, fd, F, at_, fn⟩ := F.ex
  exact ⟨f, fd, ps, F.ok S len fun cdv A outer s H vs Q E hr h => hbody f cdv A outer s H vs Q E hr h, ⟨at_, fn, F.kp⟩, F.binds bo⟩
theorem MethAt.make {C : Addr} {q : Str} {x : Str} {st : Stmt} {N ps : List Str} {k : Nat} {sp : Sp} (F : MethAt K C "__init__" q st) (hm : mg x = some (.ref C)) (mk : PySem.W.makesIn K C = true) (kC : PySem.W.keepIn K (.ref C) = true) (S : FnScope N ps (defScope st)) (bo : BindOkQ "__init__" q st ps) (len : ∀ vs H Q E, sp vs H Q E → vs.length = ps.length)
    (hbody : ∀ (f : Addr) (cdv : Value) (A : Around) (outer : List Env) (s : Shared) (H : Hp) (vs : List V) (Q : VK) (E : XK), Room k (A.deeper (envOfC q (defScope st) s.heap.objs.size f cdv)) → sp vs H Q E →
      ∃ t, PSs (cxOf CX0 P w K mg base N q (defScope st) f cdv A outer s H E).nox (defBody st) t ∧ t { nx := fun _ H' => Q .non H', rt := Q } (start N vs) H) : HasMk P w K mg base CX0 C (k + 1) x sp := by
  obtain ⟨f, fd, F, at_, fn⟩ := F.ex
  exact ⟨f, fd, ps, F.ok S len fun cdv A outer s H vs Q E hr h => hbody f cdv A outer s H vs Q E hr h, ⟨mk, at_, fn, kC⟩, F.binds bo, hm⟩
theorem MethTab.ok {C : Addr} {m q : Str} {st : Stmt} {N ps : List Str} {k : Nat} {sp : Sp} {c Pt : Addr} (F : MethTab K C m q st c Pt) (S : FnScope N ps (defScope st)) (bo : BindOkQ m q st ps) (len : ∀ vs H Q E, sp vs H Q E → vs.length = ps.length)
    (hbody : ∀ (f : Addr) (A : Around) (outer : List Env) (s : Shared) (H : Hp) (vs : List V) (Q : VK) (E : XK), Room k (A.deeper (envOfC q (defScope st) s.heap.objs.size f (.ref c))) → sp vs H Q E →
      ∃ t, PSs (cxOf L2.CX0 P w K mg base N q (defScope st) f (.ref c) A outer s H E).nox (defBody st) t ∧ t { nx := fun _ H' => Q .non H', rt := Q } (L2.start N vs) H) : HasM P w K mg base L2.CX0 C (k + 1) m sp := by
  obtain ⟨f, oc, od, an, kV, doc, pm, ct, osl, lk, hcd, hm⟩ := F.ex
  refine ⟨f, _, ps, fn_of lk hcd S len fun A outer s H vs Q E hr hsp => ?_, hm, Binds.all (bo kV doc pm an (.ref c) ct)⟩
  obtain ⟨t, h, q⟩ := hbody f A outer s H vs Q E hr hsp
  exact ⟨t, h.nox, q⟩
theorem MethAt.mk' {C f : Addr} {m q : Str} {st : Stmt} {oc : Value} {od an : Option Addr} {osl : Array (Option Value)} {kV doc pm cdv ct : Value} (a : PySem.W.findIn K (.ref C) m = some (some (.ref f))) (i : PySem.W.isFn K (.ref f) = true)
    (l : K.lookup f = some ⟨oc, od, .func (PySem.W.fnOf m q (defArgs st) (defBody st) (defScope st) .none kV doc pm an cdv ct), osl⟩) (c : PySem.W.codeIn K cdv q = true) (k : PySem.W.keepIn K (.ref f) = true) : MethAt K C m q st := ⟨f, _, fun_mk l c k, a, i⟩
/-- an address; a function's data; a record's row -/
def asRef : Value → Option Addr
  | .ref a => some a
  | _ => none
def asFn (o : Obj) : Option FuncData := match o.data with
  | .func d => some d
  | _ => none
def asRow (o : Obj) : Array Value := match o.data with
  | .fields r => r
  | _ => #[]
theorem asRef_some {v : Value} {a : Addr} (h : asRef v = some a) : v = .ref a := by
  cases v <;> simp [asRef] at h
  rw [h]
/-- the code object of the def at f, and its table -/
def tabFn (K : PySem.W.Frag) (f : Addr) : Option (Addr × Addr) :=
  ((K.lookup f).bind asFn).bind fun d => (asRef d.code).bind fun c => ((K.lookup c).bind fun o => (asRow o)[11]?.bind asRef).map fun t => (c, t)
theorem tabFn_code {K : PySem.W.Frag} {f c Pt : Addr} {oc : Value} {od : Option Addr} {fd : FuncData} {osl : Array (Option Value)} (l : K.lookup f = some ⟨oc, od, .func fd, osl⟩) (t : tabFn K f = some (c, Pt)) : fd.code = .ref c := by
  obtain ⟨d, hd, h1⟩ := Option.bind_eq_some_iff.mp t
  rw [l] at hd
  obtain ⟨k, hk, h2⟩ := Option.bind_eq_some_iff.mp h1
  obtain ⟨_, _, e⟩ := Option.map_eq_some_iff.mp h2
  have ek : k = c := congrArg Prod.fst e
  cases (show some fd = some d from hd)
  rw [asRef_some hk, ek]
theorem MethTab.mk' {C f c Pt : Addr} {m q : Str} {st : Stmt} {oc : Value} {od an : Option Addr} {osl : Array (Option Value)} {kV doc pm cdv ct : Value} (a : PySem.W.findIn K (.ref C) m = some (some (.ref f))) (i : PySem.W.isFn K (.ref f) = true)
    (l : K.lookup f = some ⟨oc, od, .func (PySem.W.fnOf m q (defArgs st) (defBody st) (defScope st) .none kV doc pm an cdv ct), osl⟩) (cc : PySem.W.codeIn K cdv q = true) (k : PySem.W.keepIn K (.ref f) = true) (t : tabFn K f = some (c, Pt)) : MethTab K C m q st c Pt := by
  have e : cdv = .ref c := tabFn_code l t
  subst e
  exact ⟨f, oc, od, an, kV, doc, pm, ct, osl, l, cc, a, i, k⟩
end
section
variable {X : Cx} {CX : CXT} {k j : Nat} {C : Addr} {sp : Sp} {E : XK} {m x : Str} {p pos apos : Pos} {o e : Expr} {es : List Expr} {to : TE} {t : TA} {pl : Sem Bool}
theorem pe_hasM (h : HasM X.prog X.w X.K X.mg X.base CX C k m sp) (cl : Cls X.K C) (hr : Room j X.A) (hk : k ≤ j) (ho : PE X o to) (hx : Passes CX X E) (ha : PA X (e :: es) t)
    (hst : starEach (e :: es) X.env = (false, eval e X.env) :: starEach es X.env := by rfl) (hpl : (backTo pos (starEach es X.env)).any (·.1) = false := by rfl)
    (ht : eval (.Call (.Attribute o m apos) (e :: es) [] pos) X.env = (do
      let ov ← eval o X.env
      standAt apos.atName
      let (f, first) ← holding [ov] (getMethod ov m pl)
      callWith pos f first (backTo pos (starEach (e :: es) X.env)) (backToKw pos (keywordEach [] X.env))) := by rfl) :
    PE X (.Call (.Attribute o m apos) (e :: es) [] pos) (tMeth C m sp [] E to t) := by
  obtain ⟨f, fd, ps, F, hm, b⟩ := h.ex
  exact pe_meth ho cl hm F (hr.mono hk) b .nil hx ha hst hpl ht
theorem pe_hasM0 (h : HasM X.prog X.w X.K X.mg X.base CX C k m sp) (cl : Cls X.K C) (hr : Room j X.A) (hk : k ≤ j) (ho : PE X o to) (hx : Passes CX X E)
    (ht : eval (.Call (.Attribute o m apos) [] [] pos) X.env = (do
      let ov ← eval o X.env
      standAt apos.atName
      let (f, first) ← holding [ov] (getMethod ov m pl)
      callWith pos f first (backTo pos (starEach [] X.env)) (backToKw pos (keywordEach [] X.env))) := by rfl) :
    PE X (.Call (.Attribute o m apos) [] [] pos) (tMeth C m sp [] E to tNil) := by
  obtain ⟨f, fd, ps, F, hm, b⟩ := h.ex
  exact pe_meth0 ho cl hm F (hr.mono hk) b .nil hx ht
theorem pe_hasMk (h : HasMk X.prog X.w X.K X.mg X.base CX C k x sp) (hr : Room j X.A) (hk : k + 1 ≤ j) (hg : Gl X x) (hx : Passes CX X E) (ha : PA X (e :: es) t)
    (hdb : (x == ("__debug__" : Str)) = false := by decide) (he : starEach (e :: es) X.env = (false, eval e X.env) :: starEach es X.env := by rfl) (hpl : (backTo pos (starEach es X.env)).any (·.1) = false := by rfl) :
    PE X (.Call (.Name x p) (e :: es) [] pos) (tMake C sp [] E t) := by
  obtain ⟨f, fd, ps, F, M, b, hm⟩ := h.ex
  exact pe_make M F (hr.mono hk) hg hm b .nil hx ha hdb he hpl
theorem kpe_fld {K : PySem.W.Frag} {f : Str} (hK : X.K = K) (he : PE X e to) (hb : attributeBase e f X.env (eval e X.env) = eval e X.env := by rfl) : PE X (.Attribute e f pos) (tFld K to f) := by subst hK; exact pe_fld he hb
theorem kps_fld {K : PySem.W.Frag} {f : Str} {value : Expr} {tv : TE} {pos' : Pos} (hK : X.K = K) (ha : PE X o to) (hv : PE X value tv) (hs : swapsWith value (some (.Attribute o f pos')) pos.line X.env = pure false := by rfl) : PS X (.Assign [.Attribute o f pos'] value pos) (sFld K to tv f) := by subst hK; exact ps_fld ha hv hs
end
section
variable {K : PySem.W.Frag} {σ : L2.St} {H : Hp} {Q : VK} {nn bb cc : L2.St → Hp → Prop} {rr : VK} {C : Addr} {sp : Sp} {E : XK} {m f : Str} {to tv : TE} {t : TA}
theorem r_meth (k : to σ H fun x H1 => ∃ a dx fs, x = .ref a ∧ H1 a = some (.ins C dx fs) ∧ fs.lookup m = none ∧ t σ H1 fun vs H2 => sp (x :: vs) H2 Q E) : tMeth C m sp [] E to t σ H Q := by
  have e : (fun x (H1 : Hp) => ∃ a dx fs, x = V.ref a ∧ H1 a = some (.ins C dx fs) ∧ fs.lookup m = none ∧ t σ H1 fun vs H2 => sp (x :: (vs ++ [])) H2 Q E) = fun x H1 => ∃ a dx fs, x = V.ref a ∧ H1 a = some (.ins C dx fs) ∧ fs.lookup m = none ∧ t σ H1 fun vs H2 => sp (x :: vs) H2 Q E := by
    funext x H1
    simp only [List.append_nil]
  show to σ H fun x H1 => ∃ a dx fs, x = V.ref a ∧ H1 a = some (.ins C dx fs) ∧ fs.lookup m = none ∧ t σ H1 fun vs H2 => sp (x :: (vs ++ [])) H2 Q E
  rw [e]
  exact k
theorem r_make (k : t σ H fun vs H1 => ∀ x dx, H1 x = none → H1 dx = none → dx ≠ x → sp (.ref x :: vs) (upd (upd H1 dx (.own x)) x (.ins C dx [])) (fun v H2 => v = .non ∧ Q (.ref x) H2) E) : tMake C sp [] E t σ H Q := by
  have e : (fun vs (H1 : Hp) => ∀ x dx, H1 x = none → H1 dx = none → dx ≠ x → sp (.ref x :: (vs ++ [])) (upd (upd H1 dx (.own x)) x (.ins C dx [])) (fun v H2 => v = .non ∧ Q (.ref x) H2) E) = fun vs H1 => ∀ x dx, H1 x = none → H1 dx = none → dx ≠ x → sp (.ref x :: vs) (upd (upd H1 dx (.own x)) x (.ins C dx [])) (fun v H2 => v = .non ∧ Q (.ref x) H2) E := by
    funext vs H1
    simp only [List.append_nil]
  show t σ H fun vs H1 => ∀ x dx, H1 x = none → H1 dx = none → dx ≠ x → sp (.ref x :: (vs ++ [])) (upd (upd H1 dx (.own x)) x (.ins C dx [])) (fun v H2 => v = .non ∧ Q (.ref x) H2) E
  rw [e]
  exact k
theorem r_fld (k : to σ H fun x H1 => ∃ a C dx fs v, x = .ref a ∧ H1 a = some (.ins C dx fs) ∧ Cls K C ∧ NoAttr K C f ∧ fs.lookup f = some v ∧ Q v H1) : tFld K to f σ H Q := k
theorem r_setFld (k : tv σ H fun y H1 => to σ H1 fun x H2 => ∃ a C dx fs, x = .ref a ∧ H2 a = some (.ins C dx fs) ∧ Cls K C ∧ NoAttr K C f ∧ fs.length < 1000 ∧ nn σ (upd H2 a (.ins C dx (putF f y fs)))) : sFld K to tv f ⟨nn, rr, bb, cc⟩ σ H := k
theorem inV_bls (n : Bool) : ∀ ns : List Bool, inV (.bl n) (ns.map V.bl) = decide (n ∈ ns)
  | [] => by simp [inV]
  | a :: r => by
    have ih := inV_bls n r
    unfold inV at ih ⊢
    rw [List.map_cons, List.any_cons, ih]
    have e : eqV (.bl a) (.bl n) = decide (n = a) := by cases a <;> cases n <;> rfl
    simp [e, List.mem_cons]
theorem flat_bls (ns : List Bool) : (ns.map V.bl).all flatV = true := by
  rw [List.all_map]
  exact List.all_eq_true.mpr fun _ _ => rfl
theorem r_notInB {a : Addr} {n : Bool} {ns : List Bool} (h : SqL K H a (ns.map V.bl)) (k : Q (.bl (!decide (n ∈ ns))) H) : rIn K true (.bl n) (.ref a) H Q := ⟨a, _, rfl, .inl h, rfl, flat_bls ns, by rw [inV_bls]; exact k⟩
end
section
variable {g : TG} {tt : TT} {te : TE} {vs : List Nat} {σ σw : L2.St} {Q : VK} {D : Addr} {H1 : Hp}
theorem lcw_tup {K : PySem.W.Frag} {a : Addr} {xs : List V} (Pv : Nat → Hp → Prop) (hw : wipe σ vs = σw) (h0 : Pv 0 (upd H1 D (.lst []))) (hl : ∀ i H, i ≤ xs.length → Pv i H → SqT K H a xs)
    (hs : ∀ i x H, xs[i]? = some x → Pv i H → g x σw H fun σ2 H2 => wipe σ2 vs = σw ∧ tt σ2 H2 fun b H3 =>
      if b = true then te σ2 H3 fun y H4 => ∃ acc, H4 D = some (.lst acc) ∧ acc.length < sizeLine ∧ Pv (i + 1) (upd H4 D (.lst (acc ++ [y]))) else Pv (i + 1) H3) (hd : ∀ H, Pv xs.length H → Q (.ref D) H) : LcW (Itt K a) g tt te vs σ Q D H1 := by
  subst hw
  exact lc_tup Pv h0 hl hs hd
end
end Rd

/-! ## max of a list of lists of ints, min of a list of (int, list of ints) -/
namespace Rd
open PySem PySem.Spec L2 PyProof.Rows
/-- lists as they ascend -/
def ltL : List Int → List Int → Bool
  | [], [] => false
  | [], _ :: _ => true
  | _ :: _, [] => false
  | x :: xs, y :: ys => if x = y then ltL xs ys else decide (x < y)
theorem ltL_irrefl : ∀ a : List Int, ltL a a = false
  | [] => rfl
  | x :: xs => by
    rw [ltL, if_pos rfl]
    exact ltL_irrefl xs
theorem ltL_asym : ∀ a b : List Int, ltL a b = true → ltL b a = false
  | [], [], h => by cases h
  | [], _ :: _, _ => rfl
  | _ :: _, [], h => by cases h
  | x :: xs, y :: ys, h => by
    rw [ltL] at h ⊢
    by_cases e : x = y
    · rw [if_pos e] at h
      rw [if_pos e.symm]
      exact ltL_asym xs ys h
    · rw [if_neg e] at h
      rw [if_neg (Ne.symm e)]
      have := of_decide_eq_true h
      exact decide_eq_false (by omega)
theorem ltL_tri : ∀ a b : List Int, ltL a b = false → ltL b a = false → a = b
  | [], [], _, _ => rfl
  | [], _ :: _, h, _ => by cases h
  | _ :: _, [], _, h => by cases h
  | x :: xs, y :: ys, h, k => by
    rw [ltL] at h k
    by_cases e : x = y
    · rw [if_pos e] at h
      rw [if_pos e.symm] at k
      rw [e, ltL_tri xs ys h k]
    · rw [if_neg e] at h
      rw [if_neg (Ne.symm e)] at k
      have a := of_decide_eq_false h
      have b := of_decide_eq_false k
      omega
theorem ltL_trans : ∀ a b c : List Int, ltL a b = true → ltL b c = true → ltL a c = true
  | [], [], _, h, _ => by cases h
  | [], _ :: _, [], _, k => by cases k
  | [], _ :: _, _ :: _, _, _ => rfl
  | _ :: _, [], _, h, _ => by cases h
  | _ :: _, _ :: _, [], _, k => by cases k
  | x :: xs, y :: ys, z :: zs, h, k => by
    rw [ltL] at h k ⊢
    by_cases e : x = y
    · rw [if_pos e] at h
      by_cases f : y = z
      · rw [if_pos f] at k
        rw [if_pos (e.trans f)]
        exact ltL_trans xs ys zs h k
      · rw [if_neg f] at k
        rw [if_neg (by rw [e]; exact f), e]
        exact k
    · rw [if_neg e] at h
      have a := of_decide_eq_true h
      by_cases f : y = z
      · rw [if_neg (by rw [← f]; exact e), ← f]
        exact h
      · rw [if_neg f] at k
        have b := of_decide_eq_true k
        rw [if_neg (by omega)]
        exact decide_eq_true (by omega)
/-- not less, turned around, goes on -/
theorem ltL_le_trans {a b c : List Int} (h : ltL b a = false) (k : ltL c b = false) : ltL c a = false := by
  cases e : ltL c a with
  | false => rfl
  | true =>
    cases f : ltL a b with
    | true => rw [ltL_trans c a b e f] at k; cases k
    | false =>
      rw [ltL_tri a b f h] at e
      rw [e] at k
      cases k
theorem firstLt_map (e r : Nat → Bool) (fin : Bool) (f : Nat → Nat) : ∀ l : List Nat, SeqAt.firstLt e r fin (l.map f) = SeqAt.firstLt (fun j => e (f j)) (fun j => r (f j)) fin l
  | [] => rfl
  | j :: t => by
    rw [List.map_cons, SeqAt.firstLt, SeqAt.firstLt, firstLt_map e r fin f t]
theorem firstLt_gt : ∀ a b : List Int, SeqAt.firstLt (fun j => decide (a.getD j 0 = b.getD j 0)) (fun j => decide (b.getD j 0 < a.getD j 0)) (decide (a.length > b.length)) (List.range (min a.length b.length)) = ltL b a
  | [], [] => rfl
  | [], _ :: _ => rfl
  | _ :: xs, [] => by
    rw [ltL]
    show decide (xs.length + 1 > 0) = true
    exact decide_eq_true (Nat.succ_pos _)
  | x :: xs, y :: ys => by
    have ih := firstLt_gt xs ys
    rw [ltL]
    rw [List.length_cons, List.length_cons, Nat.succ_min_succ, List.range_succ_eq_map, SeqAt.firstLt]
    rw [firstLt_map]
    show (if decide (x = y) = true then SeqAt.firstLt (fun j => decide (xs.getD j 0 = ys.getD j 0)) (fun j => decide (ys.getD j 0 < xs.getD j 0)) (decide (xs.length + 1 > ys.length + 1)) (List.range (min xs.length ys.length)) else decide (y < x)) = _
    rw [show decide (xs.length + 1 > ys.length + 1) = decide (xs.length > ys.length) from decide_eq_decide.mpr (by omega), ih]
    by_cases e : x = y
    · rw [if_pos (decide_eq_true e), if_pos e.symm]
    · rw [if_neg (by rw [decide_eq_true_eq]; exact e), if_neg (Ne.symm e)]
theorem firstLt_lt (a b : List Int) : SeqAt.firstLt (fun j => decide (a.getD j 0 = b.getD j 0)) (fun j => decide (a.getD j 0 < b.getD j 0)) (decide (a.length < b.length)) (List.range (min a.length b.length)) = ltL a b := by
  have h := firstLt_gt b a
  rw [Nat.min_comm, ← h]
  congr 1
  funext j
  exact decide_eq_decide.mpr ⟨Eq.symm, Eq.symm⟩
theorem beq_dec (a b : Int) : (a == b) = decide (a = b) := by
  by_cases q : a = b
  · rw [decide_eq_true q]; exact beq_iff_eq.mpr q
  · rw [decide_eq_false q]; exact beq_eq_false_iff_ne.mpr q
section
variable {A : Around} {s : Shared} {t u : Addr} {its its2 : List Value} {a b : List Int}
theorem ints_gt (hl : s.heap.IsList t its.toArray) (hb : s.heap.IsList u its2.toArray) (i1 : IntsAre its a) (i2 : IntsAre its2 b) (hu : A.units < cLine) : SeqAt.RcOp .Gt A s (.ref t) (.ref u) (ltL b a) := by
  have e1 : its.toArray.size = a.length := by rw [List.size_toArray]; exact i1.length
  have e2 : its2.toArray.size = b.length := by rw [List.size_toArray]; exact i2.length
  have at1 : ∀ j (h1 : j < its.toArray.size), ∃ t, its.toArray[j] = .int (a.getD j 0) t := fun j h1 => PyProof.Rows.IntsAre.int_at i1 _ _ (by simp at h1; simp [h1])
  have at2 : ∀ j (h1 : j < its2.toArray.size), ∃ t, its2.toArray[j] = .int (b.getD j 0) t := fun j h1 => PyProof.Rows.IntsAre.int_at i2 _ _ (by simp at h1; simp [h1])
  have R := SeqAt.RcOp.lists_gt (A := A) (s := s) (e := fun j => decide (a.getD j 0 = b.getD j 0)) (r := fun j => decide (b.getD j 0 < a.getD j 0)) hl hb hu (fun j h1 h2 => by
    obtain ⟨t, et⟩ := at1 j h1
    obtain ⟨t', et'⟩ := at2 j h2
    rw [et, et', ← beq_dec]
    exact SeqAt.EqAt.int_int _ _ _ _) (fun j h1 h2 _ => by
    obtain ⟨t, et⟩ := at1 j h1
    obtain ⟨t', et'⟩ := at2 j h2
    rw [et, et']
    exact fun _ _ _ _ h => PyProof.Rows.gt_int h)
  rw [e1, e2, firstLt_gt] at R
  exact R
theorem ints_lt (hl : s.heap.IsList t its.toArray) (hb : s.heap.IsList u its2.toArray) (i1 : IntsAre its a) (i2 : IntsAre its2 b) (hu : A.units < cLine) : SeqAt.RcLt A s (.ref t) (.ref u) (ltL a b) := by
  have e1 : its.toArray.size = a.length := by rw [List.size_toArray]; exact i1.length
  have e2 : its2.toArray.size = b.length := by rw [List.size_toArray]; exact i2.length
  have at1 : ∀ j (h1 : j < its.toArray.size), ∃ t, its.toArray[j] = .int (a.getD j 0) t := fun j h1 => PyProof.Rows.IntsAre.int_at i1 _ _ (by simp at h1; simp [h1])
  have at2 : ∀ j (h1 : j < its2.toArray.size), ∃ t, its2.toArray[j] = .int (b.getD j 0) t := fun j h1 => PyProof.Rows.IntsAre.int_at i2 _ _ (by simp at h1; simp [h1])
  have R := SeqAt.RcLt.lists (A := A) (s := s) (e := fun j => decide (a.getD j 0 = b.getD j 0)) (r := fun j => decide (a.getD j 0 < b.getD j 0)) hl hb hu (fun j h1 h2 => by
    obtain ⟨t, et⟩ := at1 j h1
    obtain ⟨t', et'⟩ := at2 j h2
    rw [et, et', ← beq_dec]
    exact SeqAt.EqAt.int_int _ _ _ _) (fun j h1 h2 _ => by
    obtain ⟨t, et⟩ := at1 j h1
    obtain ⟨t', et'⟩ := at2 j h2
    rw [et, et']
    exact fun _ _ _ _ h => PyProof.Rows.lt_int h)
  rw [e1, e2, firstLt_lt] at R
  exact R
end
/-- the first of the best by an order whose «not less» goes on -/
theorem argBest_le {lt : Nat → Nat → Bool} (as : ∀ i j, lt i j = true → lt j i = false) (tr : ∀ i j k, lt j i = false → lt k j = false → lt k i = false) : ∀ k, argBest lt k ≤ k ∧ ∀ j, j ≤ k → lt j (argBest lt k) = false
  | 0 => ⟨Nat.le_refl _, fun j hj => by
    have e : j = 0 := by omega
    subst e
    cases h : lt 0 0 with
    | false => exact h
    | true => exact absurd (as 0 0 h) (by rw [h]; exact Bool.noConfusion)⟩
  | k + 1 => by
    obtain ⟨h1, h2⟩ := argBest_le as tr k
    simp only [argBest]
    have self : ∀ i, lt i i = false := fun i => by
      cases h : lt i i with
      | false => rfl
      | true => rw [as i i h] at h; cases h
    cases hc : lt (k + 1) (argBest lt k) with
    | true =>
      rw [if_pos rfl]
      refine ⟨Nat.le_refl _, fun j hj => ?_⟩
      rcases Nat.lt_or_ge j (k + 1) with hlt | hge
      · exact tr _ _ _ (as _ _ hc) (h2 j (by omega))
      · have : j = k + 1 := by omega
        rw [this]
        exact self _
    | false =>
      rw [if_neg Bool.false_ne_true]
      refine ⟨by omega, fun j hj => ?_⟩
      rcases Nat.lt_or_ge j (k + 1) with hlt | hge
      · exact h2 j (by omega)
      · have : j = k + 1 := by omega
        rw [this]
        exact hc
/-! ### the rules -/
/-- lists of ints at the addresses as, by number -/
def Rows (H : Hp) (as : List Addr) (rows : List (List Int)) : Prop := as.length = rows.length ∧ ∀ (i : Nat) (a : Addr) (row : List Int), as[i]? = some a → rows[i]? = some row → H a = some (.lst (row.map V.int))
def rMaxLL (K : PySem.W.Frag) (vs : List V) (H : Hp) (Q : VK) : Prop := ∃ (l : Addr) (as : List Addr) (rows : List (List Int)), vs = [.ref l] ∧ SqL K H l (as.map V.ref) ∧ Rows H as rows ∧ 0 < rows.length ∧
  ∀ (i : Nat) (a : Addr) (row : List Int), as[i]? = some a → rows[i]? = some row → (∀ r ∈ rows, ltL row r = false) → Q (.ref a) H
/-- pairs of a number and a list of ints at the addresses ts -/
def NRows (H : Hp) (ts : List Addr) (as : List Addr) (rows : List (Int × List Int)) : Prop := ts.length = rows.length ∧ as.length = rows.length ∧ ∀ (i : Nat) (t a : Addr) (row : Int × List Int), ts[i]? = some t → as[i]? = some a → rows[i]? = some row →
  H t = some (.tup [.int row.1, .ref a]) ∧ H a = some (.lst (row.2.map V.int))
def rMinTL (K : PySem.W.Frag) (vs : List V) (H : Hp) (Q : VK) : Prop := ∃ (l : Addr) (ts as : List Addr) (rows : List (Int × List Int)), vs = [.ref l] ∧ SqL K H l (ts.map V.ref) ∧ NRows H ts as rows ∧ 0 < rows.length ∧
  ∀ (i : Nat) (t : Addr) (row : Int × List Int), ts[i]? = some t → rows[i]? = some row → (∀ r ∈ rows, ltL (r.1 :: r.2) (row.1 :: row.2) = false) → Q (.ref t) H
theorem map_ref_at {as : List Addr} {its : List Value} {i : Nat} {a : Addr} (r : Vals (as.map V.ref) its) (h : as[i]? = some a) : its[i]? = some (.ref a) := by
  obtain ⟨u, h1, h2⟩ := Vals.get r (i := i) (x := .ref a) (by rw [List.getElem?_map, h] <;> rfl)
  rw [h1, show u = Value.ref a from h2]
theorem eqv_ints : ∀ a b : List Int, PyData.eqv (dInts a) (dInts b) = decide (a = b) := by
  intro a b
  have e : PyData.eqvAll (a.map PyData.int) (b.map PyData.int) = decide (a = b) := by
    induction a generalizing b with
    | nil =>
      cases b with
      | nil => rfl
      | cons y ys => rfl
    | cons x xs ih =>
      cases b with
      | nil => rfl
      | cons y ys =>
        rw [List.map_cons, List.map_cons, PyData.eqvAll, ih ys]
        simp only [PyData.eqv, List.cons.injEq]
        rw [beq_dec]
        by_cases h1 : x = y
        · by_cases h2 : xs = ys
          · simp [h1, h2]
          · simp [h1, h2]
        · simp [h1]
  unfold dInts
  rw [PyData.eqv]
  exact e
section
variable {X : Cx}
theorem cr_maxLL (hc : X.calm = true) (hu : X.A.units + 64 < cLine) : CallR X (.builtin "max") (rMaxLL X.K) := by
  intro pins s σ H xs us Q I r h
  obtain ⟨l, as, rows, rfl, hl, hR, h0, q⟩ := h
  obtain ⟨hlen, hR⟩ := hR
  rw [Vals.ref1 r]
  obtain ⟨its, rv, pl, _⟩ := I.list hl
  have hn : its.toArray.size = rows.length := by rw [List.size_toArray, ← rv.length, List.length_map]; exact hlen
  have item : ∀ (i : Nat) (v : Value), its.toArray[i]? = some v → ∃ a row iA, as[i]? = some a ∧ rows[i]? = some row ∧ v = .ref a ∧ IntsAre iA row ∧ s.heap.IsList a iA.toArray := fun i v hv => by
    have hi : i < rows.length := by
      rw [← hn]
      exact (Array.getElem?_eq_some_iff.mp hv).1
    obtain ⟨a, ha⟩ : ∃ a, as[i]? = some a := ⟨_, List.getElem?_eq_getElem (by omega)⟩
    obtain ⟨row, hrow⟩ : ∃ row, rows[i]? = some row := ⟨_, List.getElem?_eq_getElem hi⟩
    obtain ⟨iA, ra, pa, _⟩ := I.list (SqL.of (hR i a row ha hrow))
    have hv' : its[i]? = some v := by simpa using hv
    rw [map_ref_at rv ha] at hv'
    exact ⟨a, row, iA, ha, hrow, (Option.some.inj hv').symm, Vals.ints ra, pa.isList⟩
  refine call_max_walkH (PySem.W.iter_listW (A := X.A.in1) (I.ok.hd hc) pl.isList fun s₂ e W st hfp hw hk => ?_)
  refine ⟨_, _, _, _, _, _, _, s.heap, fun i j => ltL (rows.getD j []) (rows.getD i []), rfl, W, st, hfp, by omega, hw, hk, fun i j vi vj s' Q' E' hk' hi hj hq => ?_, fun v s' hP m => ?_⟩
  · obtain ⟨a, ra, iA, _, h2, rfl, h4, h5⟩ := item i vi hi
    obtain ⟨b, rb, iB, _, g2, rfl, g4, g5⟩ := item j vj hj
    have e1 : rows.getD i [] = ra := by rw [List.getD_eq_getElem?_getD, h2] <;> rfl
    have e2 : rows.getD j [] = rb := by rw [List.getD_eq_getElem?_getD, g2] <;> rfl
    dsimp only at hq
    rw [e1, e2] at hq
    exact ints_gt (A := X.A.in1) (h5.at fun o e => hk' _ _ e) (g5.at fun o e => hk' _ _ e) h4 g4 (show X.A.units + 1 < cLine by omega) _ _ _ _ hq
  · obtain ⟨h', tk, rfl, hk'⟩ := PySem.W.moved_old e rfl m
    obtain ⟨a, row, iA, h1, h2, rfl, _, _⟩ := item _ v hP
    obtain ⟨b1, b2⟩ := argBest_le (lt := fun i j => ltL (rows.getD j []) (rows.getD i [])) (fun i j => ltL_asym _ _) (fun i j k h h' => ltL_le_trans h' h) (its.toArray.size - 1)
    refine ⟨.ref a, H, I.kept (t' := tk) hk', rfl, q _ a row h1 h2 fun r hr => ?_⟩
    obtain ⟨j, hj, ej⟩ := List.mem_iff_getElem.mp hr
    have := b2 j (by omega)
    have e1 : rows.getD j [] = r := by rw [List.getD_eq_getElem?_getD, List.getElem?_eq_getElem hj, ← ej] <;> rfl
    have e2 : rows.getD (argBest (fun i j => ltL (rows.getD j []) (rows.getD i [])) (its.toArray.size - 1)) [] = row := by rw [List.getD_eq_getElem?_getD, h2] <;> rfl
    rw [← e1, ← e2]
    exact this
theorem cr_minTL (hc : X.calm = true) (hu : X.A.units + 64 < cLine) : CallR X (.builtin "min") (rMinTL X.K) := by
  intro pins s σ H xs us Q I r h
  obtain ⟨l, ts, as, rows, rfl, hl, hR, h0, q⟩ := h
  obtain ⟨hlen, hlenA, hR⟩ := hR
  rw [Vals.ref1 r]
  obtain ⟨its, rv, pl, _⟩ := I.list hl
  have hn : its.toArray.size = rows.length := by rw [List.size_toArray, ← rv.length, List.length_map]; exact hlen
  have item : ∀ (i : Nat) (v : Value), its.toArray[i]? = some v → ∃ t row a tk iA rs, ts[i]? = some t ∧ rows[i]? = some row ∧ v = .ref t ∧ s.heap.IsTuple t #[.int row.1 tk, .ref a] ∧ IntsAre iA row.2 ∧ s.heap.IsList a iA.toArray ∧ Reads s.heap (.ref a) (dInts row.2) rs := fun i v hv => by
    have hi : i < rows.length := by
      rw [← hn]
      exact (Array.getElem?_eq_some_iff.mp hv).1
    obtain ⟨t, ht⟩ : ∃ t, ts[i]? = some t := ⟨_, List.getElem?_eq_getElem (by omega)⟩
    obtain ⟨a, ha⟩ : ∃ a, as[i]? = some a := ⟨_, List.getElem?_eq_getElem (by omega)⟩
    obtain ⟨row, hrow⟩ : ∃ row, rows[i]? = some row := ⟨_, List.getElem?_eq_getElem hi⟩
    obtain ⟨e1, e2⟩ := hR i t a row ht ha hrow
    obtain ⟨iA, ra, pa, _⟩ := I.list (SqL.of e2)
    obtain ⟨iT, rT, pT, _⟩ := I.tuple (SqT.of e1)
    obtain ⟨rs, hrs⟩ := Dp.reads I _ _ (.ref a) (Is.dp (K := X.K) _ _ (Is.ints e2)) rfl
    have hv' : its[i]? = some v := by simpa using hv
    rw [map_ref_at rv ht] at hv'
    cases rT with
    | cons r1 rr =>
      cases rr with
      | cons r2 rr =>
        cases rr
        obtain ⟨tk, rfl⟩ := r1
        obtain rfl := r2
        exact ⟨t, row, a, tk, iA, rs, ht, hrow, (Option.some.inj hv').symm, pT, Vals.ints ra, pa.isList, hrs⟩
  refine call_min_walkH (PySem.W.iter_listW (A := X.A.in1) (I.ok.hd hc) pl.isList fun s₂ e W st hfp hw hk => ?_)
  refine ⟨_, _, _, _, _, _, _, s.heap, fun i j => ltL ((rows.getD i (0, [])).1 :: (rows.getD i (0, [])).2) ((rows.getD j (0, [])).1 :: (rows.getD j (0, [])).2), rfl, W, st, hfp, by omega, hw, hk, fun i j vi vj s' Q' E' hk' hi hj hq => ?_, fun v s' hP m => ?_⟩
  · obtain ⟨t, ra, a, k1, iA, rs, _, h2, rfl, h4, h5, h6, h7⟩ := item i vi hi
    obtain ⟨u, rb, b, k2, iB, rs2, _, g2, rfl, g4, g5, g6, g7⟩ := item j vj hj
    have e1 : rows.getD i (0, []) = ra := by rw [List.getD_eq_getElem?_getD, h2] <;> rfl
    have e2 : rows.getD j (0, []) = rb := by rw [List.getD_eq_getElem?_getD, g2] <;> rfl
    dsimp only at hq
    rw [e1, e2] at hq
    have R := SeqAt.RcLt.tuples (A := X.A.in1) (s := s') (e := fun j => if j = 0 then decide (ra.1 = rb.1) else decide (ra.2 = rb.2)) (r := fun j => if j = 0 then decide (ra.1 < rb.1) else ltL ra.2 rb.2) (h4.at fun o e => hk' _ _ e) (g4.at fun o e => hk' _ _ e) (show X.A.units + 1 < cLine by omega)
      (fun j p1 p2 => by
        have hj : j < 2 := p1
        match j, hj with
        | 0, _ => rw [if_pos rfl, ← beq_dec]; exact SeqAt.EqAt.int_int _ _ _ _
        | 1, _ =>
          rw [if_neg (by decide), ← eqv_ints]
          exact SeqAt.eqAt_reads _ _ _ _ _ _ _ _ (PySem.W.reads_keeps hk' h7) (PySem.W.reads_keeps hk' g7) (Fl.ints 0 _).1 (Fl.ints 0 _).1 (by
            have := (Fl.ints 0 ra.2).2
            have := Nat.min_le_left (dInts ra.2).depth (dInts rb.2).depth
            show X.A.units + 1 + 1 + _ < cLine
            omega))
      (fun j p1 p2 _ => by
        have hj : j < 2 := p1
        match j, hj with
        | 0, _ => rw [if_pos rfl]; exact fun _ _ _ _ h => PyProof.Rows.lt_int h
        | 1, _ => rw [if_neg (by decide)]; exact ints_lt (A := X.A.in1.in1) (h6.at fun o e => hk' _ _ e) (g6.at fun o e => hk' _ _ e) h5 g5 (show X.A.units + 1 + 1 < cLine by omega))
    have eR : SeqAt.firstLt (fun j => if j = 0 then decide (ra.1 = rb.1) else decide (ra.2 = rb.2)) (fun j => if j = 0 then decide (ra.1 < rb.1) else ltL ra.2 rb.2) (decide (2 < 2)) (List.range (min 2 2)) = ltL (ra.1 :: ra.2) (rb.1 :: rb.2) := by
      show (if decide (ra.1 = rb.1) = true then (if decide (ra.2 = rb.2) = true then false else ltL ra.2 rb.2) else decide (ra.1 < rb.1)) = _
      rw [ltL]
      by_cases c : ra.1 = rb.1
      · rw [if_pos (decide_eq_true c), if_pos c]
        by_cases d : ra.2 = rb.2
        · rw [if_pos (decide_eq_true d), d, ltL_irrefl]
        · rw [if_neg (by rw [decide_eq_true_eq]; exact d)]
      · rw [if_neg (by rw [decide_eq_true_eq]; exact c), if_neg c]
    have R2 : SeqAt.RcLt X.A.in1 s' (.ref t) (.ref u) (SeqAt.firstLt (fun j => if j = 0 then decide (ra.1 = rb.1) else decide (ra.2 = rb.2)) (fun j => if j = 0 then decide (ra.1 < rb.1) else ltL ra.2 rb.2) (decide (2 < 2)) (List.range (min 2 2))) := R
    rw [eR] at R2
    exact R2 _ _ _ _ hq
  · obtain ⟨h', tk, rfl, hk'⟩ := PySem.W.moved_old e rfl m
    obtain ⟨t, row, a, _, _, _, h1, h2, rfl, _⟩ := item _ v hP
    obtain ⟨b1, b2⟩ := argBest_le (lt := fun i j => ltL ((rows.getD i (0, [])).1 :: (rows.getD i (0, [])).2) ((rows.getD j (0, [])).1 :: (rows.getD j (0, [])).2)) (fun i j => ltL_asym _ _) (fun i j k h h' => ltL_le_trans h h') (its.toArray.size - 1)
    refine ⟨.ref t, H, I.kept (t' := tk) hk', rfl, q _ t row h1 h2 fun r hr => ?_⟩
    obtain ⟨j, hj, ej⟩ := List.mem_iff_getElem.mp hr
    have := b2 j (by omega)
    have e1 : rows.getD j (0, []) = r := by rw [List.getD_eq_getElem?_getD, List.getElem?_eq_getElem hj, ← ej] <;> rfl
    have e2 : rows.getD (argBest (fun i j => ltL ((rows.getD i (0, [])).1 :: (rows.getD i (0, [])).2) ((rows.getD j (0, [])).1 :: (rows.getD j (0, [])).2)) (its.toArray.size - 1)) (0, []) = row := by rw [List.getD_eq_getElem?_getD, h2] <;> rfl
    rw [e1, e2] at this
    exact this
end
section
variable {X : Cx} {K : PySem.W.Frag}
theorem kc_maxLL (h : X.K = K) (hc : X.calm = true) (hu : X.A.units + 64 < cLine) : CallR X (.builtin "max") (rMaxLL K) := by subst h; exact cr_maxLL hc hu
theorem kc_minTL (h : X.K = K) (hc : X.calm = true) (hu : X.A.units + 64 < cLine) : CallR X (.builtin "min") (rMinTL K) := by subst h; exact cr_minTL hc hu
theorem kop_notIn (h : X.K = K) : OpR X (compareOp .NotIn) (rIn K true) := by subst h; exact op_notIn_seq
theorem kop_in (h : X.K = K) : OpR X (compareOp .In) (rIn K false) := by subst h; exact op_in_seq
end
section
variable {K : PySem.W.Frag} {H : Hp} {Q : VK}
theorem inV_ints (n : Int) : ∀ ns : List Int, inV (.int n) (ns.map V.int) = decide (n ∈ ns) := by
  intro ns
  induction ns with
  | nil => rfl
  | cons k r ih =>
    have e : inV (.int n) (V.int k :: r.map V.int) = (decide (n = k) || inV (.int n) (r.map V.int)) := by
      unfold inV
      rw [List.any_cons]
      congr 1
      first
        | rfl
        | (simp [eqV]; done)
        | (by_cases q : n = k
           · simp [eqV, q]
           · simp [eqV, q, Ne.symm q])
    rw [List.map_cons, e, ih]
    by_cases c : n = k
    · simp [c]
    · simp [c]
theorem flat_ints (ns : List Int) : (ns.map V.int).all flatV = true := by
  rw [List.all_map, List.all_eq_true]
  intro x _
  rfl
theorem r_notIn {a : Addr} {n : Int} {ns : List Int} (h : SqL K H a (ns.map V.int) ∨ SqT K H a (ns.map V.int)) (k : Q (.bl (!decide (n ∈ ns))) H) : rIn K true (.int n) (.ref a) H Q := by
  refine ⟨a, _, rfl, h, rfl, flat_ints ns, ?_⟩
  rw [if_pos rfl, inV_ints]
  exact k
theorem r_extend {l b : Addr} {xs zs : List V} (h : H l = some (.lst xs)) (hb : H b = some (.lst zs)) (hz : xs.length + zs.length ≤ sizeLine) (k : ∀ H', H' l = some (.lst (xs ++ zs)) → (∀ b o, b ≠ l → H b = some o → H' b = some o) → Q .non H') : rExtend (.ref l) [.ref b] H Q :=
  ⟨l, b, xs, zs, rfl, rfl, h, hb, hz, k _ upd_same fun b o n q => at_wr n q⟩
/-- xs == [], xs a list of ints -/
theorem r_eqNil {a b : Addr} {ns : List Int} (h : H a = some (.lst (ns.map V.int))) (h2 : H b = some (.lst [])) (k : Q (.bl (decide (ns = []))) H) : rEqA K (.ref a) (.ref b) H Q := by
  refine .inr ⟨dInts ns, .list [], Is.dp _ _ (Is.ints h), Is.dp _ _ (.lst h2 .nil), (Fl.ints 0 ns).shaped (by decide), (Fl.list (n := 0) (ds := []) (by simp)).shaped (by decide), ?_⟩
  have e : PyData.eqv (dInts ns) (.list []) = decide (ns = []) := by
    cases ns with
    | nil => simp [dInts, PyData.eqv, PyData.eqvAll]
    | cons n r => simp [dInts, PyData.eqv, PyData.eqvAll]
  rw [e]
  exact k
theorem NRows.mono {H' : Hp} {ts as : List Addr} {rows : List (Int × List Int)} (h : NRows H ts as rows) (R : ∀ b o, H b = some o → (∃ i : Nat, ts[i]? = some b ∨ as[i]? = some b) → H' b = some o) : NRows H' ts as rows :=
  ⟨h.1, h.2.1, fun i t a row h1 h2 h3 => ⟨R _ _ (h.2.2 i t a row h1 h2 h3).1 ⟨i, .inl h1⟩, R _ _ (h.2.2 i t a row h1 h2 h3).2 ⟨i, .inr h2⟩⟩⟩
theorem NRows.nil : NRows H [] [] [] := ⟨rfl, rfl, fun i t a row h => by simp at h⟩
theorem at_snoc {α : Type} {l : List α} {x y : α} {i : Nat} (h : (l ++ [x])[i]? = some y) : l[i]? = some y ∧ i < l.length ∨ i = l.length ∧ y = x := by
  rw [List.getElem?_append] at h
  by_cases c : i < l.length
  · rw [if_pos c] at h
    exact .inl ⟨h, c⟩
  · rw [if_neg c] at h
    have : i - l.length = 0 := by
      cases e : i - l.length with
      | zero => rfl
      | succ n => rw [e] at h; simp at h
    rw [this] at h
    exact .inr ⟨by omega, by simpa using h.symm⟩
theorem NRows.snoc {ts as : List Addr} {rows : List (Int × List Int)} {t a : Addr} {row : Int × List Int} (h : NRows H ts as rows) (h1 : H t = some (.tup [.int row.1, .ref a])) (h2 : H a = some (.lst (row.2.map V.int))) : NRows H (ts ++ [t]) (as ++ [a]) (rows ++ [row]) := by
  obtain ⟨l1, l2, at_⟩ := h
  refine ⟨by simp [l1], by simp [l2], fun i t' a' row' e1 e2 e3 => ?_⟩
  rcases at_snoc e1 with ⟨f1, g1⟩ | ⟨f1, rfl⟩
  · rcases at_snoc e2 with ⟨f2, g2⟩ | ⟨f2, rfl⟩
    · rcases at_snoc e3 with ⟨f3, g3⟩ | ⟨f3, rfl⟩
      · exact at_ i _ _ _ f1 f2 f3
      · omega
    · omega
  · rcases at_snoc e2 with ⟨f2, g2⟩ | ⟨f2, rfl⟩
    · omega
    · rcases at_snoc e3 with ⟨f3, g3⟩ | ⟨f3, rfl⟩
      · omega
      · exact ⟨h1, h2⟩
end
end Rd

/-! ## own errors: raised, caught, asked for their kind -/
namespace Rd
open PySem PySem.Spec PyProof.Rows L2 LamX
/-! ### list.count of bools -/
theorem vals_bls : ∀ {bs : List Bool} {us : List Value}, Vals (bs.map V.bl) us → us = bs.map Value.bool
  | [], _, .nil => rfl
  | b :: bs, _, .cons r k => by
    have e := vals_bls k
    have e2 : _ = Value.bool b := r
    rw [e2, e]
    rfl
theorem count_bls (k : Bool) : ∀ bs : List Bool, (bs.map Value.bool).countP (isBoolOf k) = bs.count k
  | [] => rfl
  | b :: bs => by
    rw [List.map_cons, List.countP_cons, List.count_cons, count_bls k bs]
    rfl
def rCountB (K : PySem.W.Frag) : V → List V → Hp → VK → Prop := fun x xs H Q => ∃ (a : Addr) (bs : List Bool) (k : Bool), x = V.ref a ∧ xs = [.bl k] ∧ SqL K H a (bs.map V.bl) ∧ Q (.int (bs.count k : Nat)) H
theorem mt_countB {X : Cx} : MtR X "list.count" (rCountB X.K) := by
  intro pins s σ H x xs v us Q I rx rxs h
  obtain ⟨a, bs, k, rfl, rfl, hs, q⟩ := h
  cases rx
  cases rxs with
  | cons ry rt =>
    cases rt
    cases ry
    obtain ⟨its, rv, ⟨⟨cls, dd, data, sl⟩, n, ho, hc, hdn, hd⟩, hlen⟩ := I.list hs
    simp only at hc hd
    subst hc hd
    have e := vals_bls rv
    subst e
    refine call_meets PySem.F.slot_list_count ⟨_, ho, rfl⟩ PySem.F.entry_list_count (PySem.F.args_list_count_2 _ _) (SeqAt.list_countAt a (bs.map Value.bool).toArray n dd sl (.bool k) (isBoolOf k)) ⟨ho, fun y hy => ?_, ?_⟩
    · have hy' : y ∈ bs.map Value.bool := by simpa using hy
      obtain ⟨b, _, rfl⟩ := List.mem_map.mp hy'
      exact SeqAt.EqAt.bool_bool b k
    · have e2 : (bs.map Value.bool).toArray.toList = bs.map Value.bool := rfl
      rw [e2, count_bls]
      exact ⟨.int (bs.count k : Nat), H, I.tok _, ⟨_, rfl⟩, q⟩
theorem kmt_countB {X : Cx} {K : PySem.W.Frag} (h : X.K = K) : MtR X "list.count" (rCountB K) := by subst h; exact mt_countB
theorem kmt_index {X : Cx} {K : PySem.W.Frag} (h : X.K = K) : MtR X "list.index" (rIndex K) := by subst h; exact mt_index
section
variable {K : PySem.W.Frag} {σ : L2.St} {H : Hp} {Q : VK}
theorem r_countB {a : Addr} {bs : List Bool} {k : Bool} (h : SqL K H a (bs.map V.bl)) (q : Q (.int (bs.count k : Nat)) H) : rCountB K (.ref a) [.bl k] H Q := ⟨a, bs, k, rfl, rfl, h, q⟩
theorem r_indexB {a : Addr} {bs : List Bool} {j : Nat} (h : SqL K H a (bs.map V.bl)) (hj : bs[j]? = some true) (hn : ∀ m, m < j → bs[m]? = some false) (q : Q (.int (j : Nat)) H) : rIndex K (.ref a) [.bl true] H Q :=
  ⟨a, _, .bl true, j, .bl true, rfl, rfl, h, rfl, flat_bls bs, by rw [List.getElem?_map, hj]; rfl, rfl, fun m z hm hz => by
    rw [List.getElem?_map, hn m hm] at hz
    cases hz
    rfl, q⟩
end
/-! ### classes of errors -/
/-- the name x stands for the class at c -/
structure ClsG (mg : Str → Option Value) (x : Str) (c : Addr) : Prop where
  g : mg x = some (.ref c)
theorem pe_clsG {X : Cx} {x : Str} {c : Addr} {pos : Pos} (h : ClsG X.mg x c) (hg : Gl X x) (hd : (x == ("__debug__" : Str)) = false := by decide) : PE X (.Name x pos) (tC (.ref c)) := pe_glob hg h.g rfl hd
/-- the class at c may be raised: its maker is ValueError's -/
structure ErrR (K : PySem.W.Frag) (c : Addr) : Prop where
  ex : PySem.W.excIn K c [.type "ValueError", .type "Exception", .type "BaseException", .type "object"] "ValueError.__new__" = true
  k : PySem.W.keepIn K (.ref c) = true
  sub : PySem.W.subIn K (.ref c) (.type "BaseException") = some true
  ty : PySem.W.typeIn K (.ref c) = some (.type "type")
def tRaiseC (c : Addr) (W : WX) : TS := fun _ σ H => W (.ref c) none σ H
theorem ps_raiseC {X : Cx} {W : WX} {x m : Str} {c : Addr} {j : Nat} {p p2 pos pos2 : Pos} (hc : X.calm = true) (tk : Takes X W) (G : ClsG X.mg x c) (R : ErrR X.K c) (hg : Gl X x := by rfl) (hdb : (x == ("__debug__" : Str)) = false := by decide) :
    PS X (.Raise (some (.Call (.Name x p) [.Constant (.str m) j p2] [] pos)) none pos2) (tRaiseC c W) := ps_raise hc tk (pmk_own PySem.F.excBase_ValueError R.ex G.g R.k (raises_own R.sub R.ty) hg hdb)
theorem r_raiseC {c : Addr} {W : WX} {σ : L2.St} {H : Hp} {D : Ends} (k : W (.ref c) none σ H) : tRaiseC c W D σ H := k
/-- never read -/
theorem pe_no {X : Cx} {e : Expr} : PE X e (fun _ _ _ => False) := ⟨fun _ _ _ _ _ _ h => h.elim⟩
/-- isinstance(e, c), e the error that the suite holds -/
def rIsX (K : PySem.W.Frag) (a : Addr) (cls : Value) (d : Option Addr) : List V → Hp → VK → Prop := fun xs H Q => ∃ (D : Addr) (c : V) (cv : Value) (b : Bool), cls = .ref D ∧ d = none ∧ ExcC K D ∧ xs = [.ref a, c] ∧ (∀ u, RelV c u → u = cv) ∧ PySem.W.kitOne K (.ref D) cv = some b ∧ Q (.bl b) H
theorem kc_isX {X : Cx} {K : PySem.W.Frag} {a : Addr} {oe : Obj} {cls : Value} {d : Option Addr} {pn : List (Addr × Obj)} (hK : X.K = K) (hz : Zc cls d oe) (hf : ∃ vs, oe.data = .fields vs) : CallR (X.suite a ((a, oe) :: pn)) (.builtin "isinstance") (rIsX K a cls d) := by
  subst hK
  intro pins s σ H xs us Q I r h
  obtain ⟨D, c, cv, b, rfl, rfl, C, rfl, hcv, e, q⟩ := h
  exact call_isE C hz hf pins s σ H _ us Q I r ⟨c, cv, b, rfl, hcv, e, q⟩
section
variable {K : PySem.W.Frag} {H : Hp} {Q : VK}
theorem r_isXc {a D c : Addr} {b : Bool} (C : ExcC K D) (e : PySem.W.kitOne K (.ref D) (.ref c) = some b) (q : Q (.bl b) H) : rIsX K a (.ref D) none [.ref a, .ref c] H Q := ⟨D, .ref c, .ref c, b, rfl, rfl, C, rfl, fun _ r => r, e, q⟩
theorem r_isXt {a D : Addr} {n : String} {b : Bool} (C : ExcC K D) (e : PySem.W.kitOne K (.ref D) (.type n) = some b) (q : Q (.bl b) H) : rIsX K a (.ref D) none [.ref a, .ty n] H Q := ⟨D, .ty n, .type n, b, rfl, rfl, C, rfl, fun _ r => r, e, q⟩
end
/-- the error class at D: the i-th of the kinds at cs, over the class at G, a ValueError -/
structure KindOf (K : PySem.W.Frag) (G : Addr) (cs : Nat → Addr) (D : Addr) (i : Nat) : Prop where
  c : ExcC K D
  g : PySem.W.exmOne K (.ref D) (.ref G) = some true
  v : PySem.W.kitOne K (.ref D) (.type "ValueError") = some true
  is : ∀ j, j < 7 → PySem.W.kitOne K (.ref D) (.ref (cs j)) = some (decide (j = i))
/-- the words of the kinds -/
def kindW (i : Nat) : Str := (["BadGear", "BadStanding", "BadMoves", "BadGoal", "BadMarks", "BadMark", "BadText"] : List Str).getD i ""
/-- _law_kind(work): the work's end; of an error its word -/
def TTKind (K : PySem.W.Frag) (G : Addr) (cs : Nat → Addr) : (XK → Hp → VK → Prop) → Hp → VK → Prop := fun tl H Q =>
  tl (fun cls d H' => ∃ D i, cls = .ref D ∧ d = none ∧ KindOf K G cs D i ∧ i < 6 ∧ ∀ H'', Same H' H'' → Q (.str (kindW i)) H'') H Q
/-! ### defs and methods that raise; a lambda handed to a def -/
section
variable {P : Program} {w : World} {K : PySem.W.Frag} {mg : Str → Option Value} {base : Heap}
theorem MethAt.okX {C : Addr} {m q : Str} {st : Stmt} {N ps : List Str} {k : Nat} {sp : Sp} (F : MethAt K C m q st) (S : FnScope N ps (defScope st)) (bo : BindOkQ m q st ps) (len : ∀ vs H Q E, sp vs H Q E → vs.length = ps.length)
    (hbody : ∀ (f : Addr) (cdv : Value) (A : Around) (outer : List Env) (s : Shared) (H : Hp) (vs : List V) (Q : VK) (E : XK), Room k (A.deeper (envOfC q (defScope st) s.heap.objs.size f cdv)) → sp vs H Q E →
      ∃ t, PSs (cxOf (L2.CX P w) P w K mg base N q (defScope st) f cdv A outer s H E) (defBody st) t ∧ t { nx := fun _ H' => Q .non H', rt := Q } (start N vs) H) : HasM P w K mg base (L2.CX P w) C (k + 1) m sp := by
  obtain ⟨f, fd, F, at_, fn⟩ := F.ex
  exact ⟨f, fd, ps, F.okX S len fun cdv A outer s H vs Q E hr h => hbody f cdv A outer s H vs Q E hr h, ⟨at_, fn, F.kp⟩, F.binds bo⟩
theorem FunAt.okX {x : Str} {st : Stmt} {N ps : List Str} {k : Nat} {sp : Sp} (F : FunAt K mg x st) (S : FnScope N ps (defScope st)) (bo : BindOk x st ps) (len : ∀ vs H Q E, sp vs H Q E → vs.length = ps.length)
    (hbody : ∀ (f : Addr) (cdv : Value) (A : Around) (outer : List Env) (s : Shared) (H : Hp) (vs : List V) (Q : VK) (E : XK), Room k (A.deeper (envOfC x (defScope st) s.heap.objs.size f cdv)) → sp vs H Q E →
      ∃ t, PSs (cxOf (L2.CX P w) P w K mg base N x (defScope st) f cdv A outer s H E) (defBody st) t ∧ t { nx := fun _ H' => Q .non H', rt := Q } (start N vs) H) : Has P w K mg base (L2.CX P w) (k + 1) x sp := by
  obtain ⟨f, fd, F, hm⟩ := F.ex
  exact ⟨f, fd, ps, F.okX S len fun cdv A outer s H vs Q E hr h => hbody f cdv A outer s H vs Q E hr h, hm, F.kp, F.binds bo⟩
end
/-- x(lambda: body), x a def that calls what it is handed -/
theorem pe_kindL {X : Cx} {T : List (Addr × Str)} {TT : (XK → Hp → VK → Prop) → Hp → VK → Prop} {x a : Str} {st : Stmt} {c P : Addr} {k : Nat} {Ng : List Str}
    {params : Arguments} {body : Expr} {scope : Scope} {t : XK → TE} {p lpos pos : Pos} (F : FunAt X.K X.mg x st) (Sg : FnScope Ng [a] (defScope st)) (bo : BindOk x st [a]) (hg : Gl X x) (hNg : Ng[0]? = some a) (hva : Vis (defScope st) a)
    (hG : ∀ (g : Addr) (cdg : Value), GivesTo X Ng x (defScope st) g cdg (defBody st) a (X.env.qual ++ "<lambda>") TT)
    (TB : TabB X.base X.mg c P) (hcode : X.env.code = .ref c) (hmT : (P, X.env.qual ++ "<lambda>") ∈ T) (hu : ∀ p ∈ T, p.1 = P → p.2 = X.env.qual ++ "<lambda>") (hr : Room (k + 2) X.A) (L : LamS X.env.scope scope) (hdef : defaultsOf params X.env = ([], []))
    (hbind : ∀ (q : Str) (cl : List (Str × Addr)) (pm cv ctv : Value), bindArgs (PySem.W.kla_fn "<lambda>" q params body scope cl pm cv ctv) ⟨[], []⟩ = pure [])
    (hbody : ∀ (A : Around) (outer : List Env) (s : Shared) (H : Hp) (E : XK) (f c' : Addr), Room k (A.deeper (lamEnv X scope s.heap.objs.size f c')) → PE (lamCx X A outer s H E scope f c') body (t E))
    (hdb : (x == ("__debug__" : Str)) = false := by decide) (hd : (a == ("__debug__" : Str)) = false := by decide) (hcd : (a == ("__classdict__" : Str)) = false := by decide) :
    PE X (.Call (.Name x p) [.Lambda params body scope lpos] [] pos) (tLam T TT t) := by
  obtain ⟨f, fd, F, hm⟩ := F.ex
  obtain ⟨oc, od, kV, doc, pm, an, cdv, ct, osl, rfl, lk, hcd'⟩ := F.ex
  exact pe_lamcall hg hm F.kp lk hcd' (Binds.all (bo kV doc pm an cdv ct)) Sg hNg hva (hG f cdv) TB hcode hmT hu hr L hdef hbind hbody hdb hd hcd
theorem r_lam {T : List (Addr × Str)} {TT : (XK → Hp → VK → Prop) → Hp → VK → Prop} {t : XK → TE} {σ : L2.St} {H : Hp} {Q : VK} (hT : Tabs T H) (k : ∀ H1, ExtN H H1 → Tabs T H1 → TT (fun E H' Q' => t E σ H' Q') H1 Q) : tLam T TT t σ H Q := ⟨hT, k⟩
/-- what a lambda's callee lets out is let out by the lambda -/
theorem passLam {X : Cx} {A : Around} {outer : List Env} {s : Shared} {H : Hp} {E : XK} {scope : Scope} {f c' : Addr} : Passes (L2.CX (lamCx X A outer s H E scope f c').prog (lamCx X A outer s H E scope f c').w) (lamCx X A outer s H E scope f c') E :=
  passes_call (W := fun cls d _ H => E cls d H) (takes_of rfl rfl rfl rfl) fun _ _ _ _ h => h
theorem kp_gives {K : PySem.W.Frag} {G : Addr} {cs : Nat → Addr} {Ng : List Str} {x a e q : Str} {X : Cx} {sg : Scope} {g : Addr} {cdg : Value} {b₀ : Stmt} {suite : List Stmt} {nE : Str} {p1 p2 p3 np pos pos' : Pos} {ts : Addr → Value → Option Addr → TS}
    (hK : X.K = K) (hge : sg.names.lookup nE = some .globalImplicit) (hme : ClsG X.mg nE G) (hde : (nE == ("__debug__" : Str)) = false) (h0 : ∀ f : Addr, (L2.start Ng [V.ref f])[0]? = some (some (V.ref f))) (hN : Ng.Nodup) (h1 : Ng[1]? = some e) (hl : sg.names.lookup e = some .local)
    (hsu : ∀ (s : Shared) (H : Hp) (a : Addr) (oe : Obj) (cls : Value) (d : Option Addr) (pn : List (Addr × Obj)), Zc cls d oe → (∃ vs, oe.data = .fields vs) → PSs ((cxOf C8.CX0 X.prog X.w X.K X.mg X.base Ng x sg g cdg X.A X.stack s H C8.E0).nox.suite a ((a, oe) :: pn)) (b₀ :: suite) (ts a cls d))
    (hts : ∀ (D : Addr) (i : Nat) (ea : Addr) (σ : L2.St) (H' : Hp) (En : Ends), KindOf K G cs D i → i < 6 → H' ea = none → σ.length = Ng.length → (∀ H'', Same H' H'' → En.rt (.str (kindW i)) H'') → ts ea (.ref D) none En (σ.set 1 (some (.ref ea))) H') :
    GivesTo X Ng x sg g cdg [.Try [.Return (some (.Call (.Name a p1) [] [] p2)) p3] [.ExceptHandler (some (.Name nE np)) (some e) (b₀ :: suite) pos'] [] [] pos] a q (TTKind K G cs) := by
  intro f c' s H Q tl act hc h
  have hgl : Gl (cxOf C8.CX0 X.prog X.w X.K X.mg X.base Ng x sg g cdg X.A X.stack s H C8.E0).nox nE := hge
  refine ⟨_, pss_one (ps_try_as (X := (cxOf C8.CX0 X.prog X.w X.K X.mg X.base Ng x sg g cdg X.A X.stack s H C8.E0).nox) (i := 1) (c := .ref G) (Wout := fun _ _ _ _ => False) (ts := ts)
      (tb := fun W D σ H => ∃ Ech : XK, (∀ cls d σ' H', σ'.length = Ng.length → Ech cls d H' → W cls d σ' H') ∧ σ[0]? = some (some (.ref f)) ∧ H c' = some (CodeO c' q) ∧ tl Ech H D.rt)
      rfl rfl hN h1 hl ⟨hgl, hde, .inl hme.g⟩ L2.takes0 (fun W pn xe tk _ => ?_) (fun ea oe cls d pn hz hf => hsu s H ea oe cls d pn hz hf)), ?_⟩
  · refine ⟨fun pins s' σ H' D I h' => ?_⟩
    obtain ⟨Ech, hW, h1, h2, h3⟩ := h'
    have tk' : Takes ((cxOf C8.CX0 X.prog X.w X.K X.mg X.base Ng x sg g cdg X.A X.stack s H C8.E0).tr pn xe) (fun cls d σ' H' => σ'.length = Ng.length → W cls d σ' H') := fun u s' ⟨a, B, sI, pins, σ', H', cls, d, e1, I', nb, up, sky, na, os, ag, w⟩ => tk u s' ⟨a, B, sI, pins, σ', H', cls, d, e1, I', nb, up, sky, na, os, ag, w I'.len⟩
    have hp := act _ pn xe Ech p1 p2 tk' fun cls d σ' H' e hl => hW cls d σ' H' hl e
    have hq := pss_one (ps_ret (pos := p3) hp)
    exact hq.run pins s' σ H' D I ⟨h1, h2, h3⟩
  · subst hK
    exact ⟨fun cls d H' => ∃ D i, cls = .ref D ∧ d = none ∧ KindOf X.K G cs D i ∧ i < 6 ∧ ∀ H'', Same H' H'' → Q (.str (kindW i)) H'', fun cls d σ' H' hl ⟨D, i, e1, e2, hk, hi, e3⟩ => ⟨true, by rw [e1]; exact hk.g, fun _ ea na => by rw [e1, e2]; exact hts D i ea σ' H' _ hk hi na hl e3, fun z => nomatch z⟩, h0 f, hc, h⟩
end Rd
namespace Rd
open PySem PySem.Spec PyProof.Rows L2 LamX
theorem r_kind {K : PySem.W.Frag} {G : Addr} {cs : Nat → Addr} {tl : XK → Hp → VK → Prop} {H : Hp} {Q : VK} (k : tl (fun cls d H' => ∃ D i, cls = .ref D ∧ d = none ∧ KindOf K G cs D i ∧ i < 6 ∧ ∀ H'', Same H' H'' → Q (.str (kindW i)) H'') H Q) : TTKind K G cs tl H Q := k
theorem kpg_lst {X : Cx} {K : PySem.W.Frag} {es : List Expr} {k : Nat} {t : TGs} {n : Nat} {pos : Pos} (hK : X.K = K) (hc : X.calm = true) (h : PGs X es t)
    (hn : (assignEach es X.env).length = n := by rfl) (hst : (assignEach es X.env).findIdx? (·.1) = none := by rfl) : PG X (.Tuple es k pos) (gLst K n t) := by subst hK; exact pg_lst hc h hn hst
theorem r_gLst {K : PySem.W.Frag} {n : Nat} {t : TGs} {a : Addr} {xs : List V} {σ : L2.St} {H : Hp} {Q : L2.St → Hp → Prop} (h : SqL K H a xs) (hl : xs.length = n) (k : t xs σ H Q) : gLst K n t (.ref a) σ H Q := ⟨a, xs, rfl, h, hl, k⟩
theorem kc_sortedPO {X : Cx} {K : PySem.W.Frag} (h : X.K = K) : CallR X (.builtin "sorted") (rSortedPO K) := by subst h; exact cr_sortedPO
def csL (a b c d e f g : Addr) : Nat → Addr := fun i => [a, b, c, d, e, f, g].getD i 0
theorem count_kind : ∀ i < 7, ([decide (0 = i), decide (1 = i), decide (2 = i), decide (3 = i), decide (4 = i), decide (5 = i), decide (6 = i)] : List Bool).count true = 1 := by decide
theorem index_kind : ∀ i < 7, ([decide (0 = i), decide (1 = i), decide (2 = i), decide (3 = i), decide (4 = i), decide (5 = i), decide (6 = i)] : List Bool)[i]? = some true := by decide
theorem index_kind2 : ∀ i < 7, ∀ m, m < i → ([decide (0 = i), decide (1 = i), decide (2 = i), decide (3 = i), decide (4 = i), decide (5 = i), decide (6 = i)] : List Bool)[m]? = some false := by decide
theorem kindW_ne : ∀ i < 6, ¬ kindW i = "BadText" := by decide +kernel
theorem kindW_at {i : Nat} (h : i < 7) : (((["BadGear", "BadStanding", "BadMoves", "BadGoal", "BadMarks", "BadMark", "BadText"] : List Str)).map V.str)[i]? = some (.str (kindW i)) := by
  rw [List.getElem?_map]
  unfold kindW
  rw [List.getD_eq_getElem?_getD, List.getElem?_eq_getElem (by exact h)]
  rfl
end Rd
namespace Rd
open PySem PySem.W
theorem kit_self {K : Frag} {t : Value} : kitOne K t t = some true := by
  have h : (t == t) = true := beq_self_eq_true t
  unfold kitOne
  rw [if_pos h]
theorem kit_ref {K : Frag} {D C : Addr} {b : Bool} (hd : hasDictIn K C = true) (ht : typeIn K (.ref C) = some (.type "type")) (hs : subIn K (.ref D) (.ref C) = some b) (ne : D ≠ C) : kitOne K (.ref D) (.ref C) = some b := by
  obtain ⟨cd, hc, _⟩ := any_some hd
  have h : ¬ (Value.ref D == Value.ref C) = true := fun z => ne (Value.ref.inj (eq_of_beq z))
  unfold kitOne
  rw [if_neg h]
  show (if ((clsIn K C).isSome && typeIn K (.ref C) == some (.type "type")) = true then subIn K (.ref D) (.ref C) else none) = some b
  rw [hc, ht]
  exact hs
theorem kit_type {K : Frag} {D : Addr} {T : String} {b : Bool} (hm : kitMeta T = true) (hs : subIn K (.ref D) (.type T) = some b) : kitOne K (.ref D) (.type T) = some b := by
  have h : ¬ (Value.ref D == Value.type T) = true := fun z => by cases eq_of_beq z
  unfold kitOne
  rw [if_neg h]
  show (if kitMeta T = true then subIn K (.ref D) (.type T) else none) = some b
  rw [if_pos hm]
  exact hs
end Rd

namespace Rd
open PySem L2
section
variable {P : Program} {w : World} {K : PySem.W.Frag} {mg : Str → Option Value} {base : Heap}
def spStart (K : PySem.W.Frag) : Sp := fun vs H Q _ => ∃ (a : Addr) (ns : List Int), vs = [.ref a] ∧ SqL K H a (ns.map V.int) ∧ ∀ st H', H st = none → Same H H' → St H' st a → Q (.ref st) H'
theorem spStart_i {a : Addr} {ns : List Int} {H : Hp} {Q : VK} {E : XK} (hS : SqL K H a (ns.map V.int)) (k : ∀ st H', H st = none → Same H H' → St H' st a → Q (.ref st) H') : spStart K [.ref a] H Q E := ⟨a, ns, rfl, hS, k⟩
def spLaw (K : PySem.W.Frag) : Sp := fun vs H Q _ => ∃ (a : Addr) (ns : List Int), vs = [.ref a] ∧ SqL K H a (ns.map V.int) ∧ ns.length ≤ 63 ∧ ∀ H', Q (.bl true) H'
theorem ok_law_start (F : FunAt K mg "_law_start" s_law_start) : Has P w K mg base CX0 1 "_law_start" (spStart K) := by
  refine F.ok sc_law_start bo_law_start (fun vs H Q E h => ?_) (fun f cdv A outer s H vs Q E hr h => ?_)
  · obtain ⟨a, ns, rfl, _⟩ := h
    rfl
  · obtain ⟨a, ns, rfl, hS, k⟩ := h
    refine ⟨_, (pss_cons (ps_set (i := 1) sc_law_start.nd rfl (by first | exact Or.inl rfl | exact Or.inr rfl) pe_int)
 (pss_cons (ps_for PassesOwn.never rfl (kpi_list (K := K) rfl (pv 0)) (pg_name (i := 2) sc_law_start.nd rfl (by first | exact Or.inl rfl | exact Or.inr rfl)) (pss_one (ps_set (i := 1) sc_law_start.nd rfl (by first | exact Or.inl rfl | exact Or.inr rfl) (pe_op op_mod (pe_op (kop_add (K := K) rfl) (pe_op (kop_add (K := K) rfl) (pe_op op_mul (pv 1) pe_int) (pv 2)) pe_int) pe_int))))
 (pss_one (ps_ret (pe_lst (pa_cons (pv 0) (pa_cons pe_int (pa_cons (pv 1) (pa_cons pe_int pa_nil))))))))), ?_⟩
    refine r_start (σ' := [some (.ref a), none, none]) rfl ?_
    walk_at "go"
    refine ⟨_, rfl, ⟨_, hS⟩, fw_list (K := K) (a := a) (xs := ns.map V.int) (fun i σ H2 => H2 = H ∧ ∃ m v, σ = [some (.ref a), some (.int m), v] ∧ 0 ≤ m ∧ m < 2147483647) ⟨rfl, 1, none, rfl, by decide, by decide⟩ (fun i σ H2 _ h => h.1 ▸ hS) ?_ ?_⟩
    · rintro i y σ H2 hi ⟨rfl, m, v, rfl, h0, h1⟩
      obtain ⟨z, hz, rfl⟩ := map_at hi
      walk_at "go"
      refine r_I (.inl ⟨by omega, by omega⟩) ?_
      walk_at "go"
      refine r_I (by decide) ?_
      walk_at "go"
      exact ⟨rfl, _, _, rfl, Int.emod_nonneg _ (by decide), Int.emod_lt_of_pos _ (by decide)⟩
    · rintro σ H2 ⟨rfl, m, v, rfl, h0, h1⟩
      walk_at "go"
      intro p np
      walk_at "go"
      exact k p _ np (same_new np) ⟨_, _, _, upd_same, by omega, h0, h1, by omega⟩
def spDrawn (K : PySem.W.Frag) : Sp := fun vs H Q _ => ∃ (st a : Addr) (ns : List Int) (many : Int), vs = [.ref st, .int many] ∧ St H st a ∧ SqL K H a (ns.map V.int) ∧ 0 < many ∧ many.natAbs < 2 ^ 200 ∧
  ∀ (v : Int) (H' : Hp), 0 ≤ v → v < many → St H' st a → Fr H H' → Q (.int v) H'
theorem spDrawn_i {st a : Addr} {ns : List Int} {many : Int} {H : Hp} {Q : VK} {E : XK} (s : St H st a) (hS : SqL K H a (ns.map V.int)) (h0 : 0 < many) (h1 : many.natAbs < 2 ^ 200)
    (k : ∀ (v : Int) (H' : Hp), 0 ≤ v → v < many → St H' st a → Fr H H' → Q (.int v) H') : spDrawn K [.ref st, .int many] H Q E := ⟨st, a, ns, many, rfl, s, hS, h0, h1, k⟩
theorem ok_law_drawn (B : Bl mg) (F : FunAt K mg "_law_drawn" s_law_drawn) : Has P w K mg base CX0 1 "_law_drawn" (spDrawn K) := by
  refine F.ok sc_law_drawn bo_law_drawn (fun vs H Q E h => ?_) (fun f cdv A outer s H vs Q E hr h => ?_)
  · obtain ⟨st, a, ns, many, rfl, _⟩ := h
    rfl
  · obtain ⟨st, a, ns, many, rfl, hs, hS, h0, h1, k⟩ := h
    obtain ⟨i, m, r, hst, hi, hm0, hm1, hr0⟩ := hs.ex
    have wd : CDivW 0 many := wide_div h0 h1 (by decide) (by decide)
    refine ⟨_, (pss_cons (ps_if (pt_cmpR op_gt (pe_ix (kix (K := K) rfl) (pv 0) pe_int (fun _ _ => rfl)) pe_int (nomark _)) (pss_cons (ps_set (i := 2) sc_law_drawn.nd rfl (by first | exact Or.inl rfl | exact Or.inr rfl) (pe_op op_mod (pe_ix (kix (K := K) rfl) (pv 0) pe_int (fun _ _ => rfl)) (pv 1)))
 (pss_cons (ps_asg (pe_op op_fdivW (pe_ix (kix (K := K) rfl) (pv 0) pe_int (fun _ _ => rfl)) (pv 1)) (pg_sub (pv 0) pe_int set_list))
 (pss_one (ps_ret (pv 2))))) pss_nil)
 (pss_cons (ps_asg (pe_op (kop_add (K := K) rfl) (pe_ix (kix (K := K) rfl) (pv 0) pe_int (fun _ _ => rfl)) pe_int) (pg_sub (pv 0) pe_int set_list))
 (pss_cons (ps_if (pt_cmpR op_le (pe_ix (kix (K := K) rfl) (pv 0) pe_int (fun _ _ => rfl)) (pe_callB (kc_len (K := K) rfl) rfl B.len (by decide +kernel) (pa_cons (pe_ix (kix (K := K) rfl) (pv 0) pe_int (fun _ _ => rfl)) pa_nil)) (nomark _)) (pss_cons (ps_set (i := 3) sc_law_drawn.nd rfl (by first | exact Or.inl rfl | exact Or.inr rfl) (pe_ix (kix (K := K) rfl) (pe_ix (kix (K := K) rfl) (pv 0) pe_int (fun _ _ => rfl)) (pe_op op_sub (pe_ix (kix (K := K) rfl) (pv 0) pe_int (fun _ _ => rfl)) pe_int) (fun _ _ => rfl)))
 (pss_cons (ps_asg (pe_ifExp (pt_cmpR op_ge (pv 3) (pe_op op_pow pe_int pe_int) (nomark _)) (pe_op op_fdivW (pv 3) (pv 1)) pe_int) (pg_sub (pv 0) pe_int set_list))
 (pss_one (ps_ret (pe_op op_mod (pv 3) (pv 1)))))) pss_nil)
 (pss_cons (ps_asg (pe_op op_mod (pe_op (kop_add (K := K) rfl) (pe_op op_mul (pe_ix (kix (K := K) rfl) (pv 0) pe_int (fun _ _ => rfl)) pe_int) pe_int) pe_int) (pg_sub (pv 0) pe_int set_list))
 (pss_one (ps_ret (pe_op op_mod (pe_op op_fdivW (pe_ix (kix (K := K) rfl) (pv 0) pe_int (fun _ _ => rfl)) pe_int) (pv 1)))))))), ?_⟩
    refine r_start (σ' := [some (.ref st), some (.int many), none, none]) rfl ?_
    have wr : ∀ {H1 H2 : Hp} {i m r : Int}, H1 st = some (.lst [.ref a, .int i, .int m, .int r]) → (∀ b o, b ≠ st → H1 b = some o → H2 b = some o) → Fr H1 H2 := fun e w b o q n => w b o (fun z => by subst z; rw [e] at q; cases q; exact n _ _ _ _ rfl) q
    walk_at "go"
    refine iteD (fun hp => ?_) (fun hp => ?_)
    · walk_at "go"
      refine r_I h0 ?_
      walk_at "go"
      refine r_I (show CDivW r many from wd) ?_
      walk_at "go"
      refine r_setA (j := 3) hst rfl rfl fun H1 e1 w1 => ?_
      walk_at "go"
      exact k _ _ (Int.emod_nonneg _ (by omega)) (Int.emod_lt_of_pos _ h0) ⟨_, _, _, e1, hi, hm0, hm1, Int.ediv_nonneg hr0 (by omega)⟩ (wr hst w1)
    · walk_at "go"
      refine r_setA (j := 1) hst rfl rfl fun H1 hst1 w1 => ?_
      have R1 := wr hst w1
      have hS1 := fr_sq R1 hS
      walk_at "go"
      rw [List.length_map]
      refine iteD (fun hl => ?_) (fun hl => ?_)
      · walk_at "go"
        have hlt : i.toNat < ns.length := by omega
        refine r_ix (.inl hS1) (at_of (j := i.toNat) (by omega) (by rw [List.getElem?_map, List.getElem?_eq_getElem hlt]; rfl)) ?_
        walk_at "go"
        have fin : ∀ (r' : Int) (H2 : Hp), 0 ≤ r' → H2 st = some (.lst [.ref a, .int (i + 1), .int m, .int r']) → (∀ b o, b ≠ st → H1 b = some o → H2 b = some o) → Q (.int (ns[i.toNat] % many)) H2 := fun r' H2 hr' e2 w2 =>
          k _ _ (Int.emod_nonneg _ (by omega)) (Int.emod_lt_of_pos _ h0) ⟨_, _, _, e2, by omega, hm0, hm1, hr'⟩ (R1.trans (wr hst1 w2))
        refine iteD (fun hc => ?_) (fun hc => ?_)
        · walk_at "go"
          refine r_I (show CDivW _ many from wd) ?_
          walk_at "go"
          refine r_setA (j := 3) hst1 rfl rfl fun H2 e2 w2 => ?_
          walk_at "go"
          refine r_I h0 ?_
          walk_at "go"
          refine fin _ H2 (Int.ediv_nonneg ?_ (by omega)) e2 w2
          have : (0 : Int) ≤ 10 ^ (18 : Int).toNat := by decide
          omega
        · walk_at "go"
          refine r_setA (j := 3) hst1 rfl rfl fun H2 e2 w2 => ?_
          walk_at "go"
          refine r_I h0 ?_
          walk_at "go"
          exact fin 0 H2 (by omega) e2 w2
      · walk_at "go"
        refine r_I (.inl ⟨by omega, by omega⟩) ?_
        walk_at "go"
        refine r_I (by decide) ?_
        walk_at "go"
        refine r_setA (j := 2) hst1 rfl rfl fun H2 e2 w2 => ?_
        walk_at "go"
        refine r_I ⟨by decide, by decide +kernel⟩ ?_
        walk_at "go"
        refine r_I h0 ?_
        walk_at "go"
        exact k _ _ (Int.emod_nonneg _ (by omega)) (Int.emod_lt_of_pos _ h0) ⟨_, _, _, e2, by omega, Int.emod_nonneg _ (by decide), Int.emod_lt_of_pos _ (by decide), hr0⟩ (R1.trans (wr hst1 w2))
end
end Rd

namespace Rd
open PySem L2
section
variable {P : Program} {w : World} {K : PySem.W.Frag} {mg : Str → Option Value} {base : Heap}
theorem e6 : (10 : Int) ^ (6 : Int).toNat = 1000000 := by decide
theorem e29 : (10 : Int) ^ (29 : Int).toNat = 100000000000000000000000000000 := by decide
theorem small200 {m : Int} (h0 : 0 ≤ m) (h1 : m ≤ 1000000000000000000000000000000) : m.natAbs < 2 ^ 200 := by omega
def spGear (K : PySem.W.Frag) : Sp := fun vs H Q _ => ∃ (st a : Addr) (ns : List Int) (b : Bool), vs = [.ref st, .bl b] ∧ St H st a ∧ SqL K H a (ns.map V.int) ∧
  ∀ (g : Addr) (r p : Int) (H' : Hp), 2 ≤ r → r ≤ 1000000 → 0 ≤ p → p ≤ 1000000 → (b = true → r ≤ 8 ∧ p ≤ 4) → St H' st a → Fr H H' → H' g = some (.tup [.int r, .int p]) → Q (.ref g) H'
theorem spGear_i {st a : Addr} {ns : List Int} {b : Bool} {H : Hp} {Q : VK} {E : XK} (s : St H st a) (hS : SqL K H a (ns.map V.int))
    (k : ∀ (g : Addr) (r p : Int) (H' : Hp), 2 ≤ r → r ≤ 1000000 → 0 ≤ p → p ≤ 1000000 → (b = true → r ≤ 8 ∧ p ≤ 4) → St H' st a → Fr H H' → H' g = some (.tup [.int r, .int p]) → Q (.ref g) H') : spGear K [.ref st, .bl b] H Q E := ⟨st, a, ns, b, rfl, s, hS, k⟩
theorem ok_law_gear (B : Bl mg) (F : FunAt K mg "_law_gear" s_law_gear) (H_law_drawn : Has P w K mg base CX0 1 "_law_drawn" (spDrawn K)) : Has P w K mg base CX0 2 "_law_gear" (spGear K) := by
  refine F.ok sc_law_gear bo_law_gear (fun vs H Q E h => ?_) (fun f cdv A outer s H vs Q E hr h => ?_)
  · obtain ⟨st, a, ns, b, rfl, _⟩ := h
    rfl
  · obtain ⟨st, a, ns, b, rfl, hs, hS, k⟩ := h
    refine ⟨_, (pss_cons (ps_set (i := 2) sc_law_gear.nd rfl (by first | exact Or.inl rfl | exact Or.inr rfl) (pe_ix (kix (K := K) rfl) (pe_lst (pa_cons pe_int (pa_cons pe_int pa_nil))) (pe_callTy call_intA rfl B.int (by decide +kernel) (pa_cons (pv 1) pa_nil)) (fun _ _ => rfl)))
 (pss_cons (ps_set (i := 3) sc_law_gear.nd rfl (by first | exact Or.inl rfl | exact Or.inr rfl) (pe_op (kop_add (K := K) rfl) pe_int (pe_has H_law_drawn hr (by omega) rfl pass0 (pa_cons (pv 0) (pa_cons (pe_ix (kix (K := K) rfl) (pe_lst (pa_cons pe_int (pa_cons pe_int (pa_cons pe_int (pa_cons (pe_op op_sub (pe_op op_pow pe_int pe_int) pe_int) pa_nil))))) (pe_has H_law_drawn hr (by omega) rfl pass0 (pa_cons (pv 0) (pa_cons (pv 2) pa_nil))) (fun _ _ => rfl)) pa_nil)))))
 (pss_cons (ps_set (i := 4) sc_law_gear.nd rfl (by first | exact Or.inl rfl | exact Or.inr rfl) (pe_lst (pa_cons pe_int (pa_cons (pe_has H_law_drawn hr (by omega) rfl pass0 (pa_cons (pv 0) (pa_cons pe_int pa_nil))) (pa_cons (pe_has H_law_drawn hr (by omega) rfl pass0 (pa_cons (pv 0) (pa_cons (pe_ix (kix (K := K) rfl) (pe_lst (pa_cons pe_int (pa_cons pe_int (pa_cons pe_int (pa_cons (pe_op (kop_add (K := K) rfl) (pe_op op_pow pe_int pe_int) pe_int) pa_nil))))) (pe_has H_law_drawn hr (by omega) rfl pass0 (pa_cons (pv 0) (pa_cons (pv 2) pa_nil))) (fun _ _ => rfl)) pa_nil))) pa_nil)))))
 (pss_one (ps_ret (pe_tup (pa_cons (pv 3) (pa_cons (pe_ix (kix (K := K) rfl) (pv 4) (pe_has H_law_drawn hr (by omega) rfl pass0 (pa_cons (pv 0) (pa_cons pe_int pa_nil))) (fun _ _ => rfl)) pa_nil)))))))), ?_⟩
    refine r_start (σ' := [some (.ref st), some (.bl b), none, none, none]) rfl ?_
    walk_at "go"
    intro p1 n1
    walk_at "go"
    -- sorts
    obtain ⟨so, eso, hso⟩ : ∃ so : Int, atI [V.int 4, V.int 2] (if b = true then 1 else 0) = some (.int so) ∧ (so = 4 ∧ b = false ∨ so = 2 ∧ b = true) := by
      cases b
      · exact ⟨4, rfl, .inl ⟨rfl, rfl⟩⟩
      · exact ⟨2, rfl, .inr ⟨rfl, rfl⟩⟩
    refine r_ix (by walk_at "sq") eso ?_
    walk_at "go"
    -- around
    intro p2 n2
    walk_at "go"
    refine spDrawn_i (by walk_at "ss") (by walk_at "sq") (by omega) (small200 (by omega) (by omega)) fun v1 H1 a1 b1 s1 R1 => ?_
    walk_at "go"
    obtain ⟨w1, ew1, hw1⟩ := pick4 7 7 60 (10 ^ (6 : Int).toNat - 1) a1 (by omega)
    rw [e6] at hw1
    refine r_ix (by walk_at "sq") ew1 ?_
    walk_at "go"
    refine spDrawn_i s1 (by walk_at "sq") (by omega) (small200 (by omega) (by omega)) fun v2 H2 a2 b2 s2 R2 => ?_
    walk_at "go"
    refine spDrawn_i s2 (by walk_at "sq") (by omega) (by decide) fun v3 H3 a3 b3 s3 R3 => ?_
    walk_at "go"
    intro p4 n4
    walk_at "go"
    refine spDrawn_i (by walk_at "ss") (by walk_at "sq") (by omega) (small200 (by omega) (by omega)) fun v4 H4 a4 b4 s4 R4 => ?_
    walk_at "go"
    obtain ⟨w2, ew2, hw2⟩ := pick4 5 5 60 (10 ^ (6 : Int).toNat + 1) a4 (by omega)
    rw [e6] at hw2
    refine r_ix (by walk_at "sq") ew2 ?_
    walk_at "go"
    refine spDrawn_i s4 (by walk_at "sq") (by omega) (small200 (by omega) (by omega)) fun v5 H5 a5 b5 s5 R5 => ?_
    walk_at "go"
    intro p6 n6
    walk_at "go"
    refine spDrawn_i (by walk_at "ss") (by walk_at "sq") (by omega) (by decide) fun v6 H6 a6 b6 s6 R6 => ?_
    obtain ⟨pl, epl, mpl⟩ := pick3 0 v3 v5 a6 (by omega)
    refine r_ix (by walk_at "sq") epl ?_
    walk_at "go"
    intro g ng
    walk_at "go"
    refine k g _ _ _ (by omega) (by omega) (by omega) (by omega) (fun hb => ?_) (by walk_at "ss") (by walk_at "fr") upd_same
    rcases hso with ⟨_, q⟩ | ⟨q, _⟩
    · rw [q] at hb
      cases hb
    · omega
def spStanding (K : PySem.W.Frag) : Sp := fun vs H Q _ => ∃ (st a : Addr) (ns : List Int) (g : Addr) (r p : Int), vs = [.ref st, .ref g] ∧ St H st a ∧ SqL K H a (ns.map V.int) ∧ H g = some (.tup [.int r, .int p]) ∧ 0 ≤ p ∧ p ≤ 1000000 ∧
  ∀ (z : Addr) (m s : Int) (H' : Hp), m - p ≤ s → s ≤ m → -100000000000000000000000000000 ≤ m → m ≤ 100000000000000000000000000000 → St H' st a → Fr H H' → H' z = some (.tup [.int m, .int s]) → Q (.ref z) H'
theorem spStanding_i {st a g : Addr} {ns : List Int} {r p : Int} {H : Hp} {Q : VK} {E : XK} (s : St H st a) (hS : SqL K H a (ns.map V.int)) (hg : H g = some (.tup [.int r, .int p])) (h0 : 0 ≤ p) (h1 : p ≤ 1000000)
    (k : ∀ (z : Addr) (m s : Int) (H' : Hp), m - p ≤ s → s ≤ m → -100000000000000000000000000000 ≤ m → m ≤ 100000000000000000000000000000 → St H' st a → Fr H H' → H' z = some (.tup [.int m, .int s]) → Q (.ref z) H') : spStanding K [.ref st, .ref g] H Q E := ⟨st, a, ns, g, r, p, rfl, s, hS, hg, h0, h1, k⟩
theorem ok_law_standing (B : Bl mg) (F : FunAt K mg "_law_standing" s_law_standing) (H_law_drawn : Has P w K mg base CX0 1 "_law_drawn" (spDrawn K)) : Has P w K mg base CX0 2 "_law_standing" (spStanding K) := by
  refine F.ok sc_law_standing bo_law_standing (fun vs H Q E h => ?_) (fun f cdv A outer s H vs Q E hr h => ?_)
  · obtain ⟨st, a, ns, g, r, p, rfl, _⟩ := h
    rfl
  · obtain ⟨st, a, ns, g, r, p, rfl, hs, hS, hg, hp0, hp1, k⟩ := h
    refine ⟨_, (pss_cons (ps_set (i := 2) sc_law_standing.nd rfl (by first | exact Or.inl rfl | exact Or.inr rfl) (pe_ix (kix (K := K) rfl) (pe_lst (pa_cons pe_int (pa_cons pe_int (pa_cons (pe_op op_pow pe_int pe_int) pa_nil)))) (pe_has H_law_drawn hr (by omega) rfl pass0 (pa_cons (pv 0) (pa_cons pe_int pa_nil))) (fun _ _ => rfl)))
 (pss_cons (ps_set (i := 3) sc_law_standing.nd rfl (by first | exact Or.inl rfl | exact Or.inr rfl) (pe_op op_sub (pe_has H_law_drawn hr (by omega) rfl pass0 (pa_cons (pv 0) (pa_cons (pv 2) pa_nil))) (pe_op op_mul (pe_has H_law_drawn hr (by omega) rfl pass0 (pa_cons (pv 0) (pa_cons pe_int pa_nil))) (pv 2))))
 (pss_one (ps_ret (pe_tup (pa_cons (pv 3) (pa_cons (pe_op op_sub (pv 3) (pe_ix (kix (K := K) rfl) (pe_lst (pa_cons pe_int (pa_cons (pe_ix (kix (K := K) rfl) (pv 1) pe_int (fun _ _ => rfl)) (pa_cons (pe_has H_law_drawn hr (by omega) rfl pass0 (pa_cons (pv 0) (pa_cons (pe_op (kop_add (K := K) rfl) (pe_ix (kix (K := K) rfl) (pv 1) pe_int (fun _ _ => rfl)) pe_int) pa_nil))) pa_nil)))) (pe_has H_law_drawn hr (by omega) rfl pass0 (pa_cons (pv 0) (pa_cons pe_int pa_nil))) (fun _ _ => rfl))) pa_nil))))))), ?_⟩
    refine r_start (σ' := [some (.ref st), some (.ref g), none, none]) rfl ?_
    walk_at "go"
    intro p1 n1
    walk_at "go"
    refine spDrawn_i (by walk_at "ss") (by walk_at "sq") (by omega) (by decide) fun v1 H1 a1 b1 s1 R1 => ?_
    obtain ⟨far, e1, m1⟩ := pick3 10 1000 (10 ^ (29 : Int).toNat) a1 (by omega)
    rw [e29] at m1
    refine r_ix (by walk_at "sq") e1 ?_
    walk_at "go"
    refine spDrawn_i s1 (by walk_at "sq") (by omega) (small200 (by omega) (by omega)) fun v2 H2 a2 b2 s2 R2 => ?_
    walk_at "go"
    refine spDrawn_i s2 (by walk_at "sq") (by omega) (by decide) fun v3 H3 a3 b3 s3 R3 => ?_
    walk_at "go"
    refine r_I (.inl ⟨by omega, by omega⟩) ?_
    walk_at "go"
    refine spDrawn_i s3 (by walk_at "sq") (by omega) (small200 (by omega) (by omega)) fun v4 H4 a4 b4 s4 R4 => ?_
    walk_at "go"
    intro p5 n5
    walk_at "go"
    refine spDrawn_i (by walk_at "ss") (by walk_at "sq") (by omega) (by decide) fun v5 H5 a5 b5 s5 R5 => ?_
    obtain ⟨o, e5, m5⟩ := pick3 0 p v4 a5 (by omega)
    refine r_ix (by walk_at "sq") e5 ?_
    walk_at "go"
    intro z nz
    walk_at "go"
    have hv : 0 ≤ v3 * far ∧ v3 * far ≤ far := by
      have : v3 = 0 ∨ v3 = 1 := by omega
      rcases this with rfl | rfl <;> omega
    exact k z _ _ _ (by omega) (by omega) (by omega) (by omega) (by walk_at "ss") (by walk_at "fr") upd_same
def spMoves (K : PySem.W.Frag) : Sp := fun vs H Q _ => ∃ (st a : Addr) (ns : List Int) (g : Addr) (r p most : Int), vs = [.ref st, .ref g, .int most] ∧ St H st a ∧ SqL K H a (ns.map V.int) ∧ H g = some (.tup [.int r, .int p]) ∧ 0 < r ∧ r ≤ 1000000 ∧ 0 ≤ p ∧ p ≤ 1000000 ∧ 0 ≤ most ∧ most ≤ 1000 ∧
  ∀ (l : Addr) (ms : List Int) (H' : Hp), ms.length ≤ most.toNat → (∀ m ∈ ms, -100000000000000000000000000000 ≤ m ∧ m ≤ 100000000000000000000000000000) → St H' st a → Fr H H' → H' l = some (.lst (ms.map V.int)) → H l = none → Q (.ref l) H'
theorem spMoves_i {st a g : Addr} {ns : List Int} {r p most : Int} {H : Hp} {Q : VK} {E : XK} (s : St H st a) (hS : SqL K H a (ns.map V.int)) (hg : H g = some (.tup [.int r, .int p])) (r0 : 0 < r) (r1 : r ≤ 1000000) (h0 : 0 ≤ p) (h1 : p ≤ 1000000) (m0 : 0 ≤ most) (m1 : most ≤ 1000)
    (k : ∀ (l : Addr) (ms : List Int) (H' : Hp), ms.length ≤ most.toNat → (∀ m ∈ ms, -100000000000000000000000000000 ≤ m ∧ m ≤ 100000000000000000000000000000) → St H' st a → Fr H H' → H' l = some (.lst (ms.map V.int)) → H l = none → Q (.ref l) H') : spMoves K [.ref st, .ref g, .int most] H Q E := ⟨st, a, ns, g, r, p, most, rfl, s, hS, hg, r0, r1, h0, h1, m0, m1, k⟩
theorem ok_law_moves (B : Bl mg) (F : FunAt K mg "_law_moves" s_law_moves) (H_law_drawn : Has P w K mg base CX0 1 "_law_drawn" (spDrawn K)) : Has P w K mg base CX0 2 "_law_moves" (spMoves K) := by
  refine F.ok sc_law_moves bo_law_moves (fun vs H Q E h => ?_) (fun f cdv A outer s H vs Q E hr h => ?_)
  · obtain ⟨st, a, ns, g, r, p, most, rfl, _⟩ := h
    rfl
  · obtain ⟨st, a, ns, g, r, p, most, rfl, hs, hS, hg, hr0, hr1, hp0, hp1, hm0, hm1, k⟩ := h
    refine ⟨_, (pss_cons (ps_set (i := 3) sc_law_moves.nd rfl (by first | exact Or.inl rfl | exact Or.inr rfl) (pe_lst pa_nil))
 (pss_cons (ps_for PassesOwn.never rfl (pi_range1 rfl B.range (pa_cons (pe_has H_law_drawn hr (by omega) rfl pass0 (pa_cons (pv 0) (pa_cons (pe_op (kop_add (K := K) rfl) (pv 2) pe_int) pa_nil))) pa_nil)) (pg_name (i := 4) sc_law_moves.nd rfl (by first | exact Or.inl rfl | exact Or.inr rfl)) (pss_cons (ps_set (i := 5) sc_law_moves.nd rfl (by first | exact Or.inl rfl | exact Or.inr rfl) (pe_lst (pa_cons (pe_has H_law_drawn hr (by omega) rfl pass0 (pa_cons (pv 0) (pa_cons pe_int pa_nil))) (pa_cons (pe_has H_law_drawn hr (by omega) rfl pass0 (pa_cons (pv 0) (pa_cons (pe_op (kop_add (K := K) rfl) (pe_ix (kix (K := K) rfl) (pv 1) pe_int (fun _ _ => rfl)) pe_int) pa_nil))) (pa_cons (pe_has H_law_drawn hr (by omega) rfl pass0 (pa_cons (pv 0) (pa_cons (pe_op op_mul pe_int (pe_ix (kix (K := K) rfl) (pv 1) pe_int (fun _ _ => rfl))) pa_nil))) pa_nil)))))
 (pss_cons (ps_set (i := 5) sc_law_moves.nd rfl (by first | exact Or.inl rfl | exact Or.inr rfl) (pe_ix (kix (K := K) rfl) (pv 5) (pe_has H_law_drawn hr (by omega) rfl pass0 (pa_cons (pv 0) (pa_cons pe_int pa_nil))) (fun _ _ => rfl)))
 (pss_cut (ps_if (pt_cmpR (kop_eq (K := K) rfl hr.units) (pe_has H_law_drawn hr (by omega) rfl pass0 (pa_cons (pv 0) (pa_cons pe_int pa_nil))) pe_int (nomark _)) (pss_one (ps_set (i := 5) sc_law_moves.nd rfl (by first | exact Or.inl rfl | exact Or.inr rfl) (pe_has H_law_drawn hr (by omega) rfl pass0 (pa_cons (pv 0) (pa_cons (pe_op op_pow pe_int pe_int) pa_nil))))) pss_nil)
 (pss_one (ps_expr (kpe_bm (K := K) rfl PySem.F.plainAttrs_list PySem.F.slot_list_append PySem.F.type_list_append mt_append (pv 3) (pa_cons (pe_ix (kix (K := K) rfl) (pe_lst (pa_cons (pv 5) (pa_cons (pe_op op_sub pe_int (pv 5)) pa_nil))) (pe_has H_law_drawn hr (by omega) rfl pass0 (pa_cons (pv 0) (pa_cons pe_int pa_nil))) (fun _ _ => rfl)) pa_nil))))))))
 (pss_one (ps_ret (pv 3))))), ?_⟩
    refine r_start (σ' := [some (.ref st), some (.ref g), some (.int most), none, none, none]) rfl ?_
    walk_at "go"
    intro l nl
    walk_at "go"
    refine spDrawn_i (by walk_at "ss") (by walk_at "sq") (by omega) (small200 (by omega) (by omega)) fun n H0 a0 b0 s0 R0 => ?_
    have f0 : Fr H H0 := by walk_at "fr"
    refine ⟨_, rfl, by omega, by omega, fw_range (fun i σ H2 => ∃ (ms : List Int) (u v : Option V), σ = [some (.ref st), some (.ref g), some (.int most), some (.ref l), u, v] ∧ ms.length = i ∧ (∀ m ∈ ms, -100000000000000000000000000000 ≤ m ∧ m ≤ 100000000000000000000000000000) ∧ St H2 st a ∧ Fr H H2 ∧ H2 l = some (.lst (ms.map V.int)))
      ⟨[], none, none, rfl, rfl, by simp, s0, f0, R0 _ _ upd_same nst_nil⟩ ?_ ?_⟩
    · rintro i σ H2 hi ⟨ms, u, v, rfl, hlen, hms, s2, f2, hl⟩
      walk_at "go"
      refine spDrawn_i s2 (by walk_at "sq") (by omega) (by decide) fun v1 H3 a1 b1 s3 R3 => ?_
      walk_at "go"
      refine spDrawn_i s3 (by walk_at "sq") (by omega) (small200 (by omega) (by omega)) fun v2 H4 a2 b2 s4 R4 => ?_
      walk_at "go"
      refine r_I (.inl ⟨by omega, by omega⟩) ?_
      walk_at "go"
      refine spDrawn_i s4 (by walk_at "sq") (by omega) (small200 (by omega) (by omega)) fun v3 H5 a3 b3 s5 R5 => ?_
      walk_at "go"
      intro p6 n6
      walk_at "go"
      refine spDrawn_i (by walk_at "ss") (by walk_at "sq") (by omega) (by decide) fun v6 H6 a6 b6 s6 R6 => ?_
      obtain ⟨sz, e6, m6⟩ := pick3 v1 v2 v3 a6 (by omega)
      refine r_ix (by walk_at "sq") e6 ?_
      walk_at "go"
      refine r_cut (fun σ' H' => ∃ sz' : Int, σ' = [some (.ref st), some (.ref g), some (.int most), some (.ref l), some (.int (0 + i)), some (.int sz')] ∧ 0 ≤ sz' ∧ sz' ≤ 100000000000000000000000000000 ∧ St H' st a ∧ Fr H H' ∧ H' l = some (.lst (ms.map V.int))) ?_ ?_
      · walk_at "go"
        refine spDrawn_i s6 (by walk_at "sq") (by omega) (by decide) fun v7 H7 a7 b7 s7 R7 => ?_
        walk_at "go"
        refine iteD (fun _ => ?_) (fun _ => ?_)
        · walk_at "go"
          refine spDrawn_i s7 (by walk_at "sq") (by rw [e29]; omega) (by rw [e29]; decide) fun v8 H8 a8 b8 s8 R8 => ?_
          rw [e29] at b8
          walk_at "go"
          exact ⟨v8, rfl, by omega, by omega, s8, by walk_at "fr", by walk_at "hp"⟩
        · walk_at "go"
          exact ⟨sz, rfl, by omega, by omega, s7, by walk_at "fr", by walk_at "hp"⟩
      · rintro σ' H9 ⟨sz', rfl, hz0, hz1, s9, f9, hl9⟩
        walk_at "go"
        refine ⟨r_tyL hl9, ?_⟩
        walk_at "go"
        intro p10 n10
        walk_at "go"
        refine spDrawn_i (by walk_at "ss") (by walk_at "sq") (by omega) (by decide) fun v11 H11 a11 b11 s11 R11 => ?_
        obtain ⟨z, e11, m11⟩ := pick2 sz' (0 - sz') a11 (by omega)
        refine r_ix (by walk_at "sq") e11 ?_
        walk_at "go"
        have hl11 : H11 l = some (.lst (ms.map V.int)) := by walk_at "hp"
        refine r_appA hl11 (by rw [List.length_map]; exact small1000 (by omega)) fun H12 e12 w12 => ?_
        walk_at "go"
        have ne : st ≠ l := s11.ne hl11 nst_ints
        obtain ⟨i', m', r', hst, q⟩ := s11.ex
        refine ⟨ms ++ [z], _, _, rfl, by simp [hlen], fun x hx => ?_, ⟨i', m', r', w12 _ _ ne hst, q⟩, fun b o e n => ?_, by rw [e12]; simp⟩
        · simp at hx
          rcases hx with hx | rfl
          · exact hms x hx
          · omega
        · have nb : b ≠ l := ne_of_none e nl
          have : Fr H H11 := by walk_at "fr"
          exact w12 _ _ nb (this _ _ e n)
    · rintro σ H2 ⟨ms, u, v, rfl, hlen, hms, s2, f2, hl⟩
      walk_at "go"
      exact k l ms H2 (by omega) hms s2 f2 hl nl
end
end Rd

namespace Rd
/-! ## the shaft: plain -/
/-- where the shaft stands behind k steps, as the program reckons it -/
def pb (p m s k : Int) : Int := min (m + k) (max (m + k - p) s)
/-- .. as the law does -/
def lb (p m s k : Int) : Int := if 0 < k then s + max 0 (k - (p - (m - s))) else s + min 0 (k + (m - s))
theorem lb_pb {p m s k : Int} (h0 : m - p ≤ s) (h1 : s ≤ m) : lb p m s k = pb p m s k := by
  unfold lb pb
  split <;> omega
def nx (p : Int) (z : Int × Int) (k : Int) : Int × Int := (z.1 + k, pb p z.1 z.2 k)
def pos (p : Int) (z : Int × Int) (ks : List Int) : Int × Int := ks.foldl (nx p) z
def traj (p : Int) : Int × Int → List Int → List (Int × Int)
  | _, [] => []
  | z, k :: r => nx p z k :: traj p (nx p z k) r
theorem pos_snoc (p : Int) (z : Int × Int) (ks : List Int) (k : Int) : pos p z (ks ++ [k]) = nx p (pos p z ks) k := by
  unfold pos
  rw [List.foldl_append]
  rfl
theorem pos_app (p : Int) (z : Int × Int) (ks ls : List Int) : pos p z (ks ++ ls) = pos p (pos p z ks) ls := by
  unfold pos
  rw [List.foldl_append]
theorem traj_snoc (p : Int) : ∀ (ks : List Int) (z : Int × Int) (k : Int), traj p z (ks ++ [k]) = traj p z ks ++ [nx p (pos p z ks) k]
  | [], _, _ => rfl
  | _ :: r, z, k => by
    show _ :: traj p _ (r ++ [k]) = _ :: (traj p _ r ++ _)
    rw [traj_snoc p r]
    rfl
theorem traj_len (p : Int) : ∀ (ks : List Int) (z : Int × Int), (traj p z ks).length = ks.length
  | [], _ => rfl
  | _ :: r, z => by
    show _ + 1 = _ + 1
    rw [traj_len p r]
theorem traj_last (p : Int) : ∀ (ks : List Int) (z : Int × Int), (z :: traj p z ks)[ks.length]? = some (pos p z ks)
  | [], _ => rfl
  | k :: r, z => traj_last p r (nx p z k)
/-- a standing of a gear of the play p -/
def Stg (p : Int) (z : Int × Int) : Prop := z.1 - p ≤ z.2 ∧ z.2 ≤ z.1
theorem Stg.nx {p : Int} {z : Int × Int} (h : Stg p z) (hp : 0 ≤ p) (k : Int) : Stg p (Rd.nx p z k) := by
  obtain ⟨a, b⟩ := h
  unfold Stg Rd.nx pb
  dsimp only
  omega
theorem Stg.pos {p : Int} (hp : 0 ≤ p) : ∀ {ks : List Int} {z : Int × Int}, Stg p z → Stg p (Rd.pos p z ks)
  | [], _, h => h
  | k :: r, z, h => Stg.pos hp (ks := r) (h.nx hp k)
theorem take_snoc {α : Type} {l : List α} {i : Nat} {x : α} (h : l[i]? = some x) : l.take (i + 1) = l.take i ++ [x] := by
  rw [List.take_add_one, h]
  rfl
end Rd

namespace Rd
open PySem L2
/-- tuples of two ints at the addresses as -/
def Tups (H : Hp) (as : List Addr) (xs : List (Int × Int)) : Prop := as.length = xs.length ∧ ∀ (i : Nat) (a : Addr) (x : Int × Int), as[i]? = some a → xs[i]? = some x → H a = some (.tup [.int x.1, .int x.2])
theorem Tups.nil {H : Hp} : Tups H [] [] := ⟨rfl, fun i a x h => by simp at h⟩
theorem Tups.mono {H H' : Hp} {as : List Addr} {xs : List (Int × Int)} (t : Tups H as xs) (R : ∀ b xs, H b = some (.tup xs) → H' b = some (.tup xs)) : Tups H' as xs := ⟨t.1, fun i a x h1 h2 => R _ _ (t.2 i a x h1 h2)⟩
theorem Tups.snoc {H : Hp} {as : List Addr} {xs : List (Int × Int)} {a : Addr} {x : Int × Int} (t : Tups H as xs) (h : H a = some (.tup [.int x.1, .int x.2])) : Tups H (as ++ [a]) (xs ++ [x]) := by
  refine ⟨by simp [t.1], fun i b y h1 h2 => ?_⟩
  by_cases hi : i < as.length
  · rw [List.getElem?_append_left hi] at h1
    rw [List.getElem?_append_left (by rw [← t.1]; exact hi)] at h2
    exact t.2 i b y h1 h2
  · rw [List.getElem?_append_right (by omega)] at h1
    rw [List.getElem?_append_right (by rw [← t.1]; omega)] at h2
    have e : i - as.length = 0 := by
      cases q : i - as.length with
      | zero => rfl
      | succ n => rw [q] at h1; simp at h1
    rw [e] at h1
    rw [← t.1, e] at h2
    cases h1
    cases h2
    exact h
theorem Tups.all {H : Hp} : ∀ {as : List Addr} {xs : List (Int × Int)}, Tups H as xs → IsAll H (as.map V.ref) (xs.map dPair)
  | [], [], _ => .nil
  | [], _ :: _, t => nomatch t.1
  | _ :: _, [], t => nomatch t.1
  | a :: as, x :: xs, t => .cons (Is.pair (t.2 0 a x rfl rfl)) (Tups.all ⟨Nat.succ.inj t.1, fun i b y h1 h2 => t.2 (i + 1) b y (by simpa using h1) (by simpa using h2)⟩)
section
variable {P : Program} {w : World} {K : PySem.W.Frag} {mg : Str → Option Value} {base : Heap}
/-- a gear stands at g -/
structure GearAt (H : Hp) (g : Addr) (r p : Int) : Prop where
  at_ : H g = some (.tup [.int r, .int p])
  r2 : 2 ≤ r
  r6 : r ≤ 1000000
  p0 : 0 ≤ p
  p6 : p ≤ 1000000
theorem GearAt.mono {H H' : Hp} {g : Addr} {r p : Int} (G : GearAt H g r p) (h : H' g = some (.tup [.int r, .int p])) : GearAt H' g r p := ⟨h, G.r2, G.r6, G.p0, G.p6⟩
def spNG : Sp := fun vs H Q _ => ∃ (g : Addr) (r p : Int), vs = [.ref g] ∧ GearAt H g r p ∧ Q .non H
theorem spNG_i {g : Addr} {r p : Int} {H : Hp} {Q : VK} {E : XK} (G : GearAt H g r p) (k : Q .non H) : spNG [.ref g] H Q E := ⟨g, r, p, rfl, G, k⟩
theorem ok_need_gear (F : FunAt K mg "need_gear" s_need_gear) (M_MOST : Cn mg "MOST" 1000000) : Has P w K mg base CX0 1 "need_gear" spNG := by
  refine F.ok sc_need_gear bo_need_gear (fun vs H Q E h => ?_) (fun f cdv A outer s H vs Q E hr h => ?_)
  · obtain ⟨g, r, p, rfl, _⟩ := h
    rfl
  · obtain ⟨g, r, p, rfl, G, k⟩ := h
    have hg := G.at_
    have h1 := G.r2
    have h2 := G.r6
    have h3 := G.p0
    have h4 := G.p6
    refine ⟨_, (pss_cons (ps_asg (pv 0) (kpg_tup (K := K) rfl rfl (pgs_cons (pg_name (i := 1) sc_need_gear.nd rfl (by first | exact Or.inl rfl | exact Or.inr rfl)) (pgs_cons (pg_name (i := 2) sc_need_gear.nd rfl (by first | exact Or.inl rfl | exact Or.inr rfl)) pgs_nil))))
 (pss_one (ps_if (PW.pt (pw_or (pt_not (pt_chain op_le op_le pe_int (pv 1) (pe_cn M_MOST rfl))) (pw_or1 (pt_not (pt_chain op_le op_le pe_int (pv 2) (pe_cn M_MOST rfl)))))) (pss_one ps_never) pss_nil))), ?_⟩
    refine r_start (σ' := [some (.ref g), none, none]) rfl ?_
    walk_at "go"
    refine iteDT (by omega) ?_
    walk_at "go"
    refine iteNF (by omega) ?_
    walk_at "go"
    refine iteDT (by omega) ?_
    walk_at "go"
    refine iteNF (by omega) ?_
    walk_at "go"
    exact k
def spNS : Sp := fun vs H Q _ => ∃ (g : Addr) (r p : Int) (z : Addr) (x : Int × Int), vs = [.ref g, .ref z] ∧ GearAt H g r p ∧ H z = some (.tup [.int x.1, .int x.2]) ∧ Stg p x ∧ Q .non H
theorem spNS_i {g z : Addr} {r p : Int} {x : Int × Int} {H : Hp} {Q : VK} {E : XK} (G : GearAt H g r p) (hz : H z = some (.tup [.int x.1, .int x.2])) (hs : Stg p x) (k : Q .non H) : spNS [.ref g, .ref z] H Q E := ⟨g, r, p, z, x, rfl, G, hz, hs, k⟩
theorem ok_need_standing (F : FunAt K mg "need_standing" s_need_standing) (H_need_gear : Has P w K mg base CX0 1 "need_gear" spNG) : Has P w K mg base CX0 2 "need_standing" spNS := by
  refine F.ok sc_need_standing bo_need_standing (fun vs H Q E h => ?_) (fun f cdv A outer s H vs Q E hr h => ?_)
  · obtain ⟨g, r, p, z, x, rfl, _⟩ := h
    rfl
  · obtain ⟨g, r, p, z, x, rfl, G, hz, hs, k⟩ := h
    have hg := G.at_
    obtain ⟨a1, a2⟩ := hs
    refine ⟨_, (pss_cons (ps_expr (pe_has H_need_gear hr (by omega) rfl pass0 (pa_cons (pv 0) pa_nil)))
 (pss_cons (ps_asg (pv 1) (kpg_tup (K := K) rfl rfl (pgs_cons (pg_name (i := 2) sc_need_standing.nd rfl (by first | exact Or.inl rfl | exact Or.inr rfl)) (pgs_cons (pg_name (i := 3) sc_need_standing.nd rfl (by first | exact Or.inl rfl | exact Or.inr rfl)) pgs_nil))))
 (pss_one (ps_if (pt_not (pt_chain op_le op_le (pe_op op_sub (pv 2) (pe_ix (kix (K := K) rfl) (pv 0) pe_int (fun _ _ => rfl))) (pv 3) (pv 2))) (pss_one ps_never) pss_nil)))), ?_⟩
    refine r_start (σ' := [some (.ref g), some (.ref z), none, none]) rfl ?_
    walk_at "go"
    refine spNG_i G ?_
    walk_at "go"
    refine iteDT (by omega) ?_
    walk_at "go"
    refine iteNF (by omega) ?_
    walk_at "go"
    exact k
def spNM (K : PySem.W.Frag) : Sp := fun vs H Q _ => ∃ (l : Addr) (ms : List Int), vs = [.ref l] ∧ SqL K H l (ms.map V.int) ∧ ms.length ≤ 100 ∧ Q .non H
theorem spNM_i {l : Addr} {ms : List Int} {H : Hp} {Q : VK} {E : XK} (hl : SqL K H l (ms.map V.int)) (h : ms.length ≤ 100) (k : Q .non H) : spNM K [.ref l] H Q E := ⟨l, ms, rfl, hl, h, k⟩
def spBehind : Sp := fun vs H Q _ => ∃ (g : Addr) (r p : Int) (z : Addr) (x : Int × Int) (k : Int), vs = [.ref g, .ref z, .int k] ∧ H g = some (.tup [.int r, .int p]) ∧ H z = some (.tup [.int x.1, .int x.2]) ∧
  ∀ (q : Addr) (H' : Hp), H q = none → Same H H' → H' q = some (.tup [.int (nx p x k).1, .int (nx p x k).2]) → Q (.ref q) H'
theorem spBehind_i {g z : Addr} {r p k : Int} {x : Int × Int} {H : Hp} {Q : VK} {E : XK} (hg : H g = some (.tup [.int r, .int p])) (hz : H z = some (.tup [.int x.1, .int x.2]))
    (h : ∀ (q : Addr) (H' : Hp), H q = none → Same H H' → H' q = some (.tup [.int (nx p x k).1, .int (nx p x k).2]) → Q (.ref q) H') : spBehind [.ref g, .ref z, .int k] H Q E := ⟨g, r, p, z, x, k, rfl, hg, hz, h⟩
theorem ok_behind (B : Bl mg) (F : FunAt K mg "behind" s_behind) : Has P w K mg base CX0 1 "behind" spBehind := by
  refine F.ok sc_behind bo_behind (fun vs H Q E h => ?_) (fun f cdv A outer s H vs Q E hr h => ?_)
  · obtain ⟨g, r, p, z, x, k, rfl, _⟩ := h
    rfl
  · obtain ⟨g, r, p, z, x, k, rfl, hg, hz, h⟩ := h
    refine ⟨_, (pss_cons (ps_set (i := 3) sc_behind.nd rfl (by first | exact Or.inl rfl | exact Or.inr rfl) (pe_op (kop_add (K := K) rfl) (pe_ix (kix (K := K) rfl) (pv 1) pe_int (fun _ _ => rfl)) (pv 2)))
 (pss_one (ps_ret (pe_tup (pa_cons (pv 3) (pa_cons (pe_callB (kc_min (K := K) rfl rfl) rfl B.min (by decide +kernel) (pa_cons (pv 3) (pa_cons (pe_callB (kc_max (K := K) rfl rfl) rfl B.max (by decide +kernel) (pa_cons (pe_op op_sub (pv 3) (pe_ix (kix (K := K) rfl) (pv 0) pe_int (fun _ _ => rfl))) (pa_cons (pe_ix (kix (K := K) rfl) (pv 1) pe_int (fun _ _ => rfl)) pa_nil))) pa_nil))) pa_nil)))))), ?_⟩
    refine r_start (σ' := [some (.ref g), some (.ref z), some (.int k), none]) rfl ?_
    walk_at "go"
    intro q nq
    walk_at "go"
    exact h q _ nq (same_new nq) upd_same
def spAB (K : PySem.W.Frag) : Sp := fun vs H Q _ => ∃ (g : Addr) (r p : Int) (z : Addr) (x : Int × Int) (l : Addr) (ms : List Int), vs = [.ref g, .ref z, .ref l] ∧ H g = some (.tup [.int r, .int p]) ∧ H z = some (.tup [.int x.1, .int x.2]) ∧ SqL K H l (ms.map V.int) ∧ ms.length ≤ 1000 ∧
  ∀ (q : Addr) (as : List Addr) (H' : Hp), H q = none → Same H H' → H' q = some (.lst (as.map V.ref)) → Tups H' as (traj p x ms) → Q (.ref q) H'
theorem spAB_i {g z l : Addr} {r p : Int} {x : Int × Int} {ms : List Int} {H : Hp} {Q : VK} {E : XK} (hg : H g = some (.tup [.int r, .int p])) (hz : H z = some (.tup [.int x.1, .int x.2])) (hl : SqL K H l (ms.map V.int)) (hm : ms.length ≤ 1000)
    (h : ∀ (q : Addr) (as : List Addr) (H' : Hp), H q = none → Same H H' → H' q = some (.lst (as.map V.ref)) → Tups H' as (traj p x ms) → Q (.ref q) H') : spAB K [.ref g, .ref z, .ref l] H Q E := ⟨g, r, p, z, x, l, ms, rfl, hg, hz, hl, hm, h⟩
end
end Rd

namespace Rd
open PySem L2
section
variable {P : Program} {w : World} {K : PySem.W.Frag} {mg : Str → Option Value} {base : Heap}
theorem FunAt.void {x : Str} {st : Stmt} {ps : List Str} (F : FunAt K mg x st) (bo : BindOk x st ps) : Has P w K mg base CX0 0 x (fun _ _ _ _ => False) := by
  obtain ⟨f, fd, F, hm⟩ := F.ex
  exact ⟨f, fd, ps, ⟨fun _ _ _ _ h => h.elim, fun _ _ _ _ _ _ _ _ _ _ _ _ _ h => h.elim⟩, hm, F.kp, F.binds bo⟩
/-- asked of the same data twice: True -/
def spSame : Nat → Sp
  | 0 => fun _ _ _ _ => False
  | n + 1 => fun vs H Q _ => ∃ (x y : V) (d : PyData), vs = [x, y] ∧ Is H x d ∧ Is H y d ∧ Fl n d ∧ ∀ H', Same H H' → Q (.bl true) H'
theorem spSame_i {n : Nat} {x y : V} {d : PyData} {H : Hp} {Q : VK} {E : XK} (hx : Is H x d) (hy : Is H y d) (f : Fl n d) (k : ∀ H', Same H H' → Q (.bl true) H') : spSame (n + 1) [x, y] H Q E := ⟨x, y, d, rfl, hx, hy, f, k⟩
theorem Fl.get {n i : Nat} {ds : List PyData} {d : PyData} (h : PyData.canLayAll0 ds = true ∧ PyData.depthAll ds ≤ n) (e : ds[i]? = some d) : Fl n d := by
  induction ds generalizing i with
  | nil => simp at e
  | cons a r ih =>
    obtain ⟨h1, h2⟩ := h
    rw [PyData.canLayAll0, Bool.and_eq_true] at h1
    rw [PyData.depthAll] at h2
    cases i with
    | zero =>
      cases e
      exact ⟨h1.1, by omega⟩
    | succ i => exact ih (i := i) ⟨h1.2, by omega⟩ (by simpa using e)
set_option maxHeartbeats 8000000 in
theorem ok_law_same (B : Bl mg) (F : FunAt K mg "_law_same" s_law_same) : ∀ n, Has P w K mg base CX0 n "_law_same" (spSame n)
  | 0 => F.void bo_law_same
  | n + 1 => by
    have H_law_same : Has P w K mg base CX0 n "_law_same" (spSame n) := ok_law_same B F n
    refine F.ok sc_law_same bo_law_same (fun vs H Q E h => ?_) (fun f cdv A outer s H vs Q E hr h => ?_)
    · obtain ⟨x, y, d, rfl, _⟩ := h
      rfl
    · obtain ⟨x, y, d, rfl, hx, hy, hf, k⟩ := h
      refine ⟨_, (pss_cons (ps_if (pt_val (pe_callB (kcc_isi (K := K) rfl) rfl B.isinstance (by decide +kernel) (pa_cons (pv 1) (pa_cons (pe_tup (pa_cons (pe_bltn rfl B.tuple (by decide +kernel) (v := .ty "tuple") rfl) (pa_cons (pe_bltn rfl B.list (by decide +kernel) (v := .ty "list") rfl) pa_nil))) pa_nil)))) (pss_cons (ps_if (PW.pt (pw_or (pt_not (pt_val (pe_callB (kcc_isi (K := K) rfl) rfl B.isinstance (by decide +kernel) (pa_cons (pv 0) (pa_cons (pe_tup (pa_cons (pe_bltn rfl B.tuple (by decide +kernel) (v := .ty "tuple") rfl) (pa_cons (pe_bltn rfl B.list (by decide +kernel) (v := .ty "list") rfl) pa_nil))) pa_nil))))) (pw_or1 (pt_cmpR (kop_ne (K := K) rfl hr.units) (pe_callB (kcc_isi (K := K) rfl) rfl B.isinstance (by decide +kernel) (pa_cons (pv 0) (pa_cons (pe_bltn rfl B.list (by decide +kernel) (v := .ty "list") rfl) pa_nil))) (pe_callB (kcc_isi (K := K) rfl) rfl B.isinstance (by decide +kernel) (pa_cons (pv 1) (pa_cons (pe_bltn rfl B.list (by decide +kernel) (v := .ty "list") rfl) pa_nil))) (nomark _))))) (pss_one (ps_ret pe_bl)) pss_nil)
 (pss_cons (ps_if (pt_cmpR (kop_ne (K := K) rfl hr.units) (pe_callB (kc_len (K := K) rfl) rfl B.len (by decide +kernel) (pa_cons (pv 0) pa_nil)) (pe_callB (kc_len (K := K) rfl) rfl B.len (by decide +kernel) (pa_cons (pv 1) pa_nil)) (nomark _)) (pss_one (ps_ret pe_bl)) pss_nil)
 (pss_one (ps_ret (pe_cmpR (kop_eq (K := K) rfl hr.units) (pe_lc (own := [("_law_k", 2)]) (g := (gName 2)) rfl sc_law_same.nd (pi_range1 rfl B.range (pa_cons (pe_callB (kc_len (K := K) rfl) rfl B.len (by decide +kernel) (pa_cons (pv 1) pa_nil)) pa_nil)) (blkOk_by (N := ["_law_found", "_law_due", "_law_k"]) (sc := defScope s_law_same) (own := [("_law_k", 2)]) (by decide +kernel)) (fun _ _ _ _ _ => (pg_name (i := 2) sc_law_same.nd rfl (by first | exact Or.inl rfl | exact Or.inr rfl))) (fun _ _ _ _ _ => (pts_one (pt_not (pt_val (pe_has H_law_same hr (by omega) rfl pass0 (pa_cons (pe_ix (kix (K := K) rfl) (pv 0) (pv 2) (fun _ _ => rfl)) (pa_cons (pe_ix (kix (K := K) rfl) (pv 1) (pv 2) (fun _ _ => rfl)) pa_nil))))))) (fun _ _ _ _ _ => (pv 2))) (pe_lst pa_nil) (nomark _)))))) pss_nil)
 (pss_cons (ps_if (pt_cmpR op_isN (pv 1) pe_non (nomark _)) (pss_one (ps_ret (pe_cmpR op_isN (pv 0) pe_non (nomark _)))) pss_nil)
 (pss_cons (ps_if (pt_val (pe_callB (kcc_isi (K := K) rfl) rfl B.isinstance (by decide +kernel) (pa_cons (pv 1) (pa_cons (pe_bltn rfl B.str (by decide +kernel) (v := .ty "str") rfl) pa_nil)))) (pss_one (ps_ret (pe_and (pe_callB (kcc_isi (K := K) rfl) rfl B.isinstance (by decide +kernel) (pa_cons (pv 0) (pa_cons (pe_bltn rfl B.str (by decide +kernel) (v := .ty "str") rfl) pa_nil))) (pe_one (pe_cmpR (kop_eq (K := K) rfl hr.units) (pv 0) (pv 1) (nomark _)))))) pss_nil)
 (pss_cons (ps_if (PW.pt (pw_or (pt_val (pe_callB (kcc_isi (K := K) rfl) rfl B.isinstance (by decide +kernel) (pa_cons (pv 1) (pa_cons (pe_bltn rfl B.bool (by decide +kernel) (v := .ty "bool") rfl) pa_nil)))) (pw_or1 (pt_val (pe_callB (kcc_isi (K := K) rfl) rfl B.isinstance (by decide +kernel) (pa_cons (pv 0) (pa_cons (pe_bltn rfl B.bool (by decide +kernel) (v := .ty "bool") rfl) pa_nil))))))) (pss_one (ps_ret (pe_and (pe_callB (kcc_isi (K := K) rfl) rfl B.isinstance (by decide +kernel) (pa_cons (pv 1) (pa_cons (pe_bltn rfl B.bool (by decide +kernel) (v := .ty "bool") rfl) pa_nil))) (pe_and (pe_callB (kcc_isi (K := K) rfl) rfl B.isinstance (by decide +kernel) (pa_cons (pv 0) (pa_cons (pe_bltn rfl B.bool (by decide +kernel) (v := .ty "bool") rfl) pa_nil))) (pe_one (pe_cmpR (kop_eq (K := K) rfl hr.units) (pv 0) (pv 1) (nomark _))))))) pss_nil)
 (pss_one (ps_ret (pe_and (pe_callB (kcc_isi (K := K) rfl) rfl B.isinstance (by decide +kernel) (pa_cons (pv 0) (pa_cons (pe_bltn rfl B.int (by decide +kernel) (v := .ty "int") rfl) pa_nil))) (pe_one (pe_cmpR (kop_eq (K := K) rfl hr.units) (pv 0) (pv 1) (nomark _)))))))))), ?_⟩
      refine r_start (σ' := [some x, some y, none]) rfl ?_
      cases d with
      | dict kvs => cases hx
      | none =>
        cases hx
        cases hy
        walk_at "go"
        intro t nt
        walk_at "go"
        refine r_isi2 upd_same (.base .non) (b1 := false) (b2 := false) (by decide +kernel) (by decide +kernel) ?_
        walk_at "go"
        refine iteF ?_
        walk_at "go"
        refine ⟨rfl, ?_⟩
        walk_at "go"
        refine iteDT rfl ?_
        walk_at "go"
        exact ⟨rfl, k _ (same_new nt)⟩
      | bool v =>
        cases hx
        cases hy
        walk_at "go"
        intro t nt
        walk_at "go"
        refine r_isi2 upd_same (.base (.bl v)) (b1 := false) (b2 := false) (by decide +kernel) (by decide +kernel) ?_
        walk_at "go"
        refine iteF ?_
        walk_at "go"
        refine ⟨rfl, ?_⟩
        walk_at "go"
        refine iteDF (by simp) ?_
        walk_at "go"
        refine r_isi (.base (.bl v)) (b := false) (by decide +kernel) ?_
        walk_at "go"
        refine iteF ?_
        walk_at "go"
        refine r_isi (.base (.bl v)) (b := true) (by decide +kernel) ?_
        walk_at "go"
        refine iteT ?_
        walk_at "go"
        refine iteT ?_
        walk_at "go"
        refine r_isi (.base (.bl v)) (b := true) (by decide +kernel) ?_
        walk_at "go"
        refine iteT ?_
        walk_at "go"
        refine r_isi (.base (.bl v)) (b := true) (by decide +kernel) ?_
        walk_at "go"
        refine iteT ?_
        walk_at "go"
        rw [decide_eq_true rfl]
        exact k _ (same_new nt)
      | int v =>
        cases hx
        cases hy
        walk_at "go"
        intro t nt
        walk_at "go"
        refine r_isi2 upd_same (.base (.int v)) (b1 := false) (b2 := false) (by decide +kernel) (by decide +kernel) ?_
        walk_at "go"
        refine iteF ?_
        walk_at "go"
        refine ⟨rfl, ?_⟩
        walk_at "go"
        refine iteDF (by simp) ?_
        walk_at "go"
        refine r_isi (.base (.int v)) (b := false) (by decide +kernel) ?_
        walk_at "go"
        refine iteF ?_
        walk_at "go"
        refine r_isi (.base (.int v)) (b := false) (by decide +kernel) ?_
        walk_at "go"
        refine iteF ?_
        walk_at "go"
        refine r_isi (.base (.int v)) (b := false) (by decide +kernel) ?_
        walk_at "go"
        refine iteF ?_
        walk_at "go"
        refine r_isi (.base (.int v)) (b := true) (by decide +kernel) ?_
        walk_at "go"
        refine iteT ?_
        walk_at "go"
        rw [decide_eq_true rfl]
        exact k _ (same_new nt)
      | str v =>
        cases hx
        cases hy
        walk_at "go"
        intro t nt
        walk_at "go"
        refine r_isi2 upd_same (.base (.str v)) (b1 := false) (b2 := false) (by decide +kernel) (by decide +kernel) ?_
        walk_at "go"
        refine iteF ?_
        walk_at "go"
        refine ⟨rfl, ?_⟩
        walk_at "go"
        refine iteDF (by simp) ?_
        walk_at "go"
        refine r_isi (.base (.str v)) (b := true) (by decide +kernel) ?_
        walk_at "go"
        refine iteT ?_
        walk_at "go"
        refine r_isi (.base (.str v)) (b := true) (by decide +kernel) ?_
        walk_at "go"
        refine iteT ?_
        walk_at "go"
        refine .inl ⟨rfl, ?_⟩
        rw [decide_eq_true rfl]
        exact k _ (same_new nt)
      | list ds =>
        cases hx with
        | lst ha hxs =>
        rename_i a xs
        cases hy with
        | lst hb hys =>
        rename_i b ys
        have hd : PyData.canLayAll0 ds = true ∧ PyData.depthAll ds + 1 ≤ n := by
          have h1 := hf.1
          have h2 := hf.2
          rw [PyData.canLay0] at h1
          rw [PyData.depth] at h2
          exact ⟨h1, h2⟩
        obtain ⟨n', rfl⟩ : ∃ n', n = n' + 1 := ⟨n - 1, by omega⟩
        walk_at "go"
        intro t nt
        walk_at "go"
        refine r_isi2 upd_same (.base (.lst (at_new nt hb))) (b1 := false) (b2 := true) (by decide +kernel) (by decide +kernel) ?_
        walk_at "go"
        refine iteT ?_
        walk_at "go"
        intro t2 nt2
        walk_at "go"
        refine r_isi2 upd_same (.base (.lst (at_new nt2 (at_new nt ha)))) (b1 := false) (b2 := true) (by decide +kernel) (by decide +kernel) ?_
        walk_at "go"
        refine iteF ?_
        walk_at "go"
        refine r_isi (.base (.lst (at_new nt2 (at_new nt ha)))) (b := true) (by decide +kernel) ?_
        walk_at "go"
        refine r_isi (.base (.lst (at_new nt2 (at_new nt hb)))) (b := true) (by decide +kernel) ?_
        walk_at "go"
        refine iteF ?_
        walk_at "go"
        have hlen : xs.length = ys.length := by rw [hxs.len, hys.len]
        refine iteNF (by rw [hlen]) ?_
        walk_at "go"
        have s2 : Same H (upd (upd H t (.tup [.ty "tuple", .ty "list"])) t2 (.tup [.ty "tuple", .ty "list"])) := (same_new nt).trans (same_new nt2)
        generalize upd (upd H t (.tup [.ty "tuple", .ty "list"])) t2 (.tup [.ty "tuple", .ty "list"]) = H2 at s2 ⊢
        refine ⟨_, rfl, by omega, by omega, fun D nD => lcw_range (σw := [some (.ref a), some (.ref b), none]) (fun i H3 => Same H H3 ∧ H3 D = some (.lst [])) rfl ⟨s2.trans (same_new nD), upd_same⟩ (fun i H3 hi h3 => ?_) fun H3 h3 => ?_⟩
        · obtain ⟨s3, hD⟩ := h3
          walk_at "go"
          refine ⟨rfl, ?_⟩
          have hi' : i < ds.length := by rw [← hys.len]; simpa using hi
          obtain ⟨u, d1, g1, g2, g3⟩ := hxs.get hi'
          obtain ⟨v, d2, g4, g5, g6⟩ := hys.get hi'
          have e12 : d2 = d1 := Option.some.inj (g5.symm.trans g2)
          subst e12
          walk_at "go"
          refine r_ix (.inl (SqL.of (s3 _ _ ha))) (at_of (j := i) (by omega) g1) ?_
          walk_at "go"
          refine r_ix (.inl (SqL.of (s3 _ _ hb))) (at_of (j := i) (by omega) g4) ?_
          walk_at "go"
          refine spSame_i (Is.mono s3 _ _ g3) (Is.mono s3 _ _ g6) (Fl.get ⟨hd.1, by omega⟩ g2) fun H4 s4 => ?_
          walk_at "go"
          refine iteF ?_
          exact ⟨s3.trans s4, s4 _ _ hD⟩
        · obtain ⟨s3, hD⟩ := h3
          walk_at "go"
          intro e ne
          walk_at "go"
          refine r_eqIs (d := .list []) (n := 1) (.lst (at_new ne hD) .nil) (.lst upd_same .nil) (Fl.list (by simp)) ?_
          walk_at "go"
          exact k _ (s3.trans (same_new ne))
      | tuple ds =>
        cases hx with
        | tup ha hxs =>
        rename_i a xs
        cases hy with
        | tup hb hys =>
        rename_i b ys
        have hd : PyData.canLayAll0 ds = true ∧ PyData.depthAll ds + 1 ≤ n := by
          have h1 := hf.1
          have h2 := hf.2
          rw [PyData.canLay0] at h1
          rw [PyData.depth] at h2
          exact ⟨h1, h2⟩
        obtain ⟨n', rfl⟩ : ∃ n', n = n' + 1 := ⟨n - 1, by omega⟩
        walk_at "go"
        intro t nt
        walk_at "go"
        refine r_isi2 upd_same (.base (.tup (at_new nt hb))) (b1 := true) (b2 := false) (by decide +kernel) (by decide +kernel) ?_
        walk_at "go"
        refine iteT ?_
        walk_at "go"
        intro t2 nt2
        walk_at "go"
        refine r_isi2 upd_same (.base (.tup (at_new nt2 (at_new nt ha)))) (b1 := true) (b2 := false) (by decide +kernel) (by decide +kernel) ?_
        walk_at "go"
        refine iteF ?_
        walk_at "go"
        refine r_isi (.base (.tup (at_new nt2 (at_new nt ha)))) (b := false) (by decide +kernel) ?_
        walk_at "go"
        refine r_isi (.base (.tup (at_new nt2 (at_new nt hb)))) (b := false) (by decide +kernel) ?_
        walk_at "go"
        refine iteF ?_
        walk_at "go"
        have hlen : xs.length = ys.length := by rw [hxs.len, hys.len]
        refine iteNF (by rw [hlen]) ?_
        walk_at "go"
        have s2 : Same H (upd (upd H t (.tup [.ty "tuple", .ty "list"])) t2 (.tup [.ty "tuple", .ty "list"])) := (same_new nt).trans (same_new nt2)
        generalize upd (upd H t (.tup [.ty "tuple", .ty "list"])) t2 (.tup [.ty "tuple", .ty "list"]) = H2 at s2 ⊢
        refine ⟨_, rfl, by omega, by omega, fun D nD => lcw_range (σw := [some (.ref a), some (.ref b), none]) (fun i H3 => Same H H3 ∧ H3 D = some (.lst [])) rfl ⟨s2.trans (same_new nD), upd_same⟩ (fun i H3 hi h3 => ?_) fun H3 h3 => ?_⟩
        · obtain ⟨s3, hD⟩ := h3
          walk_at "go"
          refine ⟨rfl, ?_⟩
          have hi' : i < ds.length := by rw [← hys.len]; simpa using hi
          obtain ⟨u, d1, g1, g2, g3⟩ := hxs.get hi'
          obtain ⟨v, d2, g4, g5, g6⟩ := hys.get hi'
          have e12 : d2 = d1 := Option.some.inj (g5.symm.trans g2)
          subst e12
          walk_at "go"
          refine r_ix (.inr (SqT.of (s3 _ _ ha))) (at_of (j := i) (by omega) g1) ?_
          walk_at "go"
          refine r_ix (.inr (SqT.of (s3 _ _ hb))) (at_of (j := i) (by omega) g4) ?_
          walk_at "go"
          refine spSame_i (Is.mono s3 _ _ g3) (Is.mono s3 _ _ g6) (Fl.get ⟨hd.1, by omega⟩ g2) fun H4 s4 => ?_
          walk_at "go"
          refine iteF ?_
          exact ⟨s3.trans s4, s4 _ _ hD⟩
        · obtain ⟨s3, hD⟩ := h3
          walk_at "go"
          intro e ne
          walk_at "go"
          refine r_eqIs (d := .list []) (n := 1) (.lst (at_new ne hD) .nil) (.lst upd_same .nil) (Fl.list (by simp)) ?_
          walk_at "go"
          exact k _ (s3.trans (same_new ne))
end
end Rd

namespace Rd
open PySem L2
section
variable {P : Program} {w : World} {K : PySem.W.Frag} {mg : Str → Option Value} {base : Heap}
def lx (p : Int) (x : Int × Int) (k : Int) : Int × Int := (x.1 + k, lb p x.1 x.2 k)
theorem lx_nx {p : Int} {x : Int × Int} (h : Stg p x) (k : Int) : lx p x k = nx p x k := by
  unfold lx nx
  rw [lb_pb h.1 h.2]
def spLB : Sp := fun vs H Q _ => ∃ (g : Addr) (r p : Int) (z : Addr) (x : Int × Int) (k : Int), vs = [.ref g, .ref z, .int k] ∧ H g = some (.tup [.int r, .int p]) ∧ H z = some (.tup [.int x.1, .int x.2]) ∧
  ∀ (q : Addr) (H' : Hp), H q = none → Same H H' → H' q = some (.tup [.int (lx p x k).1, .int (lx p x k).2]) → Q (.ref q) H'
theorem spLB_i {g z : Addr} {r p k : Int} {x : Int × Int} {H : Hp} {Q : VK} {E : XK} (hg : H g = some (.tup [.int r, .int p])) (hz : H z = some (.tup [.int x.1, .int x.2]))
    (h : ∀ (q : Addr) (H' : Hp), H q = none → Same H H' → H' q = some (.tup [.int (lx p x k).1, .int (lx p x k).2]) → Q (.ref q) H') : spLB [.ref g, .ref z, .int k] H Q E := ⟨g, r, p, z, x, k, rfl, hg, hz, h⟩
theorem ok_law_behind (B : Bl mg) (F : FunAt K mg "_law_behind" s_law_behind) : Has P w K mg base CX0 1 "_law_behind" spLB := by
  refine F.ok sc_law_behind bo_law_behind (fun vs H Q E h => ?_) (fun f cdv A outer s H vs Q E hr h => ?_)
  · obtain ⟨g, r, p, z, x, k, rfl, _⟩ := h
    rfl
  · obtain ⟨g, r, p, z, x, k, rfl, hg, hz, h⟩ := h
    refine ⟨_, (pss_cons (ps_asg (pv 1) (kpg_tup (K := K) rfl rfl (pgs_cons (pg_name (i := 3) sc_law_behind.nd rfl (by first | exact Or.inl rfl | exact Or.inr rfl)) (pgs_cons (pg_name (i := 4) sc_law_behind.nd rfl (by first | exact Or.inl rfl | exact Or.inr rfl)) pgs_nil))))
 (pss_cons (ps_if (pt_cmpR op_gt (pv 2) pe_int (nomark _)) (pss_cons (ps_set (i := 5) sc_law_behind.nd rfl (by first | exact Or.inl rfl | exact Or.inr rfl) (pe_op op_sub (pe_ix (kix (K := K) rfl) (pv 0) pe_int (fun _ _ => rfl)) (pe_op op_sub (pv 3) (pv 4))))
 (pss_one (ps_ret (pe_tup (pa_cons (pe_op (kop_add (K := K) rfl) (pv 3) (pv 2)) (pa_cons (pe_op (kop_add (K := K) rfl) (pv 4) (pe_callB (kc_max (K := K) rfl rfl) rfl B.max (by decide +kernel) (pa_cons pe_int (pa_cons (pe_op op_sub (pv 2) (pv 5)) pa_nil)))) pa_nil)))))) pss_nil)
 (pss_cons (ps_set (i := 5) sc_law_behind.nd rfl (by first | exact Or.inl rfl | exact Or.inr rfl) (pe_op op_sub (pv 3) (pv 4)))
 (pss_one (ps_ret (pe_tup (pa_cons (pe_op (kop_add (K := K) rfl) (pv 3) (pv 2)) (pa_cons (pe_op (kop_add (K := K) rfl) (pv 4) (pe_callB (kc_min (K := K) rfl rfl) rfl B.min (by decide +kernel) (pa_cons pe_int (pa_cons (pe_op (kop_add (K := K) rfl) (pv 2) (pv 5)) pa_nil)))) pa_nil)))))))), ?_⟩
    refine r_start (σ' := [some (.ref g), some (.ref z), some (.int k), none, none, none]) rfl ?_
    walk_at "go"
    refine iteD (fun hk => ?_) (fun hk => ?_)
    · walk_at "go"
      intro q nq
      walk_at "go"
      refine h q _ nq (same_new nq) ?_
      rw [upd_same]
      unfold lx lb
      rw [if_pos hk]
    · walk_at "go"
      intro q nq
      walk_at "go"
      refine h q _ nq (same_new nq) ?_
      rw [upd_same]
      unfold lx lb
      rw [if_neg hk]
end
end Rd

namespace Rd
open PySem L2
/-! ## marks, plain -/
/-- marks of a round -/
structure Marks (r : Int) (ms : List Int) : Prop where
  few : ms.length ≤ 12
  some_ : 0 < ms.length
  rise : ms.Pairwise (· < ·)
  in_ : ∀ m ∈ ms, 0 ≤ m ∧ m < r
theorem rise_one {a b : List Int} (ha : a.Pairwise (· < ·)) (hb : b.Pairwise (· < ·)) (h : ∀ i, i ∈ a ↔ i ∈ b) : a = b := by
  have na : a.Nodup := ha.imp fun h e => by omega
  have nb : b.Nodup := hb.imp fun h e => by omega
  exact List.Perm.eq_of_pairwise (le := (· ≤ ·)) (fun x y _ _ h1 h2 => Int.le_antisymm h1 h2) (ha.imp fun h => Int.le_of_lt h) (hb.imp fun h => Int.le_of_lt h) ((List.perm_ext_iff_of_nodup na nb).mpr h)
/-- the number of the least size by which the shaft would be at a mark -/
def offT (r s m : Int) : Int := (0 - (r - 1) / 2) + (m - s - (0 - (r - 1) / 2)) % r
section
variable {P : Program} {w : World} {K : PySem.W.Frag} {mg : Str → Option Value} {base : Heap}
def spNMk : Sp := fun vs H Q _ => ∃ (g : Addr) (r p : Int) (l : Addr) (ms : List Int), vs = [.ref g, .ref l] ∧ GearAt H g r p ∧ H l = some (.tup (ms.map V.int)) ∧ Marks r ms ∧ ∀ H', Same H H' → Q .non H'
theorem spNMk_i {g l : Addr} {r p : Int} {ms : List Int} {H : Hp} {Q : VK} {E : XK} (G : GearAt H g r p) (hl : H l = some (.tup (ms.map V.int))) (M : Marks r ms) (k : ∀ H', Same H H' → Q .non H') : spNMk [.ref g, .ref l] H Q E := ⟨g, r, p, l, ms, rfl, G, hl, M, k⟩
theorem ok_need_marks (B : Bl mg) (F : FunAt K mg "need_marks" s_need_marks) (M_MOST_MARKS : Cn mg "MOST_MARKS" 12) (H_need_gear : Has P w K mg base CX0 1 "need_gear" spNG) : Has P w K mg base CX0 2 "need_marks" spNMk := by
  refine F.ok sc_need_marks bo_need_marks (fun vs H Q E h => ?_) (fun f cdv A outer s H vs Q E hr h => ?_)
  · obtain ⟨g, r, p, l, ms, rfl, _⟩ := h
    rfl
  · obtain ⟨g, r, p, l, ms, rfl, G, hl, M, k⟩ := h
    have m1 := M.few
    have m2 := M.some_
    refine ⟨_, (pss_cons (ps_expr (pe_has H_need_gear hr (by omega) rfl pass0 (pa_cons (pv 0) pa_nil)))
 (pss_cons (ps_set (i := 2) sc_need_marks.nd rfl (by first | exact Or.inl rfl | exact Or.inr rfl) (pe_and (pe_chain op_le op_le pe_int (pe_callB (kc_len (K := K) rfl) rfl B.len (by decide +kernel) (pa_cons (pv 1) pa_nil)) (pe_cn M_MOST_MARKS rfl)) (pe_one (pe_cmpR (kop_eq (K := K) rfl hr.units) (pe_callB (kc_sortedS (w := w) rfl rfl) rfl B.sorted (by decide +kernel) (pa_cons (pe_callTy (kc_setI (K := K) (w := w) rfl rfl rfl) rfl B.set (by decide +kernel) (pa_cons (pv 1) pa_nil)) pa_nil)) (pe_callTy (kc_list (K := K) rfl) rfl B.list (by decide +kernel) (pa_cons (pv 1) pa_nil)) (nomark _)))))
 (pss_one (ps_if (PW.pt (pw_or (pt_not (pt_val (pv 2))) (pw_or1 (pt_cmpR (kop_ne (K := K) rfl hr.units) (pe_lc (own := [("mark", 3)]) (g := (gName 3)) rfl sc_need_marks.nd (kpi_tup (K := K) rfl (pv 1)) (blkOk_by (N := ["gear", "marks", "good", "mark"]) (sc := defScope s_need_marks) (own := [("mark", 3)]) (by decide +kernel)) (fun _ _ _ _ _ => (pg_name (i := 3) sc_need_marks.nd rfl (by first | exact Or.inl rfl | exact Or.inr rfl))) (fun _ _ _ _ _ => (pts_one (pt_not (pt_chain op_le op_lt pe_int (pv 3) (pe_ix (kix (K := K) rfl) (pv 0) pe_int (fun _ _ => rfl)))))) (fun _ _ _ _ _ => (pv 3))) (pe_lst pa_nil) (nomark _))))) (pss_one ps_never) pss_nil)))), ?_⟩
    refine r_start (σ' := [some (.ref g), some (.ref l), none, none]) rfl ?_
    walk_at "go"
    refine spNG_i G ?_
    walk_at "go"
    rw [List.length_map]
    refine iteDT (by omega) ?_
    walk_at "go"
    refine iteDT (by omega) ?_
    walk_at "go"
    refine r_setI (.inr (SqT.of hl)) (by omega) fun p3 c n3 hc => ?_
    walk_at "go"
    refine r_sortedS (ns := ms) (c := c) upd_same (by omega) fun ms' p4 h1 h2 h3 n4 => ?_
    have e := rise_one h1 M.rise h2
    subst e
    walk_at "go"
    have hl4 := at_new (u := .lst (ms'.map V.int)) n4 (at_new (u := SetO w p3 (fun j => decide (j ∈ ms')) c) n3 hl)
    refine r_listOf (.inr (SqT.of hl4)) fun l5 n5 => ?_
    walk_at "go"
    refine r_eqIs (d := dInts ms') (n := 1) (Is.ints (at_new n5 upd_same)) (Is.ints upd_same) (Fl.ints 0 _) ?_
    have s5 : Same H (upd (upd (upd H p3 (SetO w p3 (fun j => decide (j ∈ ms')) c)) p4 (.lst (ms'.map V.int))) l5 (.lst (ms'.map V.int))) := (same_new n3).trans ((same_new n4).trans (same_new n5))
    generalize upd (upd (upd H p3 (SetO w p3 (fun j => decide (j ∈ ms')) c)) p4 (.lst (ms'.map V.int))) l5 (.lst (ms'.map V.int)) = H5 at s5 ⊢
    walk_at "go"
    refine iteF ?_
    walk_at "go"
    refine r_iTup ?_
    walk_at "go"
    refine ⟨_, rfl, ⟨_, SqT.of (s5 _ _ hl)⟩, fun D nD => lcw_tup (K := K) (a := l) (xs := ms'.map V.int) (σw := [some (.ref g), some (.ref l), some (.bl true), none])
      (fun n H8 => Same H5 H8 ∧ H8 D = some (.lst [])) rfl ⟨same_new nD, upd_same⟩ (fun n H8 _ h => SqT.of (h.1 _ _ (s5 _ _ hl))) (fun n y H8 hn h => ?_) fun H8 h => ?_⟩
    · obtain ⟨h8, hD⟩ := h
      obtain ⟨v, hv, rfl⟩ := map_at hn
      have hb := M.in_ v (List.mem_of_getElem? hv)
      have hg8 := h8 _ _ (s5 _ _ G.at_)
      walk_at "go"
      refine ⟨rfl, ?_⟩
      walk_at "go"
      refine iteDT hb.1 ?_
      walk_at "go"
      refine iteNF hb.2 ?_
      walk_at "go"
      exact ⟨h8, hD⟩
    · obtain ⟨h8, hD⟩ := h
      walk_at "go"
      intro t nt
      refine r_neNil (ns := []) (at_new nt hD) upd_same ?_
      walk_at "go"
      refine iteF ?_
      walk_at "go"
      exact k _ (s5.trans (h8.trans (same_new nt)))
def spOff : Sp := fun vs H Q _ => ∃ (r s m : Int), vs = [.int r, .int s, .int m] ∧ 0 < r ∧ Q (.int (offT r s m)) H
theorem spOff_i {r s m : Int} {H : Hp} {Q : VK} {E : XK} (h : 0 < r) (k : Q (.int (offT r s m)) H) : spOff [.int r, .int s, .int m] H Q E := ⟨r, s, m, rfl, h, k⟩
theorem ok_off_to (F : FunAt K mg "off_to" s_off_to) : Has P w K mg base CX0 1 "off_to" spOff := by
  refine F.ok sc_off_to bo_off_to (fun vs H Q E h => ?_) (fun f cdv A outer s H vs Q E hr h => ?_)
  · obtain ⟨r, s, m, rfl, _⟩ := h
    rfl
  · obtain ⟨r, s, m, rfl, h0, k⟩ := h
    refine ⟨_, (pss_cons (ps_set (i := 3) sc_off_to.nd rfl (by first | exact Or.inl rfl | exact Or.inr rfl) (pe_op op_sub pe_int (pe_op op_fdivW (pe_op op_sub (pv 0) pe_int) pe_int)))
 (pss_one (ps_ret (pe_op (kop_add (K := K) rfl) (pv 3) (pe_op op_mod (pe_op op_sub (pe_op op_sub (pv 2) (pv 1)) (pv 3)) (pv 0)))))), ?_⟩
    refine r_start (σ' := [some (.int r), some (.int s), some (.int m), none]) rfl ?_
    walk_at "go"
    refine r_I ⟨by decide, by decide +kernel⟩ ?_
    walk_at "go"
    refine r_I h0 ?_
    walk_at "go"
    exact k
def spMarks (K : PySem.W.Frag) : Sp := fun vs H Q _ => ∃ (st a : Addr) (ns : List Int) (g : Addr) (r p : Int), vs = [.ref st, .ref g] ∧ St H st a ∧ SqL K H a (ns.map V.int) ∧ H g = some (.tup [.int r, .int p]) ∧ 0 < r ∧ r ≤ 1000000 ∧
  ∀ (l : Addr) (ms : List Int) (H' : Hp), Marks r ms → St H' st a → Fr H H' → H' l = some (.tup (ms.map V.int)) → Q (.ref l) H'
theorem spMarks_i {st a g : Addr} {ns : List Int} {r p : Int} {H : Hp} {Q : VK} {E : XK} (s : St H st a) (hS : SqL K H a (ns.map V.int)) (hg : H g = some (.tup [.int r, .int p])) (h0 : 0 < r) (h1 : r ≤ 1000000)
    (k : ∀ (l : Addr) (ms : List Int) (H' : Hp), Marks r ms → St H' st a → Fr H H' → H' l = some (.tup (ms.map V.int)) → Q (.ref l) H') : spMarks K [.ref st, .ref g] H Q E := ⟨st, a, ns, g, r, p, rfl, s, hS, hg, h0, h1, k⟩
theorem ok_law_marks (B : Bl mg) (F : FunAt K mg "_law_marks" s_law_marks) (H_law_drawn : Has P w K mg base CX0 1 "_law_drawn" (spDrawn K)) : Has P w K mg base CX0 2 "_law_marks" (spMarks K) := by
  refine F.ok sc_law_marks bo_law_marks (fun vs H Q E h => ?_) (fun f cdv A outer s H vs Q E hr h => ?_)
  · obtain ⟨st, a, ns, g, r, p, rfl, _⟩ := h
    rfl
  · obtain ⟨st, a, ns, g, r, p, rfl, hs, hS, hg, h0, h1, k⟩ := h
    refine ⟨_, (pss_cons (ps_setLc (i := 2) (own := [("_law_k", 3)]) (g := (gName 3)) rfl sc_law_marks.nd rfl rfl (sw_true rfl rfl rfl (by decide +kernel)) (pi_range1 rfl B.range (pa_cons (pe_op (kop_add (K := K) rfl) pe_int (pe_has H_law_drawn hr (by omega) rfl pass0 (pa_cons (pv 0) (pa_cons (pe_ix (kix (K := K) rfl) (pe_lst (pa_cons pe_int (pa_cons pe_int pa_nil))) (pe_has H_law_drawn hr (by omega) rfl pass0 (pa_cons (pv 0) (pa_cons pe_int pa_nil))) (fun _ _ => rfl)) pa_nil)))) pa_nil)) (blkOk_by (N := ["_law_state", "_law_gear_here", "_law_some", "_law_k"]) (sc := defScope s_law_marks) (own := [("_law_k", 3)]) (by decide +kernel)) (fun _ _ _ _ _ => (pg_name (i := 3) sc_law_marks.nd rfl (by first | exact Or.inl rfl | exact Or.inr rfl))) (fun _ _ _ _ _ => pts_nil) (fun _ _ _ _ _ => (pe_has H_law_drawn hr (by omega) rfl pass0 (pa_cons (pv 0) (pa_cons (pe_ix (kix (K := K) rfl) (pv 1) pe_int (fun _ _ => rfl)) pa_nil)))))
 (pss_one (ps_ret (pe_callTy (kc_tup (K := K) rfl) rfl B.tuple (by decide +kernel) (pa_cons (pe_callB (kc_sortedS (w := w) rfl rfl) rfl B.sorted (by decide +kernel) (pa_cons (pe_callTy (kc_setI (K := K) (w := w) rfl rfl rfl) rfl B.set (by decide +kernel) (pa_cons (pv 2) pa_nil)) pa_nil)) pa_nil))))), ?_⟩
    refine r_start (σ' := [some (.ref st), some (.ref g), none, none]) rfl ?_
    walk_at "go"
    intro t1 n1
    walk_at "go"
    refine spDrawn_i (by walk_at "ss") (by walk_at "sq") (by omega) (by decide) fun v2 H2 a2 b2 s2 R2 => ?_
    obtain ⟨mo, e2, m2⟩ := pick2 3 12 a2 (by omega)
    refine r_ix (by walk_at "sq") e2 ?_
    walk_at "go"
    refine spDrawn_i s2 (by walk_at "sq") (by omega) (small200 (by omega) (by omega)) fun n3 H3 a3 b3 s3 R3 => ?_
    have R03 : Fr H H3 := by walk_at "fr"
    have hS3 := fr_sq R03 hS
    have hg3 := R03 _ _ hg nst_tup
    walk_at "go"
    refine ⟨_, rfl, by omega, by omega, fun D nD => lcw_range (σw := [some (.ref st), some (.ref g), none, none])
      (fun j H7 => ∃ gs : List Int, gs.length = j ∧ (∀ y ∈ gs, 0 ≤ y ∧ y < r) ∧ St H7 st a ∧ Fr H3 H7 ∧ H7 D = some (.lst (gs.map V.int))) rfl ⟨[], rfl, by simp, s3.new nD, fr_new nD (Fr.refl _), upd_same⟩ (fun j H7 hj h => ?_) fun H7 h => ?_⟩
    · obtain ⟨gs, hgl, hgb, s7, R7, hD⟩ := h
      have hS7 := fr_sq R7 hS3
      walk_at "go"
      refine ⟨rfl, ?_⟩
      walk_at "go"
      refine iteT ?_
      walk_at "go"
      refine spDrawn_i s7 hS7 (by omega) (small200 (by omega) (by omega)) fun v8 H8 a8 b8 s8 R8 => ?_
      have hD8 := R8 _ _ hD nst_ints
      refine ⟨_, hD8, by rw [List.length_map]; exact small1000 (by omega), gs ++ [v8], by simp [hgl], fun y hy => ?_, s8.wr hD8 nst_ints, fun b o e n => at_wr (ne_of_none e nD) (R8 _ _ (R7 _ _ e n) n), by rw [upd_same]; simp⟩
      rcases List.mem_append.mp hy with hy | hy
      · exact hgb y hy
      · rw [List.mem_singleton.mp hy]
        exact ⟨a8, b8⟩
    obtain ⟨gs, hgl, hgb, s7, R7, hD⟩ := h
    walk_at "go"
    refine r_setI (.inl (SqL.of hD)) (by omega) fun p8 c n8 hc => ?_
    walk_at "go"
    refine r_sortedS (ns := gs) (c := c) upd_same (by omega) fun ms p9 h1' h2' h3' n9 => ?_
    walk_at "go"
    refine r_tupL (SqL.of upd_same) fun l n10 => ?_
    walk_at "go"
    have R8 : Fr H (upd H7 p8 (SetO w p8 (fun j => decide (j ∈ gs)) c)) := (R03.trans R7).same (same_new n8)
    have s8 := s7.new (u := SetO w p8 (fun j => decide (j ∈ gs)) c) n8
    refine k l ms _ ⟨by omega, ?_, h1', fun m hm => hgb m ((h2' m).mp hm)⟩ ((s8.new n9).new n10) ((R8.same (same_new n9)).same (same_new n10)) upd_same
    obtain ⟨y, hy⟩ := List.exists_mem_of_length_pos (show 0 < gs.length by omega)
    exact List.length_pos_of_mem ((h2' y).mpr hy)
end
end Rd

namespace Rd
open PySem L2 LamX
theorem kn1 : ¬ (("gear" : Str) = "marks") := by decide +kernel
theorem kn2 : ¬ (("gear" : Str) = "standing") := by decide +kernel
theorem kn3 : ¬ (("marks" : Str) = "standing") := by decide +kernel
/-- a keeper's attributes -/
def flds (g ml z : Addr) : List (Str × V) := putF "standing" (.ref z) (putF "marks" (.ref ml) (putF "gear" (.ref g) []))
theorem fl_g (g ml z : Addr) : (flds g ml z).lookup ("gear" : Str) = some (.ref g) := by
  unfold flds
  rw [lookup_putF, if_neg kn2, lookup_putF, if_neg kn1, lookup_putF, if_pos rfl]
theorem fl_m (g ml z : Addr) : (flds g ml z).lookup ("marks" : Str) = some (.ref ml) := by
  unfold flds
  rw [lookup_putF, if_neg kn3, lookup_putF, if_pos rfl]
theorem fl_s (g ml z : Addr) : (flds g ml z).lookup ("standing" : Str) = some (.ref z) := by
  unfold flds
  rw [lookup_putF, if_pos rfl]
theorem fl_no (g ml z : Addr) {m : Str} (h1 : ¬ m = "gear") (h2 : ¬ m = "marks") (h3 : ¬ m = "standing") : (flds g ml z).lookup m = none := by
  unfold flds
  rw [lookup_putF, if_neg h3, lookup_putF, if_neg h2, lookup_putF, if_neg h1]
  rfl
theorem fl_put (g ml z z' : Addr) : putF "standing" (.ref z') (flds g ml z) = flds g ml z' := by
  unfold flds
  show putF "standing" (.ref z') (if ("gear" : Str) = "standing" then _ else (("gear" : Str), V.ref g) :: _) = (if ("gear" : Str) = "standing" then _ else (("gear" : Str), V.ref g) :: _)
  have e1 : putF "marks" (.ref ml) (putF "gear" (.ref g) []) = [(("gear" : Str), V.ref g), ("marks", V.ref ml)] := by
    show (if ("gear" : Str) = "marks" then _ else _) = _
    rw [if_neg kn1]
    rfl
  have e2 : ∀ y : Addr, putF "standing" (.ref y) [(("gear" : Str), V.ref g), ("marks", V.ref ml)] = [(("gear" : Str), V.ref g), ("marks", V.ref ml), ("standing", V.ref y)] := fun y => by
    show (if ("gear" : Str) = "standing" then _ else (("gear" : Str), V.ref g) :: (if ("marks" : Str) = "standing" then _ else _)) = _
    rw [if_neg kn2, if_neg kn3]
    rfl
  show putF "standing" (.ref z') (putF "standing" (.ref z) (putF "marks" (.ref ml) (putF "gear" (.ref g) []))) = putF "standing" (.ref z') (putF "marks" (.ref ml) (putF "gear" (.ref g) []))
  rw [e1, e2, e2]
  show (if ("gear" : Str) = "standing" then _ else (("gear" : Str), V.ref g) :: (if ("marks" : Str) = "standing" then _ else (("marks" : Str), V.ref ml) :: (if ("standing" : Str) = "standing" then _ else _))) = _
  rw [if_neg kn2, if_neg kn3, if_pos rfl]
/-- a keeper stands at p -/
def KpAt (C : Addr) (H : Hp) (p g ml z : Addr) : Prop := ∃ dx, H p = some (.ins C dx (flds g ml z))
structure KTxt (K : PySem.W.Frag) (C : Addr) : Prop where
  cl : Cls K C
  nG : NoAttr K C "gear"
  nM : NoAttr K C "marks"
  nS : NoAttr K C "standing"
/-- all but one address stays -/
def But (p : Addr) (H H' : Hp) : Prop := ∀ b o, b ≠ p → H b = some o → H' b = some o
theorem But.refl (p : Addr) (H : Hp) : But p H H := fun _ _ _ e => e
theorem But.trans {p : Addr} {H H1 H2 : Hp} (a : But p H H1) (b : But p H1 H2) : But p H H2 := fun c o n e => b c o n (a c o n e)
theorem But.of {p : Addr} {H H1 : Hp} (a : Same H H1) : But p H H1 := fun c o _ e => a c o e
theorem But.same {p : Addr} {H H0 H1 : Hp} (a : But p H H1) (n : H0 p = none) (s : Same H0 H) : Same H0 H1 := fun b o e => a b o (ne_of_none e n) (s b o e)
theorem Tabs.but {T : List (Addr × Str)} {H H' : Hp} {p C dx : Addr} {fs : List (Str × V)} (t : Tabs T H) (h : H p = some (.ins C dx fs)) (R : But p H H') : Tabs T H' := fun q hq => by
  obtain ⟨ps, h1, h2, h3⟩ := t q hq
  refine ⟨ps, R _ _ (ne_of h1 h fun z => nomatch z) h1, h2, fun pos cv hc => ?_⟩
  obtain ⟨c, e1, e2⟩ := h3 pos cv hc
  exact ⟨c, e1, R _ _ (ne_of e2 h fun z => nomatch z) e2⟩
section
variable {P : Program} {w : World} {K : PySem.W.Frag} {mg : Str → Option Value} {base : Heap} {C : Addr}
section
variable {H : Hp} {Q : VK} {p g ml z : Addr}
theorem rk_g {R : V → Prop} (T : KTxt K C) (h : KpAt C H p g ml z) (k : R (.ref g)) : ∃ a C dx fs v, V.ref p = .ref a ∧ H a = some (.ins C dx fs) ∧ Cls K C ∧ NoAttr K C "gear" ∧ fs.lookup ("gear" : Str) = some v ∧ R v := by
  obtain ⟨dx, e⟩ := h
  exact ⟨p, C, dx, _, _, rfl, e, T.cl, T.nG, fl_g _ _ _, k⟩
theorem rk_m {R : V → Prop} (T : KTxt K C) (h : KpAt C H p g ml z) (k : R (.ref ml)) : ∃ a C dx fs v, V.ref p = .ref a ∧ H a = some (.ins C dx fs) ∧ Cls K C ∧ NoAttr K C "marks" ∧ fs.lookup ("marks" : Str) = some v ∧ R v := by
  obtain ⟨dx, e⟩ := h
  exact ⟨p, C, dx, _, _, rfl, e, T.cl, T.nM, fl_m _ _ _, k⟩
theorem rk_s {R : V → Prop} (T : KTxt K C) (h : KpAt C H p g ml z) (k : R (.ref z)) : ∃ a C dx fs v, V.ref p = .ref a ∧ H a = some (.ins C dx fs) ∧ Cls K C ∧ NoAttr K C "standing" ∧ fs.lookup ("standing" : Str) = some v ∧ R v := by
  obtain ⟨dx, e⟩ := h
  exact ⟨p, C, dx, _, _, rfl, e, T.cl, T.nS, fl_s _ _ _, k⟩
theorem rk_set {R : Hp → Prop} {z' : Addr} (T : KTxt K C) (h : KpAt C H p g ml z) (k : ∀ H', KpAt C H' p g ml z' → But p H H' → R H') : ∃ a C dx fs, V.ref p = .ref a ∧ H a = some (.ins C dx fs) ∧ Cls K C ∧ NoAttr K C "standing" ∧ fs.length < 1000 ∧ R (upd H a (.ins C dx (putF "standing" (.ref z') fs))) := by
  obtain ⟨dx, e⟩ := h
  refine ⟨p, C, dx, _, rfl, e, T.cl, T.nS, ?_, k _ ⟨dx, by rw [fl_put]; exact upd_same⟩ fun b o n q => at_wr n q⟩
  have : (flds g ml z).length = 3 := by
    unfold flds
    show (putF "standing" (.ref z) (if ("gear" : Str) = "marks" then _ else (("gear" : Str), V.ref g) :: [("marks", V.ref ml)])).length = 3
    rw [if_neg kn1]
    show (if ("gear" : Str) = "standing" then _ else (("gear" : Str), V.ref g) :: (if ("marks" : Str) = "standing" then _ else _)).length = 3
    rw [if_neg kn2, if_neg kn3]
    rfl
  omega
theorem rk_o {m : Str} {R : Prop} (h : KpAt C H p g ml z) (h1 : ¬ m = "gear") (h2 : ¬ m = "marks") (h3 : ¬ m = "standing") (k : R) : ∃ a dx fs, V.ref p = .ref a ∧ H a = some (.ins C dx fs) ∧ fs.lookup m = none ∧ R := by
  obtain ⟨dx, e⟩ := h
  exact ⟨p, dx, _, rfl, e, fl_no _ _ _ h1 h2 h3, k⟩
theorem KpAt.same {H' : Hp} (h : KpAt C H p g ml z) (R : Same H H') : KpAt C H' p g ml z := by
  obtain ⟨dx, e⟩ := h
  exact ⟨dx, R _ _ e⟩
theorem KpAt.ext {H' : Hp} (h : KpAt C H p g ml z) (R : ExtN H H') : KpAt C H' p g ml z := by
  obtain ⟨dx, e⟩ := h
  exact ⟨dx, R _ _ e fun ps q => nomatch q⟩
theorem KpAt.ne {b : Addr} {xs : List V} (h : KpAt C H p g ml z) (e : H b = some (.tup xs)) : b ≠ p := by
  obtain ⟨dx, e2⟩ := h
  exact ne_of e e2 fun q => nomatch q
end
def spInit (C : Addr) : Sp := fun vs H Q _ => ∃ (p dx g : Addr) (r pl : Int) (ml : Addr) (ms : List Int) (z : Addr) (x : Int × Int), vs = [.ref p, .ref g, .ref ml, .ref z] ∧ H p = some (.ins C dx []) ∧ GearAt H g r pl ∧ H ml = some (.tup (ms.map V.int)) ∧ Marks r ms ∧ H z = some (.tup [.int x.1, .int x.2]) ∧ Stg pl x ∧
  ∀ H', KpAt C H' p g ml z → But p H H' → Q .non H'
theorem spInit_i {p dx g ml z : Addr} {r pl : Int} {ms : List Int} {x : Int × Int} {H : Hp} {Q : VK} {E : XK} (hp : H p = some (.ins C dx [])) (G : GearAt H g r pl) (hm : H ml = some (.tup (ms.map V.int))) (M : Marks r ms) (hz : H z = some (.tup [.int x.1, .int x.2])) (hs : Stg pl x)
    (k : ∀ H', KpAt C H' p g ml z → But p H H' → Q .non H') : spInit C [.ref p, .ref g, .ref ml, .ref z] H Q E := ⟨p, dx, g, r, pl, ml, ms, z, x, rfl, hp, G, hm, M, hz, hs, k⟩
theorem ok_Keeper_init (B : Bl mg) (T : KTxt K C) (mk : PySem.W.makesIn K C = true) (kC : PySem.W.keepIn K (.ref C) = true) (hC : mg "Keeper" = some (.ref C)) (F : MethAt K C "__init__" "Keeper.__init__" s_Keeper_init) (H_need_marks : Has P w K mg base CX0 2 "need_marks" spNMk) (H_need_standing : Has P w K mg base CX0 2 "need_standing" spNS) :
    HasMk P w K mg base CX0 C 3 "Keeper" (spInit C) := by
  refine F.make hC mk kC sc_Keeper_init bo_Keeper_init (fun vs H Q E h => ?_) (fun f cdv A outer s H vs Q E hr h => ?_)
  · obtain ⟨p, dx, g, r, pl, ml, ms, z, x, rfl, _⟩ := h
    rfl
  · obtain ⟨p, dx, g, r, pl, ml, ms, z, x, rfl, hp, G, hm, M, hz, hs, k⟩ := h
    refine ⟨_, (pss_cons (ps_expr (pe_has H_need_marks hr (by omega) rfl pass0 (pa_cons (pv 1) (pa_cons (pv 2) pa_nil))))
 (pss_cons (ps_expr (pe_has H_need_standing hr (by omega) rfl pass0 (pa_cons (pv 1) (pa_cons (pv 3) pa_nil))))
 (pss_cons (kps_fld (K := K) rfl (pv 0) (pe_callTy (kc_tup (K := K) rfl) rfl B.tuple (by decide +kernel) (pa_cons (pv 1) pa_nil)))
 (pss_cons (kps_fld (K := K) rfl (pv 0) (pe_callTy (kc_tup (K := K) rfl) rfl B.tuple (by decide +kernel) (pa_cons (pv 2) pa_nil)))
 (pss_one (kps_fld (K := K) rfl (pv 0) (pe_callTy (kc_tup (K := K) rfl) rfl B.tuple (by decide +kernel) (pa_cons (pv 3) pa_nil)))))))), ?_⟩
    refine r_start (σ' := [some (.ref p), some (.ref g), some (.ref ml), some (.ref z)]) rfl ?_
    walk_at "go"
    refine spNMk_i G hm M fun H1 h1 => ?_
    walk_at "go"
    refine spNS_i (G.mono (h1 _ _ G.at_)) (h1 _ _ hz) hs ?_
    walk_at "go"
    refine r_setFld ?_
    walk_at "go"
    refine r_tupT (SqT.of (h1 _ _ G.at_)) ?_
    walk_at "go"
    have hp1 := h1 _ _ hp
    have ne : ∀ {b : Addr} {xs : List V}, H1 b = some (.tup xs) → b ≠ p := fun e => ne_of e hp1 fun q => nomatch q
    refine ⟨p, C, dx, [], rfl, hp1, T.cl, T.nG, by show 0 < 1000; decide, ?_⟩
    have w2 : But p H1 (upd H1 p (.ins C dx (putF "gear" (.ref g) []))) := fun b o n e => at_wr n e
    have hp2 : upd H1 p (.ins C dx (putF "gear" (.ref g) [])) p = some (.ins C dx (putF "gear" (.ref g) [])) := upd_same
    generalize upd H1 p (.ins C dx (putF "gear" (.ref g) [])) = H2 at w2 hp2 ⊢
    walk_at "go"
    refine r_setFld ?_
    walk_at "go"
    have hm1 := h1 _ _ hm
    have hz1 := h1 _ _ hz
    refine r_tupT (SqT.of (w2 _ _ (ne hm1) hm1)) ?_
    walk_at "go"
    refine ⟨p, C, dx, _, rfl, hp2, T.cl, T.nM, by show 1 < 1000; decide, ?_⟩
    have w3 : But p H2 (upd H2 p (.ins C dx (putF "marks" (.ref ml) (putF "gear" (.ref g) [])))) := fun b o n e => at_wr n e
    have hp3 : upd H2 p (.ins C dx (putF "marks" (.ref ml) (putF "gear" (.ref g) []))) p = some (.ins C dx (putF "marks" (.ref ml) (putF "gear" (.ref g) []))) := upd_same
    generalize upd H2 p (.ins C dx (putF "marks" (.ref ml) (putF "gear" (.ref g) []))) = H3 at w3 hp3 ⊢
    walk_at "go"
    refine r_setFld ?_
    walk_at "go"
    refine r_tupT (SqT.of (w3 _ _ (ne hz1) (w2 _ _ (ne hz1) hz1))) ?_
    walk_at "go"
    refine ⟨p, C, dx, _, rfl, hp3, T.cl, T.nS, ?_, ?_⟩
    · show (if ("gear" : Str) = "marks" then _ else (("gear" : Str), V.ref g) :: [("marks", V.ref ml)]).length < 1000
      rw [if_neg kn1]
      show 2 < 1000
      decide
    · walk_at "go"
      exact k _ ⟨dx, upd_same⟩ fun b o n e => at_wr n (w3 _ _ n (w2 _ _ n (h1 _ _ e)))
def spMove (C : Addr) : Sp := fun vs H Q _ => ∃ (p g ml z : Addr) (r pl : Int) (x : Int × Int) (d : Int), vs = [.ref p, .int d] ∧ KpAt C H p g ml z ∧ H g = some (.tup [.int r, .int pl]) ∧ H z = some (.tup [.int x.1, .int x.2]) ∧
  ∀ (z' : Addr) (H' : Hp), KpAt C H' p g ml z' → H z' = none → H' z' = some (.tup [.int (nx pl x d).1, .int (nx pl x d).2]) → But p H H' → Q .non H'
theorem spMove_i {p g ml z : Addr} {r pl d : Int} {x : Int × Int} {H : Hp} {Q : VK} {E : XK} (h : KpAt C H p g ml z) (hg : H g = some (.tup [.int r, .int pl])) (hz : H z = some (.tup [.int x.1, .int x.2]))
    (k : ∀ (z' : Addr) (H' : Hp), KpAt C H' p g ml z' → H z' = none → H' z' = some (.tup [.int (nx pl x d).1, .int (nx pl x d).2]) → But p H H' → Q .non H') : spMove C [.ref p, .int d] H Q E := ⟨p, g, ml, z, r, pl, x, d, rfl, h, hg, hz, k⟩
theorem ok_Keeper_move (T : KTxt K C) (F : MethAt K C "move" "Keeper.move" s_Keeper_move) (H_behind : Has P w K mg base CX0 1 "behind" spBehind) : HasM P w K mg base CX0 C 2 "move" (spMove C) := by
  refine F.ok sc_Keeper_move bo_Keeper_move (fun vs H Q E h => ?_) (fun f cdv A outer s H vs Q E hr h => ?_)
  · obtain ⟨p, g, ml, z, r, pl, x, d, rfl, _⟩ := h
    rfl
  · obtain ⟨p, g, ml, z, r, pl, x, d, rfl, h, hg, hz, k⟩ := h
    refine ⟨_, (pss_one (kps_fld (K := K) rfl (pv 0) (pe_has H_behind hr (by omega) rfl pass0 (pa_cons (kpe_fld (K := K) rfl (pv 0)) (pa_cons (kpe_fld (K := K) rfl (pv 0)) (pa_cons (pv 1) pa_nil)))))), ?_⟩
    refine r_start (σ' := [some (.ref p), some (.int d)]) rfl ?_
    walk_at "go"
    refine r_setFld ?_
    walk_at "go"
    refine r_fld ?_
    walk_at "go"
    refine rk_g T h ?_
    walk_at "go"
    refine r_fld ?_
    walk_at "go"
    refine rk_s T h ?_
    walk_at "go"
    refine spBehind_i hg hz fun q H1 nq h1 hq => ?_
    walk_at "go"
    refine rk_set T (h.same h1) fun H2 h2 w2 => ?_
    walk_at "go"
    exact k q H2 h2 nq (w2 _ _ ((h.same h1).ne hq) hq) ((But.of h1).trans w2)
def spBelieved (C : Addr) : Sp := fun vs H Q _ => ∃ (p g ml z : Addr), vs = [.ref p] ∧ KpAt C H p g ml z ∧ Q (.ref z) H
theorem spBelieved_i {p g ml z : Addr} {H : Hp} {Q : VK} {E : XK} (h : KpAt C H p g ml z) (k : Q (.ref z) H) : spBelieved C [.ref p] H Q E := ⟨p, g, ml, z, rfl, h, k⟩
theorem ok_Keeper_believed (T : KTxt K C) (F : MethAt K C "believed" "Keeper.believed" s_Keeper_believed) : HasM P w K mg base CX0 C 1 "believed" (spBelieved C) := by
  refine F.ok sc_Keeper_believed bo_Keeper_believed (fun vs H Q E h => ?_) (fun f cdv A outer s H vs Q E hr h => ?_)
  · obtain ⟨p, g, ml, z, rfl, _⟩ := h
    rfl
  · obtain ⟨p, g, ml, z, rfl, h, k⟩ := h
    refine ⟨_, (pss_one (ps_ret (kpe_fld (K := K) rfl (pv 0)))), ?_⟩
    refine r_start (σ' := [some (.ref p)]) rfl ?_
    walk_at "go"
    refine r_fld ?_
    walk_at "go"
    exact rk_s T h k
def spMovedBy (C : Addr) : Sp := fun vs H Q _ => ∃ (p g ml z : Addr) (x : Int × Int) (v : Int), vs = [.ref p, .int v] ∧ KpAt C H p g ml z ∧ H z = some (.tup [.int x.1, .int x.2]) ∧
  ∀ (z' : Addr) (H' : Hp), KpAt C H' p g ml z' → H z' = none → H' z' = some (.tup [.int (x.1 + v), .int (x.2 + v)]) → But p H H' → Q (.int v) H'
theorem spMovedBy_i {p g ml z : Addr} {v : Int} {x : Int × Int} {H : Hp} {Q : VK} {E : XK} (h : KpAt C H p g ml z) (hz : H z = some (.tup [.int x.1, .int x.2]))
    (k : ∀ (z' : Addr) (H' : Hp), KpAt C H' p g ml z' → H z' = none → H' z' = some (.tup [.int (x.1 + v), .int (x.2 + v)]) → But p H H' → Q (.int v) H') : spMovedBy C [.ref p, .int v] H Q E := ⟨p, g, ml, z, x, v, rfl, h, hz, k⟩
theorem ok_Keeper_moved_by (T : KTxt K C) (F : MethAt K C "moved_by" "Keeper.moved_by" s_Keeper_moved_by) : HasM P w K mg base CX0 C 1 "moved_by" (spMovedBy C) := by
  refine F.ok sc_Keeper_moved_by bo_Keeper_moved_by (fun vs H Q E h => ?_) (fun f cdv A outer s H vs Q E hr h => ?_)
  · obtain ⟨p, g, ml, z, x, v, rfl, _⟩ := h
    rfl
  · obtain ⟨p, g, ml, z, x, v, rfl, h, hz, k⟩ := h
    refine ⟨_, (pss_cons (kps_fld (K := K) rfl (pv 0) (pe_tup (pa_cons (pe_op (kop_add (K := K) rfl) (pe_ix (kix (K := K) rfl) (kpe_fld (K := K) rfl (pv 0)) pe_int (fun _ _ => rfl)) (pv 1)) (pa_cons (pe_op (kop_add (K := K) rfl) (pe_ix (kix (K := K) rfl) (kpe_fld (K := K) rfl (pv 0)) pe_int (fun _ _ => rfl)) (pv 1)) pa_nil))))
 (pss_one (ps_ret (pv 1)))), ?_⟩
    refine r_start (σ' := [some (.ref p), some (.int v)]) rfl ?_
    walk_at "go"
    refine r_setFld ?_
    walk_at "go"
    refine r_fld ?_
    walk_at "go"
    refine rk_s T h ?_
    walk_at "go"
    refine r_fld ?_
    walk_at "go"
    refine rk_s T h ?_
    walk_at "go"
    intro q nq
    walk_at "go"
    refine rk_set T (h.same (same_new nq)) fun H2 h2 w2 => ?_
    walk_at "go"
    have hq : upd H q (.tup [.int (x.1 + v), .int (x.2 + v)]) q = some (.tup [.int (x.1 + v), .int (x.2 + v)]) := upd_same
    exact k q H2 h2 nq (w2 _ _ ((h.same (same_new nq)).ne hq) hq) ((But.of (same_new nq)).trans w2)
def spFound (C : Addr) : Sp := fun vs H Q _ => ∃ (p g ml z : Addr) (r pl : Int) (ms : List Int) (x : Int × Int) (n : Nat), vs = [.ref p, .int n] ∧ KpAt C H p g ml z ∧ H g = some (.tup [.int r, .int pl]) ∧ 0 < r ∧ H ml = some (.tup (ms.map V.int)) ∧ n < ms.length ∧ H z = some (.tup [.int x.1, .int x.2]) ∧
  ∀ (v : Int) (z' : Addr) (H' : Hp), v = offT r x.2 (ms.getD n 0) → KpAt C H' p g ml z' → H z' = none → H' z' = some (.tup [.int (x.1 + v), .int (x.2 + v)]) → But p H H' → Q (.int v) H'
theorem spFound_i {p g ml z : Addr} {r pl : Int} {ms : List Int} {x : Int × Int} {n : Nat} {H : Hp} {Q : VK} {E : XK} (h : KpAt C H p g ml z) (hg : H g = some (.tup [.int r, .int pl])) (h0 : 0 < r) (hm : H ml = some (.tup (ms.map V.int))) (hn : n < ms.length) (hz : H z = some (.tup [.int x.1, .int x.2]))
    (k : ∀ (v : Int) (z' : Addr) (H' : Hp), v = offT r x.2 (ms.getD n 0) → KpAt C H' p g ml z' → H z' = none → H' z' = some (.tup [.int (x.1 + v), .int (x.2 + v)]) → But p H H' → Q (.int v) H') : spFound C [.ref p, .int n] H Q E := ⟨p, g, ml, z, r, pl, ms, x, n, rfl, h, hg, h0, hm, hn, hz, k⟩
theorem at_getD9 {ms : List Int} {k : Nat} (h : k < ms.length) : (ms.map V.int)[k]? = some (.int (ms.getD k 0)) := by
  rw [List.getElem?_map, List.getElem?_eq_getElem h, List.getD_eq_getElem?_getD, List.getElem?_eq_getElem h]
  rfl
theorem ok_Keeper_found (B : Bl mg) (T : KTxt K C) (F : MethAt K C "found" "Keeper.found" s_Keeper_found) (H_off_to : Has P w K mg base CX0 1 "off_to" spOff) (HM_Keeper_moved_by : HasM P w K mg base CX0 C 1 "moved_by" (spMovedBy C)) : HasM P w K mg base CX0 C 2 "found" (spFound C) := by
  refine F.ok sc_Keeper_found bo_Keeper_found (fun vs H Q E h => ?_) (fun f cdv A outer s H vs Q E hr h => ?_)
  · obtain ⟨p, g, ml, z, r, pl, ms, x, n, rfl, _⟩ := h
    rfl
  · obtain ⟨p, g, ml, z, r, pl, ms, x, n, rfl, h, hg, h0, hm, hn, hz, k⟩ := h
    have T_Keeper := T
    refine ⟨_, (pss_cons (ps_if (pt_not (pt_chain op_le op_lt pe_int (pv 1) (pe_callB (kc_len (K := K) rfl) rfl B.len (by decide +kernel) (pa_cons (kpe_fld (K := K) rfl (pv 0)) pa_nil)))) (pss_one ps_never) pss_nil)
 (pss_one (ps_ret (pe_hasM HM_Keeper_moved_by T_Keeper.cl hr (by omega) (pv 0) pass0 (pa_cons (pe_has H_off_to hr (by omega) rfl pass0 (pa_cons (pe_ix (kix (K := K) rfl) (kpe_fld (K := K) rfl (pv 0)) pe_int (fun _ _ => rfl)) (pa_cons (pe_ix (kix (K := K) rfl) (kpe_fld (K := K) rfl (pv 0)) pe_int (fun _ _ => rfl)) (pa_cons (pe_ix (kix (K := K) rfl) (kpe_fld (K := K) rfl (pv 0)) (pv 1) (fun _ _ => rfl)) pa_nil)))) pa_nil))))), ?_⟩
    refine r_start (σ' := [some (.ref p), some (.int n)]) rfl ?_
    walk_at "go"
    refine iteDT (by omega) ?_
    walk_at "go"
    refine r_fld ?_
    walk_at "go"
    refine rk_m T h ?_
    walk_at "go"
    rw [List.length_map]
    refine iteNF (by omega) ?_
    walk_at "go"
    refine r_meth ?_
    walk_at "go"
    refine rk_o h (by decide +kernel) (by decide +kernel) (by decide +kernel) ?_
    walk_at "go"
    refine r_fld ?_
    walk_at "go"
    refine rk_g T h ?_
    walk_at "go"
    refine r_fld ?_
    walk_at "go"
    refine rk_s T h ?_
    walk_at "go"
    refine r_fld ?_
    walk_at "go"
    refine rk_m T h ?_
    walk_at "go"
    refine r_ix (v := .int (ms.getD n 0)) (.inr (SqT.of hm)) (at_of (j := n) rfl (at_getD9 hn)) ?_
    walk_at "go"
    refine spOff_i h0 ?_
    walk_at "go"
    exact spMovedBy_i h hz fun z' H' h2 n2 e2 w2 => k _ z' H' rfl h2 n2 e2 w2
def spFoundAny (C : Addr) (TT : List (Addr × Str)) : Sp := fun vs H Q _ => ∃ (p g ml z : Addr) (r pl : Int) (ms : List Int) (x : Int × Int), vs = [.ref p] ∧ KpAt C H p g ml z ∧ H g = some (.tup [.int r, .int pl]) ∧ 0 < r ∧ H ml = some (.tup (ms.map V.int)) ∧ 0 < ms.length ∧ ms.length ≤ 12 ∧ H z = some (.tup [.int x.1, .int x.2]) ∧ Tabs TT H ∧
  ∀ (v : Int) (z' : Addr) (H1 H' : Hp), v ∈ ms.map (offT r x.2) → (∀ y ∈ ms.map (offT r x.2), cod v ≤ cod y) → KpAt C H' p g ml z' → H1 z' = none → H' z' = some (.tup [.int (x.1 + v), .int (x.2 + v)]) → ExtN H H1 → But p H1 H' → Tabs TT H' → Q (.int v) H'
theorem spFoundAny_i {TT : List (Addr × Str)} {p g ml z : Addr} {r pl : Int} {ms : List Int} {x : Int × Int} {H : Hp} {Q : VK} {E : XK} (h : KpAt C H p g ml z) (hg : H g = some (.tup [.int r, .int pl])) (h0 : 0 < r) (hm : H ml = some (.tup (ms.map V.int))) (hn : 0 < ms.length) (hn2 : ms.length ≤ 12) (hz : H z = some (.tup [.int x.1, .int x.2])) (hT : Tabs TT H)
    (k : ∀ (v : Int) (z' : Addr) (H1 H' : Hp), v ∈ ms.map (offT r x.2) → (∀ y ∈ ms.map (offT r x.2), cod v ≤ cod y) → KpAt C H' p g ml z' → H1 z' = none → H' z' = some (.tup [.int (x.1 + v), .int (x.2 + v)]) → ExtN H H1 → But p H1 H' → Tabs TT H' → Q (.int v) H') : spFoundAny C TT [.ref p] H Q E := ⟨p, g, ml, z, r, pl, ms, x, rfl, h, hg, h0, hm, hn, hn2, hz, hT, k⟩
theorem ok_Keeper_found_any {TT : List (Addr × Str)} {c Pt : Addr} (B : Bl mg) (T : KTxt K C) (F : MethTab K C "found_any" "Keeper.found_any" s_Keeper_found_any c Pt) (TB : TabB base mg c Pt) (hmT : (Pt, ("Keeper.found_any" ++ ".<locals>." ++ "<lambda>" : Str)) ∈ TT) (huT : ∀ p ∈ TT, p.1 = Pt → p.2 = ("Keeper.found_any" ++ ".<locals>." ++ "<lambda>" : Str))
    (H_off_to : Has P w K mg base CX0 1 "off_to" spOff) (HM_Keeper_moved_by : HasM P w K mg base CX0 C 1 "moved_by" (spMovedBy C)) : HasM P w K mg base CX0 C 3 "found_any" (spFoundAny C TT) := by
  refine F.ok sc_Keeper_found_any bo_Keeper_found_any (fun vs H Q E h => ?_) (fun f A outer s H vs Q E hr h => ?_)
  · obtain ⟨p, g, ml, z, r, pl, ms, x, rfl, _⟩ := h
    rfl
  · obtain ⟨p, g, ml, z, r, pl, ms, x, rfl, h, hg, h0, hm, hn, hn2, hz, hT, k⟩ := h
    have T_Keeper := T
    refine ⟨_, (pss_cons (ps_setLc (i := 1) (own := [("mark", 2)]) (g := (gName 2)) rfl sc_Keeper_found_any.nd rfl rfl (sw_true rfl rfl rfl (by decide +kernel)) (kpi_tup (K := K) rfl (kpe_fld (K := K) rfl (pv 0))) (blkOk_by (N := ["self", "offs", "mark"]) (sc := defScope s_Keeper_found_any) (own := [("mark", 2)]) (by decide +kernel)) (fun _ _ _ _ _ => (pg_name (i := 2) sc_Keeper_found_any.nd rfl (by first | exact Or.inl rfl | exact Or.inr rfl))) (fun _ _ _ _ _ => pts_nil) (fun _ _ _ _ _ => (pe_has H_off_to hr (by omega) rfl pass0 (pa_cons (pe_ix (kix (K := K) rfl) (kpe_fld (K := K) rfl (pv 0)) pe_int (fun _ _ => rfl)) (pa_cons (pe_ix (kix (K := K) rfl) (kpe_fld (K := K) rfl (pv 0)) pe_int (fun _ _ => rfl)) (pa_cons (pv 2) pa_nil))))))
 (pss_one (ps_ret (pe_hasM HM_Keeper_moved_by T_Keeper.cl hr (by omega) (pv 0) pass0 (pa_cons (pe_minKey (K := K) (T := TT) (k := 0) (a := "off") rfl rfl B.min (pv 1) TB rfl hmT huT (hr.mono (by omega)) ⟨rfl, rfl, rfl, by decide +kernel, rfl, by decide +kernel, by decide +kernel⟩ rfl rfl (fun _ _ _ _ _ => rfl) (fun _ _ _ _ _ _ => (pe_tup (pa_cons (pe_callB call_absA rfl B.abs (by decide +kernel) (pa_cons (pv 0) pa_nil)) (pa_cons (pe_op op_sub pe_int (pv 0)) pa_nil)))) (by intro n H Q k; walk_at "go"; intro t nt; exact k t nt)) pa_nil))))), ?_⟩
    refine r_start (σ' := [some (.ref p), none, none]) rfl ?_
    walk_at "go"
    refine r_iTup ?_
    refine r_fld ?_
    walk_at "go"
    refine rk_m T h ?_
    refine ⟨_, rfl, ⟨_, SqT.of hm⟩, fun D nD => lcw_tup (K := K) (a := ml) (xs := ms.map V.int) (σw := [some (.ref p), none, none])
      (fun j H7 => Same H H7 ∧ H7 D = some (.lst (((ms.take j).map (offT r x.2)).map V.int))) rfl ⟨same_new nD, upd_same⟩ (fun j H7 _ h => SqT.of (h.1 _ _ hm)) (fun j y H7 hj h7 => ?_) fun H7 h7 => ?_⟩
    · obtain ⟨s7, hD⟩ := h7
      obtain ⟨m, hmm, rfl⟩ := map_at hj
      have k7 := h.same s7
      have hg7 := s7 _ _ hg
      have hz7 := s7 _ _ hz
      walk_at "go"
      refine ⟨rfl, ?_⟩
      walk_at "go"
      refine iteT ?_
      walk_at "go"
      refine r_fld ?_
      walk_at "go"
      refine rk_g T k7 ?_
      walk_at "go"
      refine r_fld ?_
      walk_at "go"
      refine rk_s T k7 ?_
      walk_at "go"
      refine spOff_i h0 ?_
      refine ⟨_, hD, by rw [List.length_map, List.length_map, List.length_take]; exact small1000 (by omega), fun b o e => at_wr (ne_of_none e nD) (s7 _ _ e), ?_⟩
      rw [upd_same, take_snoc hmm]
      simp
    obtain ⟨s7, hD⟩ := h7
    rw [List.length_map, List.take_length] at hD
    have k7 := h.same s7
    walk_at "go"
    refine r_meth ?_
    walk_at "go"
    refine rk_o k7 (by decide +kernel) (by decide +kernel) (by decide +kernel) ?_
    walk_at "go"
    refine r_minKey ?_
    walk_at "go"
    refine ⟨D, _, rfl, SqL.of hD, by rw [List.length_map]; exact hn, hT.ext s7, fun v H8 v1 v2 e8 T8 => ?_⟩
    walk_at "go"
    have k8 := k7.ext e8
    have hz8 := ExtN.at_tup e8 (s7 _ _ hz)
    refine spMovedBy_i k8 hz8 fun z' H9 k9 n9 hz9 w9 => ?_
    obtain ⟨dx, ed⟩ := id k8
    exact k v z' H8 H9 v1 v2 k9 n9 hz9 ((ExtN.of s7).trans e8) w9 (Tabs.but T8 ed w9)
end
end Rd

namespace Rd
open PySem PySem.Spec PyProof.Rows L2 LamX
set_option maxHeartbeats 8000000 in
theorem kind_gives {X : Cx} {G : Addr} {cs : Nat → Addr} {q : Str} {g : Addr} {cdg : Value} (B : Bl X.mg) (Z_ValueError : X.mg "ValueError" = none) (hr : Room 1 X.A) (G_GearError : ClsG X.mg "GearError" G) (G_BadGear : ClsG X.mg "BadGear" (cs 0)) (G_BadStanding : ClsG X.mg "BadStanding" (cs 1))
    (G_BadMoves : ClsG X.mg "BadMoves" (cs 2)) (G_BadGoal : ClsG X.mg "BadGoal" (cs 3)) (G_BadMarks : ClsG X.mg "BadMarks" (cs 4)) (G_BadMark : ClsG X.mg "BadMark" (cs 5)) (G_BadText : ClsG X.mg "BadText" (cs 6)) :
    GivesTo X ["_law_work", "e", "_law_kinds", "_law_words", "_law_word"] "_law_kind" (defScope s_law_kind) g cdg (defBody s_law_kind) "_law_work" q (TTKind X.K G cs) := by
  refine kp_gives (K := X.K) (G := G) (cs := cs) rfl rfl G_GearError (by decide) (fun _ => rfl) sc_law_kind.nd rfl rfl (fun s H a oe cls d pn hz hf => by have hu : (X.A.deeper (envOfC "_law_kind" (defScope s_law_kind) s.heap.objs.size g cdg)).units + 64 < cLine := (hr.deeper _).units; exact (pss_cons (ps_set (i := 2) sc_law_kind.nd rfl (by first | exact Or.inl rfl | exact Or.inr rfl) (pe_lst (pa_cons (pe_callB (kc_isX (K := X.K) rfl hz hf) rfl B.isinstance (by decide +kernel) (pa_cons (pv 1) (pa_cons (pe_clsG G_BadGear rfl) pa_nil))) (pa_cons (pe_callB (kc_isX (K := X.K) rfl hz hf) rfl B.isinstance (by decide +kernel) (pa_cons (pv 1) (pa_cons (pe_clsG G_BadStanding rfl) pa_nil))) (pa_cons (pe_callB (kc_isX (K := X.K) rfl hz hf) rfl B.isinstance (by decide +kernel) (pa_cons (pv 1) (pa_cons (pe_clsG G_BadMoves rfl) pa_nil))) (pa_cons (pe_callB (kc_isX (K := X.K) rfl hz hf) rfl B.isinstance (by decide +kernel) (pa_cons (pv 1) (pa_cons (pe_clsG G_BadGoal rfl) pa_nil))) pa_nil))))))
 (pss_cons (ps_set (i := 2) sc_law_kind.nd rfl (by first | exact Or.inl rfl | exact Or.inr rfl) (pe_op (kop_add (K := X.K) rfl) (pv 2) (pe_lst (pa_cons (pe_callB (kc_isX (K := X.K) rfl hz hf) rfl B.isinstance (by decide +kernel) (pa_cons (pv 1) (pa_cons (pe_clsG G_BadMarks rfl) pa_nil))) (pa_cons (pe_callB (kc_isX (K := X.K) rfl hz hf) rfl B.isinstance (by decide +kernel) (pa_cons (pv 1) (pa_cons (pe_clsG G_BadMark rfl) pa_nil))) (pa_cons (pe_callB (kc_isX (K := X.K) rfl hz hf) rfl B.isinstance (by decide +kernel) (pa_cons (pv 1) (pa_cons (pe_clsG G_BadText rfl) pa_nil))) pa_nil))))))
 (pss_cons (ps_set (i := 3) sc_law_kind.nd rfl (by first | exact Or.inl rfl | exact Or.inr rfl) (pe_lst (pa_cons pe_str (pa_cons pe_str (pa_cons pe_str (pa_cons pe_str (pa_cons pe_str (pa_cons pe_str (pa_cons pe_str pa_nil)))))))))
 (pss_cons (ps_if (PW.pt (pw_or (pt_cmpR (kop_ne (K := X.K) rfl hu) (kpe_bm (K := X.K) rfl PySem.F.plainAttrs_list PySem.F.slot_list_count PySem.F.type_list_count (kmt_countB (K := X.K) rfl) (pv 2) (pa_cons pe_bl pa_nil)) pe_int (nomark _)) (pw_or1 (pt_not (pt_val (pe_callB (kc_isX (K := X.K) rfl hz hf) rfl B.isinstance (by decide +kernel) (pa_cons (pv 1) (pa_cons (pe_bltn rfl Z_ValueError (v := .ty "ValueError") rfl rfl) pa_nil)))))))) (pss_one (ps_ret pe_str)) pss_nil)
 (pss_cons (ps_set (i := 4) sc_law_kind.nd rfl (by first | exact Or.inl rfl | exact Or.inr rfl) (pe_ix (kix (K := X.K) rfl) (pv 3) (kpe_bm (K := X.K) rfl PySem.F.plainAttrs_list PySem.F.slot_list_index PySem.F.type_list_index (kmt_index (K := X.K) rfl) (pv 2) (pa_cons pe_bl pa_nil)) (fun _ _ => rfl)))
 (pss_one (ps_ret (pe_ifExp (pt_cmpR (kop_eq (K := X.K) rfl hu) (pv 4) pe_str (nomark _)) (pe_tup (pa_cons (pv 4) (pa_cons pe_no pa_nil))) (pv 4)))))))))) ?_
  intro D i ea σ H' En hk hi na hl k
  obtain ⟨v0, v1, v2, v3, v4, rfl⟩ : ∃ v0 v1 v2 v3 v4, σ = [v0, v1, v2, v3, v4] := match σ, hl with | [v0, v1, v2, v3, v4], _ => ⟨v0, v1, v2, v3, v4, rfl⟩
  obtain ⟨nn, rr, bb, cc⟩ := En
  dsimp only at k
  have C := hk.c
  refine r_start (σ' := [v0, some (.ref ea), v2, v3, v4]) rfl ?_
  walk_at "go"
  refine r_isXc C (hk.is 0 (by decide)) ?_
  walk_at "go"
  refine r_isXc C (hk.is 1 (by decide)) ?_
  walk_at "go"
  refine r_isXc C (hk.is 2 (by decide)) ?_
  walk_at "go"
  refine r_isXc C (hk.is 3 (by decide)) ?_
  walk_at "go"
  intro l1 n1
  walk_at "go"
  refine r_isXc C (hk.is 4 (by decide)) ?_
  walk_at "go"
  refine r_isXc C (hk.is 5 (by decide)) ?_
  walk_at "go"
  refine r_isXc C (hk.is 6 (by decide)) ?_
  walk_at "go"
  intro l2 n2
  refine r_addL (at_new n2 upd_same) upd_same (len_ok rfl) fun l3 n3 => ?_
  have s3 := (same_new (u := .lst [V.bl (decide (0 = i)), V.bl (decide (1 = i)), V.bl (decide (2 = i)), V.bl (decide (3 = i))]) n1).trans ((same_new (u := .lst [V.bl (decide (4 = i)), V.bl (decide (5 = i)), V.bl (decide (6 = i))]) n2).trans (same_new (u := .lst ([V.bl (decide (0 = i)), V.bl (decide (1 = i)), V.bl (decide (2 = i)), V.bl (decide (3 = i))] ++ [V.bl (decide (4 = i)), V.bl (decide (5 = i)), V.bl (decide (6 = i))])) n3))
  have h3 : upd (upd (upd H' l1 (.lst [V.bl (decide (0 = i)), V.bl (decide (1 = i)), V.bl (decide (2 = i)), V.bl (decide (3 = i))])) l2 (.lst [V.bl (decide (4 = i)), V.bl (decide (5 = i)), V.bl (decide (6 = i))])) l3 (.lst ([V.bl (decide (0 = i)), V.bl (decide (1 = i)), V.bl (decide (2 = i)), V.bl (decide (3 = i))] ++ [V.bl (decide (4 = i)), V.bl (decide (5 = i)), V.bl (decide (6 = i))])) l3
    = some (.lst (([decide (0 = i), decide (1 = i), decide (2 = i), decide (3 = i), decide (4 = i), decide (5 = i), decide (6 = i)] : List Bool).map V.bl)) := upd_same
  generalize upd (upd (upd H' l1 (.lst [V.bl (decide (0 = i)), V.bl (decide (1 = i)), V.bl (decide (2 = i)), V.bl (decide (3 = i))])) l2 (.lst [V.bl (decide (4 = i)), V.bl (decide (5 = i)), V.bl (decide (6 = i))])) l3 (.lst ([V.bl (decide (0 = i)), V.bl (decide (1 = i)), V.bl (decide (2 = i)), V.bl (decide (3 = i))] ++ [V.bl (decide (4 = i)), V.bl (decide (5 = i)), V.bl (decide (6 = i))])) = H3 at s3 h3 ⊢
  walk_at "go"
  intro l4 n4
  have h34 := at_new (u := .lst ((["BadGear", "BadStanding", "BadMoves", "BadGoal", "BadMarks", "BadMark", "BadText"] : List Str).map V.str)) n4 h3
  walk_at "go"
  refine ⟨r_tyL h34, ?_⟩
  walk_at "go"
  refine r_countB (SqL.of h34) ?_
  rw [count_kind i (by omega)]
  walk_at "go"
  refine iteNF rfl ?_
  walk_at "go"
  refine r_isXt C hk.v ?_
  walk_at "go"
  refine iteF ?_
  walk_at "go"
  refine ⟨r_tyL h34, ?_⟩
  walk_at "go"
  refine r_indexB (SqL.of h34) (index_kind i (by omega)) (index_kind2 i (by omega)) ?_
  refine r_ix (v := .str (kindW i)) (.inl (SqL.of upd_same)) (at_of (j := i) rfl (kindW_at (by omega))) ?_
  walk_at "go"
  refine r_eqS ?_
  walk_at "go"
  refine iteDF (kindW_ne i hi) ?_
  walk_at "go"
  exact k _ (s3.trans (same_new n4))
end Rd

namespace Rd
open PySem L2
theorem offT_near {r s m : Int} (h : 0 < r) : offT r s m = if 2 * ((m - s) % r) ≤ r then (m - s) % r else (m - s) % r - r := by
  unfold offT
  generalize hd : m - s = d
  have e1 := Int.emod_add_mul_ediv d r
  have a1 := Int.emod_nonneg d (show r ≠ 0 by omega)
  have b1 := Int.emod_lt_of_pos d h
  generalize hq : d % r = u at e1 a1 b1 ⊢
  generalize hl : (r - 1) / 2 = l
  have hl2 : 2 * l ≤ r - 1 ∧ r - 1 ≤ 2 * l + 1 := by omega
  have e2 : d - (0 - l) = (u + l) + r * (d / r) := by omega
  rw [e2, Int.add_mul_emod_self_left]
  split
  · rw [Int.emod_eq_of_lt (by omega) (by omega)]
    omega
  · have e3 : u + l = (u + l - r) + r * 1 := by omega
    rw [e3, Int.add_mul_emod_self_left, Int.emod_eq_of_lt (by omega) (by omega)]
    omega
section
variable {P : Program} {w : World} {K : PySem.W.Frag} {mg : Str → Option Value} {base : Heap} {C : Addr}
def spNear : Sp := fun vs H Q _ => ∃ (g : Addr) (r p s m : Int), vs = [.ref g, .int s, .int m] ∧ H g = some (.tup [.int r, .int p]) ∧ 0 < r ∧ Q (.int (offT r s m)) H
theorem spNear_i {g : Addr} {r p s m : Int} {H : Hp} {Q : VK} {E : XK} (hg : H g = some (.tup [.int r, .int p])) (h : 0 < r) (k : Q (.int (offT r s m)) H) : spNear [.ref g, .int s, .int m] H Q E := ⟨g, r, p, s, m, rfl, hg, h, k⟩
theorem ok_law_nearest (F : FunAt K mg "_law_nearest" s_law_nearest) : Has P w K mg base CX0 1 "_law_nearest" spNear := by
  refine F.ok sc_law_nearest bo_law_nearest (fun vs H Q E h => ?_) (fun f cdv A outer s H vs Q E hr h => ?_)
  · obtain ⟨g, r, p, s, m, rfl, _⟩ := h
    rfl
  · obtain ⟨g, r, p, s, m, rfl, hg, h0, k⟩ := h
    rw [offT_near h0] at k
    refine ⟨_, (pss_cons (ps_set (i := 3) sc_law_nearest.nd rfl (by first | exact Or.inl rfl | exact Or.inr rfl) (pe_op op_mod (pe_op op_sub (pv 2) (pv 1)) (pe_ix (kix (K := K) rfl) (pv 0) pe_int (fun _ _ => rfl))))
 (pss_one (ps_ret (pe_ifExp (pt_cmpR op_le (pe_op op_mul pe_int (pv 3)) (pe_ix (kix (K := K) rfl) (pv 0) pe_int (fun _ _ => rfl)) (nomark _)) (pv 3) (pe_op op_sub (pv 3) (pe_ix (kix (K := K) rfl) (pv 0) pe_int (fun _ _ => rfl))))))), ?_⟩
    refine r_start (σ' := [some (.ref g), some (.int s), some (.int m), none]) rfl ?_
    walk_at "go"
    refine r_I h0 ?_
    walk_at "go"
    refine r_I (.inl ⟨by omega, by omega⟩) ?_
    walk_at "go"
    refine iteD (fun c => ?_) (fun c => ?_)
    · rw [if_pos c] at k
      walk_at "go"
      exact k
    · rw [if_neg c] at k
      walk_at "go"
      exact k
/-- found refuses the number of a mark that there isn't -/
def spFoundX (C cM : Addr) : Sp := fun vs H _ E => ∃ (p g ml z : Addr) (ms : List Int) (n : Int), vs = [.ref p, .int n] ∧ KpAt C H p g ml z ∧ H ml = some (.tup (ms.map V.int)) ∧ (n < 0 ∨ (ms.length : Int) - 1 < n) ∧ E (.ref cM) none H
theorem spFoundX_i {cM p g ml z : Addr} {ms : List Int} {n : Int} {H : Hp} {Q : VK} {E : XK} (h : KpAt C H p g ml z) (hm : H ml = some (.tup (ms.map V.int))) (hn : n < 0 ∨ (ms.length : Int) - 1 < n) (k : E (.ref cM) none H) : spFoundX C cM [.ref p, .int n] H Q E := ⟨p, g, ml, z, ms, n, rfl, h, hm, hn, k⟩
theorem ok_Keeper_foundX {cM : Addr} (B : Bl mg) (T : KTxt K C) (F : MethAt K C "found" "Keeper.found" s_Keeper_found) (G_BadMark : ClsG mg "BadMark" cM) (R_BadMark : ErrR K cM) (H_off_to : Has P w K mg base CX0 1 "off_to" spOff) (HM_Keeper_moved_by : HasM P w K mg base CX0 C 1 "moved_by" (spMovedBy C)) :
    HasM P w K mg base (L2.CX P w) C 2 "found" (spFoundX C cM) := by
  refine F.okX sc_Keeper_found bo_Keeper_found (fun vs H Q E h => ?_) (fun f cdv A outer s H vs Q E hr h => ?_)
  · obtain ⟨p, g, ml, z, ms, n, rfl, _⟩ := h
    rfl
  · obtain ⟨p, g, ml, z, ms, n, rfl, h, hm, hn, k⟩ := h
    have T_Keeper := T
    refine ⟨_, (pss_cons (ps_if (pt_not (pt_chain op_le op_lt pe_int (pv 1) (pe_callB (kc_len (K := K) rfl) rfl B.len (by decide +kernel) (pa_cons (kpe_fld (K := K) rfl (pv 0)) pa_nil)))) (pss_one (ps_raiseC rfl (takes_of rfl rfl rfl rfl) G_BadMark R_BadMark)) pss_nil)
 (pss_one (ps_ret (pe_hasM HM_Keeper_moved_by T_Keeper.cl hr (by omega) (pv 0) pass0 (pa_cons (pe_has H_off_to hr (by omega) rfl pass0 (pa_cons (pe_ix (kix (K := K) rfl) (kpe_fld (K := K) rfl (pv 0)) pe_int (fun _ _ => rfl)) (pa_cons (pe_ix (kix (K := K) rfl) (kpe_fld (K := K) rfl (pv 0)) pe_int (fun _ _ => rfl)) (pa_cons (pe_ix (kix (K := K) rfl) (kpe_fld (K := K) rfl (pv 0)) (pv 1) (fun _ _ => rfl)) pa_nil)))) pa_nil))))), ?_⟩
    refine r_start (σ' := [some (.ref p), some (.int n)]) rfl ?_
    walk_at "go"
    refine iteD (fun c => ?_) (fun c => ?_)
    · walk_at "go"
      refine r_fld ?_
      walk_at "go"
      refine rk_m T h ?_
      walk_at "go"
      rw [List.length_map]
      refine iteNT (by omega) ?_
      exact k
    · walk_at "go"
      exact k
end
end Rd

namespace Rd
open PySem L2
section
variable {P : Program} {w : World} {K : PySem.W.Frag} {mg : Str → Option Value} {base : Heap}
def spFar (K : PySem.W.Frag) : Sp := fun vs H Q _ => ∃ (st a : Addr) (ns : List Int) (lo hi : Int), vs = [.ref st, .int lo, .int hi] ∧ St H st a ∧ SqL K H a (ns.map V.int) ∧
  ∀ (v : Int) (H' : Hp), v < lo ∨ hi < v → St H' st a → Fr H H' → Q (.int v) H'
theorem spFar_i {st a : Addr} {ns : List Int} {lo hi : Int} {H : Hp} {Q : VK} {E : XK} (s : St H st a) (hS : SqL K H a (ns.map V.int)) (k : ∀ (v : Int) (H' : Hp), v < lo ∨ hi < v → St H' st a → Fr H H' → Q (.int v) H') : spFar K [.ref st, .int lo, .int hi] H Q E := ⟨st, a, ns, lo, hi, rfl, s, hS, k⟩
theorem ok_law_far (B : Bl mg) (F : FunAt K mg "_law_far" s_law_far) (H_law_drawn : Has P w K mg base CX0 1 "_law_drawn" (spDrawn K)) : Has P w K mg base CX0 2 "_law_far" (spFar K) := by
  refine F.ok sc_law_far bo_law_far (fun vs H Q E h => ?_) (fun f cdv A outer s H vs Q E hr h => ?_)
  · obtain ⟨st, a, ns, lo, hi, rfl, _⟩ := h
    rfl
  · obtain ⟨st, a, ns, lo, hi, rfl, hs, hS, k⟩ := h
    refine ⟨_, (pss_cons (ps_set (i := 3) sc_law_far.nd rfl (by first | exact Or.inl rfl | exact Or.inr rfl) (pe_ix (kix (K := K) rfl) (pe_lst (pa_cons pe_int (pa_cons pe_int (pa_cons (pe_op op_pow pe_int pe_int) pa_nil)))) (pe_has H_law_drawn hr (by omega) rfl pass0 (pa_cons (pv 0) (pa_cons pe_int pa_nil))) (fun _ _ => rfl)))
 (pss_one (ps_ret (pe_ix (kix (K := K) rfl) (pe_lst (pa_cons (pe_op op_sub (pe_op op_sub (pv 1) pe_int) (pe_has H_law_drawn hr (by omega) rfl pass0 (pa_cons (pv 0) (pa_cons (pv 3) pa_nil)))) (pa_cons (pe_op (kop_add (K := K) rfl) (pe_op (kop_add (K := K) rfl) (pv 2) pe_int) (pe_has H_law_drawn hr (by omega) rfl pass0 (pa_cons (pv 0) (pa_cons (pv 3) pa_nil)))) pa_nil))) (pe_has H_law_drawn hr (by omega) rfl pass0 (pa_cons (pv 0) (pa_cons pe_int pa_nil))) (fun _ _ => rfl))))), ?_⟩
    refine r_start (σ' := [some (.ref st), some (.int lo), some (.int hi), none]) rfl ?_
    walk_at "go"
    intro p1 n1
    walk_at "go"
    refine spDrawn_i (by walk_at "ss") (by walk_at "sq") (by omega) (by decide) fun v1 H1 a1 b1 s1 R1 => ?_
    obtain ⟨far, e1, m1⟩ := pick3 1 20 (10 ^ (29 : Int).toNat) a1 (by omega)
    rw [e29] at m1
    refine r_ix (by walk_at "sq") e1 ?_
    walk_at "go"
    refine spDrawn_i s1 (by walk_at "sq") (by omega) (small200 (by omega) (by omega)) fun v2 H2 a2 b2 s2 R2 => ?_
    walk_at "go"
    refine spDrawn_i s2 (by walk_at "sq") (by omega) (small200 (by omega) (by omega)) fun v3 H3 a3 b3 s3 R3 => ?_
    walk_at "go"
    intro p4 n4
    walk_at "go"
    refine spDrawn_i (by walk_at "ss") (by walk_at "sq") (by omega) (by decide) fun v5 H5 a5 b5 s5 R5 => ?_
    obtain ⟨o, e5, m5⟩ := pick2 (lo - 1 - v2) (hi + 1 + v3) a5 (by omega)
    refine r_ix (by walk_at "sq") e5 ?_
    walk_at "go"
    exact k o _ (by omega) (by walk_at "ss") (by walk_at "fr")
end
end Rd

namespace Rd
open PySem L2 LamX
/-- all but the keeper, the side's list, the draws' state and the tables stays -/
def FrB (p sd : Addr) (H H' : Hp) : Prop := ∀ b o, H b = some o → NotSt o → (∀ ps, o ≠ .tbl ps) → b ≠ p → b ≠ sd → H' b = some o
theorem FrB.of {p sd : Addr} {H H' : Hp} (a : FrN H H') : FrB p sd H H' := fun b o e n t _ _ => a b o e n t
theorem FrB.trans {p sd : Addr} {H H1 H2 : Hp} (a : FrB p sd H H1) (b : FrB p sd H1 H2) : FrB p sd H H2 := fun c o e n t h1 h2 => b c o (a c o e n t h1 h2) n t h1 h2
theorem FrB.but {p sd : Addr} {H H' : Hp} (a : But p H H') : FrB p sd H H' := fun b o e _ _ h _ => a b o h e
theorem FrB.wr {p sd : Addr} {H H' : Hp} (a : ∀ b o, b ≠ sd → H b = some o → H' b = some o) : FrB p sd H H' := fun b o e _ _ _ h => a b o h e
/-- a keeper, its gear and marks, and what is believed -/
structure Side (C : Addr) (H : Hp) (sd p g ml zl z : Addr) (r pl : Int) (ms : List Int) (x : Int × Int) : Prop where
  l : H sd = some (.lst [.ref p, .ref g, .ref ml, .ref zl])
  k : KpAt C H p g ml z
  g : GearAt H g r pl
  m : H ml = some (.tup (ms.map V.int))
  M : Marks r ms
  z : H z = some (.tup [.int x.1, .int x.2])
  zl : H zl = some (.tup [.int x.1, .int x.2])
  s : Stg pl x
section
variable {C : Addr} {H H' : Hp} {sd p g ml zl z : Addr} {r pl : Int} {ms : List Int} {x : Int × Int}
theorem Side.frn (S : Side C H sd p g ml zl z r pl ms x) (R : FrN H H') : Side C H' sd p g ml zl z r pl ms x := by
  obtain ⟨dx, e⟩ := S.k
  exact ⟨R _ _ S.l nst_cons fun _ q => (nomatch q), ⟨dx, R _ _ e nst_ins fun _ q => (nomatch q)⟩, S.g.mono (R.tup S.g.at_), R.tup S.m, S.M, R.tup S.z, R.tup S.zl, S.s⟩
theorem Side.frb {p2 sd2 dx2 C2 : Addr} {fs : List (Str × V)} {xs : List V} (S : Side C H sd p g ml zl z r pl ms x) (R : FrB p2 sd2 H H') (h1 : p ≠ p2) (h2 : sd ≠ sd2) (hp : H p2 = some (.ins C2 dx2 fs)) (hs : H sd2 = some (.lst xs)) : Side C H' sd p g ml zl z r pl ms x := by
  obtain ⟨dx, e⟩ := S.k
  have t : ∀ {b : Addr} {ys : List V}, H b = some (.tup ys) → H' b = some (.tup ys) := fun e => R _ _ e nst_tup (fun _ q => nomatch q) (ne_of e hp fun q => nomatch q) (ne_of e hs fun q => nomatch q)
  exact ⟨R _ _ S.l nst_cons (fun _ q => nomatch q) (ne_of S.l hp fun q => nomatch q) h2, ⟨dx, R _ _ e nst_ins (fun _ q => nomatch q) h1 (ne_of e hs fun q => nomatch q)⟩, S.g.mono (t S.g.at_), t S.m, S.M, t S.z, t S.zl, S.s⟩
end
theorem Marks.len8 {r : Int} {ms : List Int} (M : Marks r ms) : 0 < ms.length ∧ ms.length ≤ 12 := ⟨M.some_, M.few⟩
theorem Tabs.butL {T : List (Addr × Str)} {H H' : Hp} {p : Addr} {xs : List V} (t : Tabs T H) (h : H p = some (.lst xs)) (R : But p H H') : Tabs T H' := fun q hq => by
  obtain ⟨ps, h1, h2, h3⟩ := t q hq
  refine ⟨ps, R _ _ (ne_of h1 h fun z => nomatch z) h1, h2, fun pos cv hc => ?_⟩
  obtain ⟨c, e1, e2⟩ := h3 pos cv hc
  exact ⟨c, e1, R _ _ (ne_of e2 h fun z => nomatch z) e2⟩
/-- the side's list is written, then the keeper believes anew -/
theorem deed_end {K : PySem.W.Frag} {C st a sd p g ml zl z q z' : Addr} {ns : List Int} {r pl : Int} {ms : List Int} {x x' : Int × Int} {H5 H6 H7 : Hp} (s5 : St H5 st a) (hS5 : SqL K H5 a (ns.map V.int)) (S5 : Side C H5 sd p g ml zl z r pl ms x)
    (hq : H5 q = some (.tup [.int x'.1, .int x'.2])) (e6 : H6 sd = some (.lst [.ref p, .ref g, .ref ml, .ref q])) (w6 : But sd H5 H6) (k7 : KpAt C H7 p g ml z') (hz7 : H7 z' = some (.tup [.int x'.1, .int x'.2])) (R7 : ∀ b o, H6 b = some o → (∀ ps, o ≠ .tbl ps) → b ≠ p → H7 b = some o) (hs' : Stg pl x') :
    St H7 st a ∧ SqL K H7 a (ns.map V.int) ∧ Side C H7 sd p g ml q z' r pl ms x' ∧ FrB p sd H5 H7 := by
  obtain ⟨dx, ep⟩ := id S5.k
  have fb : FrB p sd H5 H7 := fun b o e n t h1 h2 => R7 _ _ (w6 _ _ h2 e) t h1
  have t7 : ∀ {b : Addr} {ys : List V}, H5 b = some (.tup ys) → H7 b = some (.tup ys) := fun e => R7 _ _ (w6 _ _ (ne_of e S5.l fun q => nomatch q) e) (fun _ q => nomatch q) (ne_of e ep fun q => nomatch q)
  refine ⟨?_, ?_, ⟨R7 _ _ e6 (fun _ q => nomatch q) (ne_of S5.l ep fun q => nomatch q), k7, S5.g.mono (t7 S5.g.at_), t7 S5.m, S5.M, hz7, t7 hq, hs'⟩, fb⟩
  · obtain ⟨i', m', r', e, qq⟩ := s5.ex
    exact ⟨i', m', r', R7 _ _ (w6 _ _ (s5.ne S5.l nst_cons) e) (fun _ q => nomatch q) (s5.ne ep nst_ins), qq⟩
  · rcases hS5 with (h | ⟨o, h⟩) | h
    · refine .inl (.inl (R7 _ _ (w6 _ _ (ne_of h S5.l fun q => ?_) h) (fun _ q => nomatch q) (ne_of h ep fun q => nomatch q)))
      cases ns with
      | nil => cases q
      | cons y ys => cases q
    · exact .inl (.inr ⟨o, R7 _ _ (w6 _ _ (ne_of h S5.l fun q => nomatch q) h) (fun _ q => nomatch q) (ne_of h ep fun q => nomatch q)⟩)
    · exact .inr h
/-- the two numbers at an address -/
def pairK (H : Hp) : V → Int × Int
  | .ref t => (match H t with
    | some (.tup [.int i, .int j]) => (i, j)
    | _ => (0, 0))
  | _ => (0, 0)
theorem pairK_at {H : Hp} {t : Addr} {i j : Int} (h : H t = some (.tup [.int i, .int j])) : pairK H (.ref t) = (i, j) := by
  unfold pairK
  dsimp only
  rw [h]
def offP (o : Int) : Int × Int := ((o.natAbs : Int), 0 - o)
theorem cod_of {a b : Int} (h : ¬ ((offP a).1 < (offP b).1 ∨ ((offP a).1 = (offP b).1 ∧ (offP a).2 < (offP b).2))) : cod b ≤ cod a := by
  unfold offP at h
  unfold cod
  dsimp only at h
  split <;> split <;> omega
section
variable {P : Program} {w : World} {K : PySem.W.Frag} {mg : Str → Option Value} {base : Heap} {C : Addr}
def spDeed (K : PySem.W.Frag) (C : Addr) (TT : List (Addr × Str)) : Sp := fun vs H Q _ => ∃ (st a : Addr) (ns : List Int) (sd p g ml zl z : Addr) (r pl : Int) (ms : List Int) (x : Int × Int), vs = [.ref st, .ref sd] ∧ St H st a ∧ SqL K H a (ns.map V.int) ∧ Side C H sd p g ml zl z r pl ms x ∧ Tabs TT H ∧
  ∀ (zl' z' : Addr) (x' : Int × Int) (H' : Hp), St H' st a → SqL K H' a (ns.map V.int) → Side C H' sd p g ml zl' z' r pl ms x' → Tabs TT H' → FrB p sd H H' → Q (.bl true) H'
theorem spDeed_i {TT : List (Addr × Str)} {st a : Addr} {ns : List Int} {sd p g ml zl z : Addr} {r pl : Int} {ms : List Int} {x : Int × Int} {H : Hp} {Q : VK} {E : XK} (s : St H st a) (hS : SqL K H a (ns.map V.int)) (S : Side C H sd p g ml zl z r pl ms x) (T : Tabs TT H)
    (k : ∀ (zl' z' : Addr) (x' : Int × Int) (H' : Hp), St H' st a → SqL K H' a (ns.map V.int) → Side C H' sd p g ml zl' z' r pl ms x' → Tabs TT H' → FrB p sd H H' → Q (.bl true) H') : spDeed K C TT [.ref st, .ref sd] H Q E := ⟨st, a, ns, sd, p, g, ml, zl, z, r, pl, ms, x, rfl, s, hS, S, T, k⟩
set_option maxHeartbeats 8000000 in
theorem ok_law_deed {TT : List (Addr × Str)} {c Pt : Addr} {G cM : Addr} {cs : Nat → Addr} (B : Bl mg) (T : KTxt K C) (F : FunTab K mg "_law_deed" s_law_deed c Pt) (TB : TabB base mg c Pt) (hmT : (Pt, ("_law_deed" ++ ".<locals>." ++ "<lambda>" : Str)) ∈ TT) (huT : ∀ p ∈ TT, p.1 = Pt → p.2 = ("_law_deed" ++ ".<locals>." ++ "<lambda>" : Str))
    (H_law_drawn : Has P w K mg base CX0 1 "_law_drawn" (spDrawn K)) (H_law_moves : Has P w K mg base CX0 2 "_law_moves" (spMoves K)) (H_law_far : Has P w K mg base CX0 2 "_law_far" (spFar K)) (H_law_behind : Has P w K mg base CX0 1 "_law_behind" spLB) (H_law_nearest : Has P w K mg base CX0 1 "_law_nearest" spNear)
    (H_law_same : Has P w K mg base CX0 1 "_law_same" (spSame 1)) (F_law_kind : FunAt K mg "_law_kind" s_law_kind) (Z_ValueError : mg "ValueError" = none) (G_GearError : ClsG mg "GearError" G) (G_BadGear : ClsG mg "BadGear" (cs 0)) (G_BadStanding : ClsG mg "BadStanding" (cs 1))
    (G_BadMoves : ClsG mg "BadMoves" (cs 2)) (G_BadGoal : ClsG mg "BadGoal" (cs 3)) (G_BadMarks : ClsG mg "BadMarks" (cs 4)) (G_BadMark : ClsG mg "BadMark" (cs 5)) (G_BadText : ClsG mg "BadText" (cs 6)) (KM : KindOf K G cs cM 5)
    (HMX_Keeper_found : HasM P w K mg base (L2.CX P w) C 2 "found" (spFoundX C cM)) (HM_Keeper_move : HasM P w K mg base CX0 C 2 "move" (spMove C)) (HM_Keeper_found : HasM P w K mg base CX0 C 2 "found" (spFound C)) (HM_Keeper_found_any : HasM P w K mg base CX0 C 3 "found_any" (spFoundAny C TT)) :
    Has P w K mg base CX0 6 "_law_deed" (spDeed K C TT) := by
  refine F.ok sc_law_deed bo_law_deed (fun vs H Q E h => ?_) (fun f A outer s H vs Q E hr h => ?_)
  · obtain ⟨st, a, ns, sd, p, g, ml, zl, z, r, pl, ms, x, rfl, _⟩ := h
    rfl
  · obtain ⟨st, a, ns, sd, p, g, ml, zl, z, r, pl, ms, x, rfl, hs, hS, S, hT, k⟩ := h
    have T_Keeper := T
    refine ⟨_, (pss_cons (ps_asg (pv 1) (kpg_lst (K := K) rfl rfl (pgs_cons (pg_name (i := 2) sc_law_deed.nd rfl (by first | exact Or.inl rfl | exact Or.inr rfl)) (pgs_cons (pg_name (i := 3) sc_law_deed.nd rfl (by first | exact Or.inl rfl | exact Or.inr rfl)) (pgs_cons (pg_name (i := 4) sc_law_deed.nd rfl (by first | exact Or.inl rfl | exact Or.inr rfl)) (pgs_cons (pg_name (i := 5) sc_law_deed.nd rfl (by first | exact Or.inl rfl | exact Or.inr rfl)) pgs_nil))))))
 (pss_cons (ps_set (i := 6) sc_law_deed.nd rfl (by first | exact Or.inl rfl | exact Or.inr rfl) (pe_has H_law_drawn hr (by omega) rfl pass0 (pa_cons (pv 0) (pa_cons pe_int pa_nil))))
 (pss_cons (ps_if (pt_cmpR op_lt (pv 6) pe_int (nomark _)) (pss_cons (ps_set (i := 7) sc_law_deed.nd rfl (by first | exact Or.inl rfl | exact Or.inr rfl) (pe_ix (kix (K := K) rfl) (pe_op (kop_add (K := K) rfl) (pe_has H_law_moves hr (by omega) rfl pass0 (pa_cons (pv 0) (pa_cons (pv 3) (pa_cons pe_int pa_nil)))) (pe_lst (pa_cons pe_int pa_nil))) pe_int (fun _ _ => rfl)))
 (pss_cons (ps_asg (pe_has H_law_behind hr (by omega) rfl pass0 (pa_cons (pv 3) (pa_cons (pv 5) (pa_cons (pv 7) pa_nil)))) (pg_sub (pv 1) pe_int set_list))
 (pss_one (ps_ret (pe_cmpR op_isN (pe_hasM HM_Keeper_move T_Keeper.cl hr (by omega) (pv 2) pass0 (pa_cons (pv 7) pa_nil)) pe_non (nomark _)))))) pss_nil)
 (pss_cons (ps_set (i := 8) sc_law_deed.nd rfl (by first | exact Or.inl rfl | exact Or.inr rfl) (pe_has H_law_far hr (by omega) rfl pass0 (pa_cons (pv 0) (pa_cons pe_int (pa_cons (pe_op op_sub (pe_callB (kc_len (K := K) rfl) rfl B.len (by decide +kernel) (pa_cons (pv 4) pa_nil)) pe_int) pa_nil)))))
 (pss_cons (ps_if (pt_cmpR (kop_ne (K := K) rfl hr.units) (pe_kindL (k := 3) F_law_kind sc_law_kind bo_law_kind rfl rfl (by first | exact Or.inl rfl | exact Or.inr (Or.inl rfl)) (fun g cdg => kind_gives B Z_ValueError (hr.mono (by omega)) G_GearError G_BadGear G_BadStanding G_BadMoves G_BadGoal G_BadMarks G_BadMark G_BadText) TB rfl hmT huT (hr.mono (by omega)) (lamS_by (sc := defScope s_law_deed) (by decide +kernel)) rfl (fun _ _ _ _ _ => rfl) (fun _ _ _ _ _ _ _ hr => (pe_hasM HMX_Keeper_found T_Keeper.cl hr (by omega) (pv 2) passLam (pa_cons (pv 8) pa_nil)))) pe_str (nomark _)) (pss_one (ps_ret pe_bl)) pss_nil)
 (pss_cons (ps_set (i := 9) sc_law_deed.nd rfl (by first | exact Or.inl rfl | exact Or.inr rfl) (pe_has H_law_drawn hr (by omega) rfl pass0 (pa_cons (pv 0) (pa_cons (pe_callB (kc_len (K := K) rfl) rfl B.len (by decide +kernel) (pa_cons (pv 4) pa_nil)) pa_nil))))
 (pss_cons (ps_set (i := 10) sc_law_deed.nd rfl (by first | exact Or.inl rfl | exact Or.inr rfl) (pe_has H_law_nearest hr (by omega) rfl pass0 (pa_cons (pv 3) (pa_cons (pe_ix (kix (K := K) rfl) (pv 5) pe_int (fun _ _ => rfl)) (pa_cons (pe_ix (kix (K := K) rfl) (pv 4) (pv 9) (fun _ _ => rfl)) pa_nil)))))
 (pss_cut (ps_if (pt_cmpR (kop_eq (K := K) rfl hr.units) (pv 6) pe_int (nomark _)) (pss_cons (ps_setLc (i := 11) (own := [("_law_mark", 12)]) (g := (gName 12)) rfl sc_law_deed.nd rfl rfl (sw_true rfl rfl rfl (by decide +kernel)) (kpi_tup (K := K) rfl (pv 4)) (blkOk_by (N := ["_law_state", "_law_side", "_law_keeper", "_law_gear_here", "_law_marks_here", "_law_here", "_law_way", "_law_steps", "_law_odd", "_law_number", "_law_due", "_law_offs", "_law_mark", "_law_off"]) (sc := defScope s_law_deed) (own := [("_law_mark", 12)]) (by decide +kernel)) (fun _ _ _ _ _ => (pg_name (i := 12) sc_law_deed.nd rfl (by first | exact Or.inl rfl | exact Or.inr rfl))) (fun _ _ _ _ _ => pts_nil) (fun _ _ _ _ _ => (pe_has H_law_nearest hr (by omega) rfl pass0 (pa_cons (pv 3) (pa_cons (pe_ix (kix (K := K) rfl) (pv 5) pe_int (fun _ _ => rfl)) (pa_cons (pv 12) pa_nil))))))
 (pss_one (ps_set (i := 10) sc_law_deed.nd rfl (by first | exact Or.inl rfl | exact Or.inr rfl) (pe_op op_mul (pe_ix (kix (K := K) rfl) (pe_ix (kix (K := K) rfl) (pe_callB (kc_sortedPO (K := K) rfl) rfl B.sorted (by decide +kernel) (pa_cons (pe_lc (own := [("_law_off", 13)]) (g := (gName 13)) rfl sc_law_deed.nd (kpi_list (K := K) rfl (pv 11)) (blkOk_by (N := ["_law_state", "_law_side", "_law_keeper", "_law_gear_here", "_law_marks_here", "_law_here", "_law_way", "_law_steps", "_law_odd", "_law_number", "_law_due", "_law_offs", "_law_mark", "_law_off"]) (sc := defScope s_law_deed) (own := [("_law_off", 13)]) (by decide +kernel)) (fun _ _ _ _ _ => (pg_name (i := 13) sc_law_deed.nd rfl (by first | exact Or.inl rfl | exact Or.inr rfl))) (fun _ _ _ _ _ => pts_nil) (fun _ _ _ _ _ => (pe_tup (pa_cons (pe_callB call_absA rfl B.abs (by decide +kernel) (pa_cons (pv 13) pa_nil)) (pa_cons (pe_op op_sub pe_int (pv 13)) pa_nil))))) pa_nil)) pe_int (fun _ _ => rfl)) pe_int (fun _ _ => rfl)) (pe_op op_sub pe_int pe_int))))) pss_nil)
 (pss_cons (ps_asg (pe_tup (pa_cons (pe_op (kop_add (K := K) rfl) (pe_ix (kix (K := K) rfl) (pv 5) pe_int (fun _ _ => rfl)) (pv 10)) (pa_cons (pe_op (kop_add (K := K) rfl) (pe_ix (kix (K := K) rfl) (pv 5) pe_int (fun _ _ => rfl)) (pv 10)) pa_nil))) (pg_sub (pv 1) pe_int set_list))
 (pss_one (ps_ret (pe_has H_law_same hr (by omega) rfl pass0 (pa_cons (pe_mid (pe_ifExp (pt_cmpR (kop_eq (K := K) rfl hr.units) (pv 6) pe_int (nomark _)) (pe_hasM0 HM_Keeper_found_any T_Keeper.cl hr (by omega) (pv 2) pass0) (pe_hasM HM_Keeper_found T_Keeper.cl hr (by omega) (pv 2) pass0 (pa_cons (pv 9) pa_nil)))) (pa_cons (pv 10) pa_nil)))))))))))))), ?_⟩
    refine r_start (σ' := [some (.ref st), some (.ref sd), none, none, none, none, none, none, none, none, none, none, none, none]) rfl ?_
    have G := S.g
    have r2 := G.r2
    have r6 := G.r6
    have p0 := G.p0
    have p6 := G.p6
    obtain ⟨m1, m12⟩ := S.M.len8
    walk_at "go"
    refine r_gLst (SqL.of S.l) rfl ?_
    walk_at "go"
    refine spDrawn_i hs hS (by omega) (by decide) fun wy H1 a1 b1 s1 R1 => ?_
    have S1 := S.frn (FrN.of R1)
    have hm1 := S1.m
    have hS1 := fr_sq R1 hS
    have T1 := Tabs.fr hT R1
    walk_at "go"
    refine iteD (fun c3 => ?_) (fun c3 => ?_)
    · walk_at "go"
      refine spMoves_i s1 hS1 S1.g.at_ (by omega) r6 p0 p6 (by decide) (by decide) fun l mv H2 lm bm s2 R2 hl nl => ?_
      have S2 := S1.frn (FrN.of R2)
      have hS2 := fr_sq R2 hS1
      have T2 := Tabs.fr T1 R2
      walk_at "go"
      intro l3 n3
      refine r_addL (at_new n3 hl) upd_same (by rw [List.length_map]; exact small1000 (by omega)) fun l4 n4 => ?_
      obtain ⟨d, hd⟩ : ∃ d : Int, (mv.map V.int ++ [V.int 0])[0]? = some (V.int d) := by
        cases mv with
        | nil => exact ⟨0, rfl⟩
        | cons y ys => exact ⟨y, rfl⟩
      refine r_ix (v := .int d) (.inl (SqL.of upd_same)) (at_of (j := 0) rfl hd) ?_
      have s24 := (same_new (u := .lst [V.int 0]) n3).trans (same_new (u := .lst (mv.map V.int ++ [V.int 0])) n4)
      generalize upd (upd H2 l3 (.lst [V.int 0])) l4 (.lst (mv.map V.int ++ [V.int 0])) = H4 at s24 ⊢
      have S4 := S2.frn (FrN.sm s24)
      have s4 := s2.same s24
      have hS4 := s24.seq hS2
      have T4 := T2.ext s24
      have R4 : FrN H H4 := ((FrN.of R1).trans (FrN.of R2)).trans (FrN.sm s24)
      walk_at "go"
      refine spLB_i S4.g.at_ S4.zl fun q H5 nq s45 hq => ?_
      rw [lx_nx S4.s] at hq
      have S5 := S4.frn (FrN.sm s45)
      walk_at "go"
      refine r_setA (j := 3) S5.l rfl rfl fun H6 e6 w6 => ?_
      have t6 : ∀ {b : Addr} {ys : List V}, H5 b = some (.tup ys) → H6 b = some (.tup ys) := fun e => w6 _ _ (ne_of e S5.l fun q => nomatch q) e
      obtain ⟨dx5, ep5⟩ := id S5.k
      have k6 : KpAt C H6 p g ml z := ⟨dx5, w6 _ _ (ne_of ep5 S5.l fun q => nomatch q) ep5⟩
      walk_at "go"
      refine r_meth ?_
      walk_at "go"
      refine rk_o k6 (by decide +kernel) (by decide +kernel) (by decide +kernel) ?_
      walk_at "go"
      refine spMove_i (x := x) k6 (t6 S5.g.at_) (t6 S5.z) fun z' H7 k7 n7 hz7 w7 => ?_
      walk_at "go"
      refine ⟨rfl, ?_⟩
      obtain ⟨d1, d2, d3, d4⟩ := deed_end (s4.same s45) (s45.seq hS4) S5 hq e6 w6 k7 hz7 (fun b o e _ h => w7 _ _ h e) (S5.s.nx p0 d)
      obtain ⟨dx6, ep6⟩ := id k6
      exact k _ _ _ _ d1 d2 d3 (Tabs.but (Tabs.butL (T4.ext s45) S5.l w6) ep6 w7) ((FrB.of (R4.trans (FrN.sm s45))).trans d4)
    · walk_at "go"
      rw [List.length_map]
      refine spFar_i s1 hS1 fun od H2 hod s2 R2 => ?_
      have S2 := S1.frn (FrN.of R2)
      have hS2 := fr_sq R2 hS1
      have T2 := Tabs.fr T1 R2
      walk_at "go"
      refine r_lam T2 fun H3 e3 T3 => ?_
      have S3 := S2.frn (FrN.ext e3)
      have hS3 := FrN.sq (FrN.ext e3) hS2
      have s3 := ExtN.st e3 s2
      refine r_kind ?_
      refine r_meth ?_
      walk_at "go"
      refine rk_o S3.k (by decide +kernel) (by decide +kernel) (by decide +kernel) ?_
      walk_at "go"
      refine spFoundX_i S3.k S3.m hod ⟨cM, 5, rfl, rfl, KM, by decide, fun H4 s34 => ?_⟩
      have S4 := S3.frn (FrN.sm s34)
      have hS4 := s34.seq hS3
      have s4 := s3.same s34
      have T4 := T3.ext s34
      have hm4 := S4.m
      have R4 : FrN H H4 := (((FrN.of R1).trans (FrN.of R2)).trans (FrN.ext e3)).trans (FrN.sm s34)
      walk_at "go"
      refine r_neS ?_
      walk_at "go"
      refine iteNF (by decide +kernel) ?_
      walk_at "go"
      rw [List.length_map]
      refine spDrawn_i s4 hS4 (by omega) (small200 (by omega) (by omega)) fun nu H5 a5 b5 s5 R5 => ?_
      have S5 := S4.frn (FrN.of R5)
      have hS5 := fr_sq R5 hS4
      have T5 := Tabs.fr T4 R5
      have hzl5 := S5.zl
      have hm5 := S5.m
      have hg5 := S5.g.at_
      obtain ⟨n, rfl⟩ : ∃ n : Nat, nu = (n : Int) := ⟨nu.toNat, by omega⟩
      have hn : n < ms.length := by omega
      walk_at "go"
      refine r_ix (v := .int (ms.getD n 0)) (.inr (SqT.of S5.m)) (at_of (j := n) rfl (at_getD9 hn)) ?_
      walk_at "go"
      refine spNear_i S5.g.at_ (by omega) ?_
      walk_at "go"
      refine r_cut (fun σ' H' => ∃ (v : Int) (v11 : Option V), σ' = [some (.ref st), some (.ref sd), some (.ref p), some (.ref g), some (.ref ml), some (.ref zl), some (.int wy), none, some (.int od), some (.int (n : Nat)), some (.int v), v11, none, none] ∧ Same H5 H' ∧
          (wy = 5 → v ∈ ms.map (offT r x.2) ∧ ∀ y ∈ ms.map (offT r x.2), cod v ≤ cod y) ∧ (¬ wy = 5 → v = offT r x.2 (ms.getD n 0))) ?_ ?_
      · walk_at "go"
        refine iteD (fun c5 => ?_) (fun c5 => ?_)
        · walk_at "go"
          refine r_iTup ?_
          walk_at "go"
          refine ⟨_, rfl, ⟨_, SqT.of hm5⟩, fun D nD => lcw_tup (K := K) (a := ml) (xs := ms.map V.int) (σw := [some (.ref st), some (.ref sd), some (.ref p), some (.ref g), some (.ref ml), some (.ref zl), some (.int wy), none, some (.int od), some (.int (n : Nat)), some (.int (offT r x.2 (ms.getD n 0))), none, none, none])
            (fun j H7 => Same H5 H7 ∧ H7 D = some (.lst (((ms.take j).map (offT r x.2)).map V.int))) rfl ⟨same_new nD, upd_same⟩ (fun j H7 _ h => SqT.of (h.1 _ _ hm5)) (fun j y H7 hj h7 => ?_) fun H7 h7 => ?_⟩
          · obtain ⟨s7, hD⟩ := h7
            obtain ⟨m, hmm, rfl⟩ := map_at hj
            have hzl7 := s7 _ _ hzl5
            walk_at "go"
            refine ⟨rfl, ?_⟩
            walk_at "go"
            refine iteT ?_
            walk_at "go"
            refine spNear_i (s7 _ _ hg5) (by omega) ?_
            refine ⟨_, hD, by rw [List.length_map, List.length_map, List.length_take]; exact small1000 (by omega), fun b o e => at_wr (ne_of_none e nD) (s7 _ _ e), ?_⟩
            rw [upd_same, take_snoc hmm]
            simp
          obtain ⟨s7, hD⟩ := h7
          rw [List.length_map, List.take_length] at hD
          walk_at "go"
          obtain ⟨os, hos⟩ : ∃ os, os = ms.map (offT r x.2) := ⟨_, rfl⟩
          have hol : os.length = ms.length := by rw [hos, List.length_map]
          rw [← hos] at hD ⊢
          refine ⟨_, rfl, ⟨_, SqL.of hD⟩, fun D2 nD2 => lcw_list (K := K) (a := D) (xs := os.map V.int) (σw := [some (.ref st), some (.ref sd), some (.ref p), some (.ref g), some (.ref ml), some (.ref zl), some (.int wy), none, some (.int od), some (.int (n : Nat)), some (.int (offT r x.2 (ms.getD n 0))), some (.ref D), none, none])
            (fun j H8 => ∃ ts : List Addr, Same H7 H8 ∧ H8 D2 = some (.lst (ts.map V.ref)) ∧ Tups H8 ts ((os.take j).map offP)) rfl ⟨[], same_new nD2, upd_same, Tups.nil⟩ (fun j H8 _ h => SqL.of (h.elim fun _ h => h.1 _ _ hD)) (fun j y H8 hj h8 => ?_) fun H8 h8 => ?_⟩
          · obtain ⟨ts, s8, hD2, ht⟩ := h8
            obtain ⟨o, hoo, rfl⟩ := map_at hj
            have hjl : j < os.length := (List.getElem?_eq_some_iff.mp hoo).1
            have tl : ts.length = j := by
              rw [ht.1, List.length_map, List.length_take]
              omega
            walk_at "go"
            refine ⟨rfl, ?_⟩
            walk_at "go"
            refine iteT ?_
            walk_at "go"
            intro t nt
            have hD2' := at_new (u := .tup [.int o.natAbs, .int (0 - o)]) nt hD2
            refine ⟨_, hD2', by rw [List.length_map, tl]; exact small1000 (by omega), ts ++ [t], fun b o' e => at_wr (ne_of_none e nD2) (at_new nt (s8 _ _ e)), by rw [upd_same]; simp, ?_⟩
            rw [take_snoc hoo, List.map_append]
            have td : t ≠ D2 := fun e => ne_of_none hD2 nt e.symm
            refine Tups.snoc (ht.mono fun b xs e => at_wr (ne_of e hD2 fun q => nomatch q) (at_new nt e)) ?_
            exact at_wr td upd_same
          obtain ⟨ts, s8, hD2, ht⟩ := h8
          rw [List.length_map, List.take_length] at ht
          walk_at "go"
          refine ⟨D2, _, pairK H8, rfl, SqL.of hD2, fun y hy => ?_, fun ys q9 hso hst n9 => ?_⟩
          · obtain ⟨t, htm, rfl⟩ := List.mem_map.mp hy
            obtain ⟨i, hi⟩ := List.mem_iff_getElem?.mp htm
            have hil : i < os.length := by
              have := (List.getElem?_eq_some_iff.mp hi).1
              rw [ht.1, List.length_map] at this
              exact this
            have e := ht.2 i t (offP os[i]) hi (by rw [List.getElem?_map, List.getElem?_eq_getElem hil]; rfl)
            exact ⟨t, rfl, by rw [pairK_at e]; exact e⟩
          have each : ∀ y ∈ ts.map V.ref, ∃ t o, y = V.ref t ∧ o ∈ os ∧ H8 t = some (.tup [.int (offP o).1, .int (offP o).2]) := fun y hy => by
            obtain ⟨t, htm, rfl⟩ := List.mem_map.mp hy
            obtain ⟨i, hi⟩ := List.mem_iff_getElem?.mp htm
            have hil : i < os.length := by
              have := (List.getElem?_eq_some_iff.mp hi).1
              rw [ht.1, List.length_map] at this
              exact this
            exact ⟨t, os[i], rfl, List.getElem_mem hil, ht.2 i t (offP os[i]) hi (by rw [List.getElem?_map, List.getElem?_eq_getElem hil]; rfl)⟩
          have ylen : ys.length = os.length := by rw [hst.perm.length_eq, List.length_map, ht.1, List.length_map]
          obtain ⟨y0, yr, rfl⟩ : ∃ y0 yr, ys = y0 :: yr := match ys, ylen with
            | [], e => absurd e (by show ¬ 0 = _; omega)
            | y0 :: yr, _ => ⟨y0, yr, rfl⟩
          obtain ⟨t0, o0, rfl, ho0, ht0⟩ := each y0 (hst.perm.mem_iff.mp List.mem_cons_self)
          have best : ∀ o ∈ os, cod o0 ≤ cod o := fun o ho => by
            obtain ⟨i, hi⟩ := List.mem_iff_getElem?.mp ho
            have hil := (List.getElem?_eq_some_iff.mp hi).1
            have htl : i < ts.length := by rw [ht.1, List.length_map]; exact hil
            have hti : ts[i]? = some ts[i] := List.getElem?_eq_getElem htl
            have e := ht.2 i ts[i] (offP o) hti (by rw [List.getElem?_map, hi]; rfl)
            have hm : V.ref ts[i] ∈ V.ref t0 :: yr := hst.perm.mem_iff.mpr (List.mem_map.mpr ⟨ts[i], List.getElem_mem htl, rfl⟩)
            refine cod_of ?_
            rcases List.mem_cons.mp hm with q | hm
            · rw [V.ref.inj q] at e
              rw [ht0] at e
              have e2 := HO.tup.inj (Option.some.inj e)
              simp only [List.cons.injEq, V.int.injEq, and_true] at e2
              omega
            · have z := SrtO.srtd_head hso _ hm
              have z2 := SrtO.lexB_no.mp z
              rw [pairK_at e, pairK_at ht0] at z2
              exact z2
          walk_at "go"
          refine r_ix (v := .ref t0) (.inl (SqL.of upd_same)) (at_of (j := 0) rfl rfl) ?_
          have ht09 := at_new (u := .lst (V.ref t0 :: yr)) n9 ht0
          walk_at "go"
          refine r_I (.inr ⟨by decide +kernel, by decide +kernel⟩) ?_
          walk_at "go"
          refine ⟨_, _, by rw [show (offP o0).2 * (0 - 1) = o0 by (show (0 - o0) * (0 - 1) = o0); omega], ?_, fun _ => ⟨ho0, best⟩, fun c => absurd c5 c⟩
          exact s7.trans (s8.trans (same_new n9))
        · walk_at "go"
          exact ⟨_, _, rfl, fun _ _ e => e, fun c => absurd c c5, fun _ => rfl⟩
      · rintro _ H6 ⟨v, v11, rfl, s56, hv1, hv2⟩
        have S6 := S5.frn (FrN.sm s56)
        have s6 := s5.same s56
        have hS6 := s56.seq hS5
        have T6 := T5.ext s56
        have hzl6 := S6.zl
        have R6 : FrN H H6 := (R4.trans (FrN.of R5)).trans (FrN.sm s56)
        walk_at "go"
        intro q nq
        walk_at "go"
        have s67 := same_new (u := .tup [.int (x.1 + v), .int (x.2 + v)]) nq
        have hq : upd H6 q (.tup [.int (x.1 + v), .int (x.2 + v)]) q = some (.tup [.int (x.1 + v), .int (x.2 + v)]) := upd_same
        generalize upd H6 q (.tup [.int (x.1 + v), .int (x.2 + v)]) = H7 at s67 hq ⊢
        have S7 := S6.frn (FrN.sm s67)
        have s7 := s6.same s67
        have hS7 := s67.seq hS6
        have T7 := T6.ext s67
        refine r_setA (j := 3) S7.l rfl rfl fun H8 e8 w8 => ?_
        have t8 : ∀ {b : Addr} {ys : List V}, H7 b = some (.tup ys) → H8 b = some (.tup ys) := fun e => w8 _ _ (ne_of e S7.l fun q => nomatch q) e
        obtain ⟨dx7, ep7⟩ := id S7.k
        have k8 : KpAt C H8 p g ml z := ⟨dx7, w8 _ _ (ne_of ep7 S7.l fun q => nomatch q) ep7⟩
        have T8 := Tabs.butL T7 S7.l w8
        have sx : Stg pl (x.1 + v, x.2 + v) := by
          obtain ⟨e1, e2⟩ := S7.s
          exact ⟨by dsimp only; omega, by dsimp only; omega⟩
        walk_at "go"
        refine r_mid (fun y H' => y = .int v ∧ ∃ z', KpAt C H' p g ml z' ∧ H' z' = some (.tup [.int (x.1 + v), .int (x.2 + v)]) ∧ (∀ b o, H8 b = some o → (∀ ps, o ≠ .tbl ps) → b ≠ p → H' b = some o) ∧ Tabs TT H') ?_ ?_
        · walk_at "go"
          refine iteD (fun c5 => ?_) (fun c5 => ?_)
          · walk_at "go"
            refine r_meth ?_
            walk_at "go"
            refine rk_o k8 (by decide +kernel) (by decide +kernel) (by decide +kernel) ?_
            walk_at "go"
            refine spFoundAny_i (x := x) k8 (t8 S7.g.at_) (by omega) (t8 S7.m) m1 m12 (t8 S7.z) T8 fun v' z' H9 H10 v1 v2 k10 n10 hz10 e9 w10 T10 => ?_
            have ev : v' = v := cod_inj (Int.le_antisymm (v2 v (hv1 c5).1) ((hv1 c5).2 v' v1))
            subst ev
            exact ⟨rfl, z', k10, hz10, fun b o e t h => w10 _ _ h (e9 _ _ e t), T10⟩
          · walk_at "go"
            refine r_meth ?_
            walk_at "go"
            refine rk_o k8 (by decide +kernel) (by decide +kernel) (by decide +kernel) ?_
            walk_at "go"
            refine spFound_i (x := x) k8 (t8 S7.g.at_) (by omega) (t8 S7.m) hn (t8 S7.z) fun v' z' H10 ev k10 n10 hz10 w10 => ?_
            rw [← hv2 c5] at ev
            subst ev
            obtain ⟨dx8, ep8⟩ := id k8
            exact ⟨rfl, z', k10, hz10, fun b o e _ h => w10 _ _ h e, Tabs.but T8 ep8 w10⟩
        · rintro _ H10 ⟨rfl, z', k10, hz10, w10, T10⟩
          walk_at "go"
          refine spSame_i (d := .int v) (.int v) (.int v) (Fl.int 0 v) fun H11 s11 => ?_
          obtain ⟨d1, d2, d3, d4⟩ := deed_end (x' := (x.1 + v, x.2 + v)) s7 hS7 S7 hq e8 w8 k10 hz10 w10 sx
          exact k _ _ _ _ (d1.same s11) (s11.seq d2) (d3.frn (FrN.sm s11)) (T10.ext s11) (((FrB.of (R6.trans (FrN.sm s67))).trans d4).trans (FrB.of (FrN.sm s11)))
end
end Rd

namespace Rd
open PySem L2 LamX
/-- a side of the law -/
structure SD where
  sd : Addr
  p : Addr
  g : Addr
  ml : Addr
  zl : Addr
  z : Addr
  r : Int
  pl : Int
  ms : List Int
  x : Int × Int
/-- the same side, believing anew -/
def SD.to (d : SD) (zl z : Addr) (x : Int × Int) : SD := ⟨d.sd, d.p, d.g, d.ml, zl, z, d.r, d.pl, d.ms, x⟩
def SD.Ok (C : Addr) (H : Hp) (d : SD) : Prop := Side C H d.sd d.p d.g d.ml d.zl d.z d.r d.pl d.ms d.x
structure Sides (C : Addr) (H : Hp) (ds : List SD) : Prop where
  each : ∀ (i : Nat) (d : SD), ds[i]? = some d → d.Ok C H
  apart : ∀ (i j : Nat) (d e : SD), i ≠ j → ds[i]? = some d → ds[j]? = some e → d.sd ≠ e.sd ∧ d.p ≠ e.p
section
variable {C : Addr} {H H' : Hp} {ds : List SD}
theorem Sides.frn (S : Sides C H ds) (R : FrN H H') : Sides C H' ds := ⟨fun i d h => (S.each i d h).frn R, S.apart⟩
theorem SD.Ok.via {d : SD} (S : d.Ok C H) (R : ∀ b o, H b = some o → (∀ xs, o = .lst xs → xs.length = 4) → H' b = some o) : d.Ok C H' := by
  have S : Side C H d.sd d.p d.g d.ml d.zl d.z d.r d.pl d.ms d.x := S
  obtain ⟨dx, ep⟩ := S.k
  have t : ∀ {b : Addr} {ys : List V}, H b = some (.tup ys) → H' b = some (.tup ys) := fun e => R _ _ e fun _ q => nomatch q
  exact (⟨R _ _ S.l fun _ q => by rw [← HO.lst.inj q]; rfl, ⟨dx, R _ _ ep fun _ q => nomatch q⟩, S.g.mono (t S.g.at_), t S.m, S.M, t S.z, t S.zl, S.s⟩ : Side C H' d.sd d.p d.g d.ml d.zl d.z d.r d.pl d.ms d.x)
theorem Sides.nil : Sides C H [] := ⟨fun i d h => by simp at h, fun i j d e _ h => by simp at h⟩
theorem Sides.snoc (S : Sides C H ds) {d : SD} (h : d.Ok C H) (n : ∀ (i : Nat) (e : SD), ds[i]? = some e → e.sd ≠ d.sd ∧ e.p ≠ d.p) : Sides C H (ds ++ [d]) := by
  have at_ : ∀ (i : Nat) (e : SD), (ds ++ [d])[i]? = some e → ds[i]? = some e ∨ (i = ds.length ∧ e = d) := fun i e h => by
    by_cases hi : i < ds.length
    · rw [List.getElem?_append_left hi] at h
      exact .inl h
    · rw [List.getElem?_append_right (by omega)] at h
      have : i - ds.length = 0 := by
        cases q : i - ds.length with
        | zero => rfl
        | succ m => rw [q] at h; simp at h
      rw [this] at h
      exact .inr ⟨by omega, (Option.some.inj h).symm⟩
  refine ⟨fun i e he => ?_, fun i j a b hij ha hb => ?_⟩
  · rcases at_ i e he with q | ⟨_, rfl⟩
    · exact S.each i e q
    · exact h
  · rcases at_ i a ha with qa | ⟨ia, rfl⟩
    · rcases at_ j b hb with qb | ⟨_, rfl⟩
      · exact S.apart i j a b hij qa qb
      · exact n i a qa
    · rcases at_ j b hb with qb | ⟨jb, rfl⟩
      · have z := n j b qb
        exact ⟨Ne.symm z.1, Ne.symm z.2⟩
      · omega
theorem Sides.set (S : Sides C H ds) {v : Nat} {d : SD} {zl' z' : Addr} {x' : Int × Int} (hv : ds[v]? = some d) (R : FrB d.p d.sd H H') (h : SD.Ok C H' (d.to zl' z' x')) : Sides C H' (ds.set v (d.to zl' z' x')) := by
  have hvl := (List.getElem?_eq_some_iff.mp hv).1
  have old := S.each v d hv
  obtain ⟨dx, ep⟩ := old.k
  have look : ∀ (i : Nat) (e : SD), (ds.set v (d.to zl' z' x'))[i]? = some e → ∃ e0, ds[i]? = some e0 ∧ e.sd = e0.sd ∧ e.p = e0.p ∧ ((i = v ∧ e = (d.to zl' z' x')) ∨ (i ≠ v ∧ e = e0)) := fun i e he => by
    by_cases hi : i = v
    · subst hi
      rw [List.getElem?_set_self hvl] at he
      have := Option.some.inj he
      exact ⟨d, hv, by rw [← this]; rfl, by rw [← this]; rfl, .inl ⟨rfl, this.symm⟩⟩
    · rw [List.getElem?_set_ne (Ne.symm hi)] at he
      exact ⟨e, he, rfl, rfl, .inr ⟨hi, rfl⟩⟩
  refine ⟨fun i e he => ?_, fun i j a b hij ha hb => ?_⟩
  · obtain ⟨e0, h0, _, _, q⟩ := look i e he
    rcases q with ⟨_, rfl⟩ | ⟨hi, rfl⟩
    · exact h
    · have ap := S.apart i v e d hi h0 hv
      exact (S.each i e h0).frb R ap.2 ap.1 ep old.l
  · obtain ⟨a0, ha0, ea1, ea2, _⟩ := look i a ha
    obtain ⟨b0, hb0, eb1, eb2, _⟩ := look j b hb
    have ap := S.apart i j a0 b0 hij ha0 hb0
    rw [ea1, ea2, eb1, eb2]
    exact ap
theorem map_set_same {α β : Type} {f : α → β} {b : α} : ∀ {l : List α} {i : Nat} {a : α}, l[i]? = some a → f b = f a → (l.set i b).map f = l.map f
  | x :: l, 0, a, h, e => by
    have : x = a := Option.some.inj h
    subst this
    rw [List.set_cons_zero, List.map_cons, List.map_cons, e]
  | x :: l, i + 1, a, h, e => by
    rw [List.set_cons_succ, List.map_cons, List.map_cons, map_set_same (l := l) (by simpa using h) e]
end
section
variable {P : Program} {w : World} {K : PySem.W.Frag} {mg : Str → Option Value} {base : Heap} {C : Addr}
set_option maxHeartbeats 8000000 in
theorem ok_law {TT : List (Addr × Str)} {f : Addr} {fd : FuncData} (B : Bl mg) (T : KTxt K C) (F : Fun K "law" "law" s_law f fd) (H_law_start : Has P w K mg base CX0 1 "_law_start" (spStart K)) (H_law_drawn : Has P w K mg base CX0 1 "_law_drawn" (spDrawn K))
    (H_law_same : Has P w K mg base CX0 3 "_law_same" (spSame 3)) (H_law_gear : Has P w K mg base CX0 2 "_law_gear" (spGear K)) (H_law_marks : Has P w K mg base CX0 2 "_law_marks" (spMarks K)) (H_law_standing : Has P w K mg base CX0 2 "_law_standing" (spStanding K))
    (H_law_deed : Has P w K mg base CX0 6 "_law_deed" (spDeed K C TT)) (HK_Keeper : HasMk P w K mg base CX0 C 3 "Keeper" (spInit C)) (HM_Keeper_believed : HasM P w K mg base CX0 C 1 "believed" (spBelieved C)) :
    FnOk P w K mg base CX0 7 f fd ["_law_script"] (spLawT K TT) := by
  refine F.ok sc_law (fun vs H Q E h => ?_) (fun cdv A outer s H vs Q E hr h => ?_)
  · obtain ⟨a, ns, rfl, _⟩ := h
    rfl
  · obtain ⟨a, ns, rfl, hS, hlen, hT, k⟩ := h
    have T_Keeper := T
    refine ⟨_, (pss_cons (ps_set (i := 1) sc_law.nd rfl (by first | exact Or.inl rfl | exact Or.inr rfl) (pe_has H_law_start hr (by omega) rfl pass0 (pa_cons (pv 0) pa_nil)))
 (pss_cons (ps_set (i := 2) sc_law.nd rfl (by first | exact Or.inl rfl | exact Or.inr rfl) (pe_lst pa_nil))
 (pss_cons (ps_for PassesOwn.never rfl (pi_range1 rfl B.range (pa_cons pe_int pa_nil)) (pg_name (i := 3) sc_law.nd rfl (by first | exact Or.inl rfl | exact Or.inr rfl)) (pss_cons (ps_set (i := 4) sc_law.nd rfl (by first | exact Or.inl rfl | exact Or.inr rfl) (pe_has H_law_gear hr (by omega) rfl pass0 (pa_cons (pv 1) (pa_cons pe_bl pa_nil))))
 (pss_cons (ps_set (i := 5) sc_law.nd rfl (by first | exact Or.inl rfl | exact Or.inr rfl) (pe_has H_law_marks hr (by omega) rfl pass0 (pa_cons (pv 1) (pa_cons (pv 4) pa_nil))))
 (pss_cons (ps_set (i := 6) sc_law.nd rfl (by first | exact Or.inl rfl | exact Or.inr rfl) (pe_has H_law_standing hr (by omega) rfl pass0 (pa_cons (pv 1) (pa_cons (pv 4) pa_nil))))
 (pss_one (ps_expr (kpe_bm (K := K) rfl PySem.F.plainAttrs_list PySem.F.slot_list_append PySem.F.type_list_append mt_append (pv 2) (pa_cons (pe_lst (pa_cons (pe_hasMk HK_Keeper hr (by omega) rfl pass0 (pa_cons (pv 4) (pa_cons (pv 5) (pa_cons (pv 6) pa_nil)))) (pa_cons (pv 4) (pa_cons (pv 5) (pa_cons (pv 6) pa_nil))))) pa_nil))))))))
 (pss_cons (ps_for PassesOwn.never rfl (pi_range1 rfl B.range (pa_cons (pe_has H_law_drawn hr (by omega) rfl pass0 (pa_cons (pv 1) (pa_cons pe_int pa_nil))) pa_nil)) (pg_name (i := 7) sc_law.nd rfl (by first | exact Or.inl rfl | exact Or.inr rfl)) (pss_cons (ps_if (pt_not (pt_val (pe_has H_law_deed hr (by omega) rfl pass0 (pa_cons (pv 1) (pa_cons (pe_ix (kix (K := K) rfl) (pv 2) (pe_has H_law_drawn hr (by omega) rfl pass0 (pa_cons (pv 1) (pa_cons pe_int pa_nil))) (fun _ _ => rfl)) pa_nil))))) (pss_one (ps_ret pe_bl)) pss_nil)
 (pss_one (ps_if (pt_not (pt_val (pe_has H_law_same hr (by omega) rfl pass0 (pa_cons (pe_lc (own := [("_law_side", 8)]) (g := (gName 8)) rfl sc_law.nd (kpi_list (K := K) rfl (pv 2)) (blkOk_by (N := ["_law_script", "_law_state", "_law_sides", "_law_k", "_law_gear_here", "_law_marks_here", "_law_standing_here", "_law_turn", "_law_side"]) (sc := defScope s_law) (own := [("_law_side", 8)]) (by decide +kernel)) (fun _ _ _ _ _ => (pg_name (i := 8) sc_law.nd rfl (by first | exact Or.inl rfl | exact Or.inr rfl))) (fun _ _ _ _ _ => pts_nil) (fun _ _ _ _ _ => (pe_hasM0 HM_Keeper_believed T_Keeper.cl hr (by omega) (pe_ix (kix (K := K) rfl) (pv 8) pe_int (fun _ _ => rfl)) pass0))) (pa_cons (pe_lc (own := [("_law_side", 8)]) (g := (gName 8)) rfl sc_law.nd (kpi_list (K := K) rfl (pv 2)) (blkOk_by (N := ["_law_script", "_law_state", "_law_sides", "_law_k", "_law_gear_here", "_law_marks_here", "_law_standing_here", "_law_turn", "_law_side"]) (sc := defScope s_law) (own := [("_law_side", 8)]) (by decide +kernel)) (fun _ _ _ _ _ => (pg_name (i := 8) sc_law.nd rfl (by first | exact Or.inl rfl | exact Or.inr rfl))) (fun _ _ _ _ _ => pts_nil) (fun _ _ _ _ _ => (pe_ix (kix (K := K) rfl) (pv 8) pe_int (fun _ _ => rfl)))) pa_nil))))) (pss_one (ps_ret pe_bl)) pss_nil))))
 (pss_one (ps_ret pe_bl)))))), ?_⟩
    refine r_start (σ' := [some (.ref a), none, none, none, none, none, none, none, none]) rfl ?_
    walk_at "go"
    refine spStart_i hS fun st H1 _ sm1 s1 => ?_
    walk_at "go"
    intro sl nsl
    have hA : (∀ H', SqL K H' a (ns.map V.int)) ∨ a ≠ sl := by
      rcases sm1.seq hS with (h | ⟨o, h⟩) | h
      · exact .inr (ne_of_none h nsl)
      · exact .inr (ne_of_none h nsl)
      · exact .inl fun _ => .inr h
    walk_at "go"
    refine ⟨_, rfl, by decide, by decide, fw_range (fun i σ H2 => ∃ v3 v4 v5 v6 v7 v8, ∃ ds : List SD, σ = [some (.ref a), some (.ref st), some (.ref sl), v3, v4, v5, v6, v7, v8] ∧ St H2 st a ∧ SqL K H2 a (ns.map V.int) ∧ Tabs TT H2 ∧ ds.length = i ∧ H2 sl = some (.lst (ds.map fun d => V.ref d.sd)) ∧ Sides C H2 ds)
      ⟨_, _, _, _, _, _, [], rfl, s1.new nsl, sq_new nsl (sm1.seq hS), Tabs.ext (Tabs.ext hT sm1) (same_new nsl), rfl, upd_same, Sides.nil⟩ ?_ ?_⟩
    · rintro i σ H2 hi ⟨v3, v4, v5, v6, v7, v8, ds, rfl, s2, hS2, T2, dl, hl2, D2⟩
      have hi2 : i < 2 := by omega
      walk_at "go"
      refine spGear_i s2 hS2 fun g r p H3 r2 r6 p0 p6 _ s3 R3 hg => ?_
      have hS3 := fr_sq R3 hS2
      walk_at "go"
      refine spMarks_i s3 hS3 hg (by omega) r6 fun ml ms H4 M s4 R4 hm => ?_
      have hS4 := fr_sq R4 hS3
      have hg4 := R4 _ _ hg nst_tup
      walk_at "go"
      refine spStanding_i s4 hS4 hg4 p0 p6 fun z m sh H5 q1 q2 _ _ s5 R5 hz => ?_
      have hS5 := fr_sq R5 hS4
      have hg5 := R5 _ _ hg4 nst_tup
      have hm5 := R5 _ _ hm nst_tup
      have R25 : Fr H2 H5 := (R3.trans R4).trans R5
      have D5 := D2.frn (FrN.of R25)
      have T5 := Tabs.fr T2 R25
      have nstl : NotSt (.lst (ds.map fun d => V.ref d.sd)) := fun a i m r h => by
        have := congrArg (fun o => match o with | HO.lst xs => xs.length | _ => 0) h
        simp at this
        omega
      have hl5 := R25 _ _ hl2 nstl
      walk_at "go"
      refine ⟨r_tyL hl5, ?_⟩
      walk_at "go"
      refine r_make ?_
      walk_at "go"
      intro x dx nx_ ndx ndxx
      have s56 : Same H5 (upd (upd H5 dx (.own x)) x (.ins C dx [])) := fun b o e => by
        rw [upd_ne (ne_of_none e nx_), upd_ne (ne_of_none e ndx)]
        exact e
      have hx6 : upd (upd H5 dx (.own x)) x (.ins C dx []) x = some (.ins C dx []) := upd_same
      generalize upd (upd H5 dx (.own x)) x (.ins C dx []) = H6 at s56 hx6 ⊢
      have G6 : GearAt H6 g r p := ⟨s56 _ _ hg5, r2, r6, p0, p6⟩
      refine spInit_i (x := (m, sh)) hx6 G6 (s56 _ _ hm5) M (s56 _ _ hz) ⟨q1, q2⟩ fun H7 k7 w7 => ⟨rfl, ?_⟩
      have s57 : Same H5 H7 := But.same w7 nx_ s56
      walk_at "go"
      intro sd nsd
      walk_at "go"
      have s58 := s57.trans (same_new (u := .lst [.ref x, .ref g, .ref ml, .ref z]) nsd)
      have hsd8 : upd H7 sd (.lst [.ref x, .ref g, .ref ml, .ref z]) sd = some (.lst [.ref x, .ref g, .ref ml, .ref z]) := upd_same
      have k8 := k7.same (same_new (u := .lst [.ref x, .ref g, .ref ml, .ref z]) nsd)
      have hsdn : H5 sd = none := s57.free nsd
      generalize upd H7 sd (.lst [.ref x, .ref g, .ref ml, .ref z]) = H8 at s58 hsd8 k8 ⊢
      have hl8 := s58 _ _ hl5
      refine r_appA hl8 (by rw [List.length_map]; exact small1000 (by omega)) fun H9 e9 w9 => ?_
      walk_at "go"
      have R89 : ∀ b o, H8 b = some o → (∀ xs, o = .lst xs → xs.length = 4) → H9 b = some o := fun b o e n => w9 _ _ (fun q => by
        subst q
        rw [hl8] at e
        have := n _ (Option.some.inj e).symm
        rw [List.length_map] at this
        omega) e
      have s8 := s5.same s58
      have st9 : St H9 st a := by
        have ne := s8.ne hl8 nstl
        obtain ⟨i', m', r', e, qq⟩ := s8.ex
        exact ⟨i', m', r', w9 _ _ ne e, qq⟩
      have hS9 : SqL K H9 a (ns.map V.int) := by
        rcases hA with h | h
        · exact h _
        · rcases s58.seq hS5 with (e | ⟨o, e⟩) | e
          · exact .inl (.inl (w9 _ _ h e))
          · exact .inl (.inr ⟨o, w9 _ _ h e⟩)
          · exact .inr e
      have new8 : SD.Ok C H8 ⟨sd, x, g, ml, z, z, r, p, ms, (m, sh)⟩ := ⟨hsd8, k8, ⟨s58 _ _ hg5, r2, r6, p0, p6⟩, s58 _ _ hm5, M, s58 _ _ hz, s58 _ _ hz, ⟨q1, q2⟩⟩
      have D8 := D5.frn (FrN.sm s58)
      have D8' := D8.snoc new8 fun i e he => by
        have Se := D5.each i e he
        obtain ⟨dxe, epe⟩ := Se.k
        exact ⟨ne_of_none Se.l hsdn, ne_of_none epe nx_⟩
      exact ⟨_, _, _, _, _, _, ds ++ [⟨sd, x, g, ml, z, z, r, p, ms, (m, sh)⟩], rfl, st9, hS9, Tabs.butL (Tabs.ext T5 s58) hl8 w9, by rw [List.length_append, dl]; rfl, by rw [e9, List.map_append]; rfl, ⟨fun i d hd => (D8'.each i d hd).via R89, D8'.apart⟩⟩
    · rintro σ H2 ⟨v3, v4, v5, v6, v7, v8, ds, rfl, s2, hS2, T2, dl, hl2, D2⟩
      have dl2 : ds.length = 2 := dl
      have nst2 : ∀ {es : List SD}, es.length = 2 → NotSt (.lst (es.map fun d => V.ref d.sd)) := fun he a i m r h => by
        have := congrArg (fun o => match o with | HO.lst xs => xs.length | _ => 0) h
        simp at this
        omega
      walk_at "go"
      refine spDrawn_i s2 hS2 (by omega) (by decide) fun nt H3 a3 b3 s3 R3 => ?_
      refine ⟨_, rfl, by omega, by omega, fw_range (fun i σ H4 => ∃ v7 v8, ∃ es : List SD, σ = [some (.ref a), some (.ref st), some (.ref sl), v3, v4, v5, v6, v7, v8] ∧ St H4 st a ∧ SqL K H4 a (ns.map V.int) ∧ Tabs TT H4 ∧ es.length = 2 ∧ H4 sl = some (.lst (es.map fun d => V.ref d.sd)) ∧ Sides C H4 es)
        ⟨v7, v8, ds, rfl, s3, fr_sq R3 hS2, Tabs.fr T2 R3, dl2, R3 _ _ hl2 (nst2 dl2), D2.frn (FrN.of R3)⟩ ?_ ?_⟩
      · rintro i σ H4 hi ⟨v7, v8, es, rfl, s4, hS4, T4, el, hl4, D4⟩
        walk_at "go"
        refine spDrawn_i s4 hS4 (by omega) (by decide) fun vi H5 a5 b5 s5 R5 => ?_
        have hS5 := fr_sq R5 hS4
        have T5 := Tabs.fr T4 R5
        have hl5 := R5 _ _ hl4 (nst2 el)
        have D5 := D4.frn (FrN.of R5)
        obtain ⟨v, rfl⟩ : ∃ v : Nat, vi = (v : Int) := ⟨vi.toNat, by omega⟩
        have hv : v < es.length := by omega
        have hev : es[v]? = some es[v] := List.getElem?_eq_getElem hv
        refine r_ix (v := .ref es[v].sd) (.inl (SqL.of hl5)) (at_of (j := v) rfl (by rw [List.getElem?_map, hev]; rfl)) ?_
        walk_at "go"
        have Sv : Side C H5 es[v].sd es[v].p es[v].g es[v].ml es[v].zl es[v].z es[v].r es[v].pl es[v].ms es[v].x := D5.each v _ hev
        refine spDeed_i s5 hS5 Sv T5 fun zl' z' x' H6 s6 hS6 S6 T6 R6 => ?_
        have D6 := D5.set (zl' := zl') (z' := z') (x' := x') hev R6 S6
        obtain ⟨dxv, epv⟩ := id Sv.k
        have hl6 : H6 sl = some (.lst ((es.set v (es[v].to zl' z' x')).map fun d => V.ref d.sd)) := by
          rw [map_set_same (f := fun d : SD => V.ref d.sd) (b := es[v].to zl' z' x') hev rfl]
          refine R6 _ _ hl5 (nst2 el) (fun _ q => nomatch q) (ne_of hl5 epv fun q => nomatch q) (ne_of hl5 Sv.l fun q => ?_)
          have := congrArg (fun o => match o with | HO.lst xs => xs.length | _ => 0) q
          simp at this
          omega
        have el6 : (es.set v (es[v].to zl' z' x')).length = 2 := by rw [List.length_set]; exact el
        generalize es.set v (es[v].to zl' z' x') = fs at D6 hl6 el6
        walk_at "go"
        refine iteF ?_
        walk_at "go"
        refine ⟨_, rfl, ⟨_, SqL.of hl6⟩, fun D nD => lcw_list (K := K) (a := sl) (xs := fs.map fun d => V.ref d.sd) (σw := [some (.ref a), some (.ref st), some (.ref sl), v3, v4, v5, v6, some (.int (0 + i)), none])
          (fun j H7 => Same H6 H7 ∧ H7 D = some (.lst (((fs.take j).map fun d => d.z).map V.ref))) rfl ⟨same_new nD, upd_same⟩ (fun j H7 _ h => SqL.of (h.1 _ _ hl6)) (fun j y H7 hj h7 => ?_) fun H7 h7 => ?_⟩
        · obtain ⟨s7, hD⟩ := h7
          obtain ⟨d, hd, rfl⟩ := map_at hj
          have Sd := (D6.frn (FrN.sm s7)).each j d hd
          have hld : H7 d.sd = some (.lst [.ref d.p, .ref d.g, .ref d.ml, .ref d.zl]) := Sd.l
          walk_at "go"
          refine ⟨rfl, ?_⟩
          walk_at "go"
          refine iteT ?_
          walk_at "go"
          refine r_meth ?_
          walk_at "go"
          refine rk_o Sd.k (by decide +kernel) (by decide +kernel) (by decide +kernel) ?_
          walk_at "go"
          refine spBelieved_i Sd.k ?_
          refine ⟨_, hD, by rw [List.length_map, List.length_map, List.length_take]; exact small1000 (by omega), fun b o e => at_wr (ne_of_none e nD) (s7 _ _ e), ?_⟩
          rw [upd_same, take_snoc hd]
          simp
        obtain ⟨s7, hD⟩ := h7
        rw [List.length_map, List.take_length] at hD
        have hl7 := s7 _ _ hl6
        walk_at "go"
        refine ⟨_, rfl, ⟨_, SqL.of hl7⟩, fun D2 nD2 => lcw_list (K := K) (a := sl) (xs := fs.map fun d => V.ref d.sd) (σw := [some (.ref a), some (.ref st), some (.ref sl), v3, v4, v5, v6, some (.int (0 + i)), none])
          (fun j H8 => Same H7 H8 ∧ H8 D2 = some (.lst (((fs.take j).map fun d => d.zl).map V.ref))) rfl ⟨same_new nD2, upd_same⟩ (fun j H8 _ h => SqL.of (h.1 _ _ hl7)) (fun j y H8 hj h8 => ?_) fun H8 h8 => ?_⟩
        · obtain ⟨s8, hD2⟩ := h8
          obtain ⟨d, hd, rfl⟩ := map_at hj
          have Sd := (D6.frn (FrN.sm (s7.trans s8))).each j d hd
          have hld : H8 d.sd = some (.lst [.ref d.p, .ref d.g, .ref d.ml, .ref d.zl]) := Sd.l
          walk_at "go"
          refine ⟨rfl, ?_⟩
          walk_at "go"
          refine iteT ?_
          walk_at "go"
          refine ⟨_, hD2, by rw [List.length_map, List.length_map, List.length_take]; exact small1000 (by omega), fun b o e => at_wr (ne_of_none e nD2) (s8 _ _ e), ?_⟩
          rw [upd_same, take_snoc hd]
          simp
        obtain ⟨s8, hD2⟩ := h8
        rw [List.length_map, List.take_length] at hD2
        have s68 := s7.trans s8
        have D8 := D6.frn (FrN.sm s68)
        have tz : Tups H8 (fs.map fun d => d.z) (fs.map fun d => d.x) := ⟨by rw [List.length_map, List.length_map], fun i a x h1 h2 => by
          rw [List.getElem?_map] at h1 h2
          obtain ⟨d, hd, rfl⟩ := Option.map_eq_some_iff.mp h1
          rw [hd] at h2
          rw [← Option.some.inj h2]
          exact (D8.each i d hd).z⟩
        have tzl : Tups H8 (fs.map fun d => d.zl) (fs.map fun d => d.x) := ⟨by rw [List.length_map, List.length_map], fun i a x h1 h2 => by
          rw [List.getElem?_map] at h1 h2
          obtain ⟨d, hd, rfl⟩ := Option.map_eq_some_iff.mp h1
          rw [hd] at h2
          rw [← Option.some.inj h2]
          exact (D8.each i d hd).zl⟩
        walk_at "go"
        refine spSame_i (d := .list ((fs.map fun d => d.x).map dPair)) (.lst (s8 _ _ hD) tz.all) (.lst hD2 tzl.all) (Fl.pairs 0 _) fun H9 s9 => ?_
        walk_at "go"
        refine iteF ?_
        have s69 := s68.trans s9
        walk_at "go"
        exact ⟨_, _, fs, rfl, s6.same s69, s69.seq hS6, T6.ext s69, el6, s69 _ _ hl6, D6.frn (FrN.sm s69)⟩
      · rintro σ H4 ⟨v7, v8, es, rfl, s4, hS4, T4, el, hl4, D4⟩
        walk_at "go"
        exact k _
theorem law_fn {f : Addr} {fd : FuncData} {C_GearError : Addr} {C_BadGear : Addr} {C_BadStanding : Addr} {C_BadMoves : Addr} {C_BadGoal : Addr} {C_BadMarks : Addr} {C_BadMark : Addr} {C_BadText : Addr} {C_Keeper : Addr} {c_Keeper_found_any P_Keeper_found_any : Addr} {c_law_deed P_law_deed : Addr} (B : Bl mg) (T_Keeper : KTxt K C_Keeper) (mk_Keeper : PySem.W.makesIn K C_Keeper = true) (kC_Keeper : PySem.W.keepIn K (.ref C_Keeper) = true) (hC_Keeper : mg "Keeper" = some (.ref C_Keeper)) (FM_Keeper_init : MethAt K C_Keeper "__init__" "Keeper.__init__" s_Keeper_init) (FM_Keeper_move : MethAt K C_Keeper "move" "Keeper.move" s_Keeper_move) (FM_Keeper_believed : MethAt K C_Keeper "believed" "Keeper.believed" s_Keeper_believed) (FM_Keeper_moved_by : MethAt K C_Keeper "moved_by" "Keeper.moved_by" s_Keeper_moved_by) (FM_Keeper_found : MethAt K C_Keeper "found" "Keeper.found" s_Keeper_found) (FM_Keeper_found_any : MethTab K C_Keeper "found_any" "Keeper.found_any" s_Keeper_found_any c_Keeper_found_any P_Keeper_found_any) (F_need_gear : FunAt K mg "need_gear" s_need_gear) (F_need_standing : FunAt K mg "need_standing" s_need_standing) (F_behind : FunAt K mg "behind" s_behind) (F_need_marks : FunAt K mg "need_marks" s_need_marks) (F_off_to : FunAt K mg "off_to" s_off_to) (F_law_start : FunAt K mg "_law_start" s_law_start) (F_law_drawn : FunAt K mg "_law_drawn" s_law_drawn) (F_law_same : FunAt K mg "_law_same" s_law_same) (F_law_kind : FunAt K mg "_law_kind" s_law_kind) (F_law_far : FunAt K mg "_law_far" s_law_far) (F_law_gear : FunAt K mg "_law_gear" s_law_gear) (F_law_standing : FunAt K mg "_law_standing" s_law_standing) (F_law_moves : FunAt K mg "_law_moves" s_law_moves) (F_law_behind : FunAt K mg "_law_behind" s_law_behind) (F_law_marks : FunAt K mg "_law_marks" s_law_marks) (F_law_nearest : FunAt K mg "_law_nearest" s_law_nearest) (F_law_deed : FunTab K mg "_law_deed" s_law_deed c_law_deed P_law_deed) (M_MOST : Cn mg "MOST" 1000000) (M_MOST_MARKS : Cn mg "MOST_MARKS" 12) (TB_Keeper_found_any : LamX.TabB base mg c_Keeper_found_any P_Keeper_found_any) (TB_law_deed : LamX.TabB base mg c_law_deed P_law_deed) (G_GearError : ClsG mg "GearError" C_GearError) (G_BadGear : ClsG mg "BadGear" C_BadGear) (G_BadStanding : ClsG mg "BadStanding" C_BadStanding) (G_BadMoves : ClsG mg "BadMoves" C_BadMoves) (G_BadGoal : ClsG mg "BadGoal" C_BadGoal) (G_BadMarks : ClsG mg "BadMarks" C_BadMarks) (G_BadMark : ClsG mg "BadMark" C_BadMark) (G_BadText : ClsG mg "BadText" C_BadText) (Z_ValueError : mg "ValueError" = none) (R_BadMark : ErrR K C_BadMark) (KD_BadMark : KindOf K C_GearError (csL C_BadGear C_BadStanding C_BadMoves C_BadGoal C_BadMarks C_BadMark C_BadText) C_BadMark 5) (NE_0_1 : P_Keeper_found_any ≠ P_law_deed) (F : Fun K "law" "law" s_law f fd) : FnOk P w K mg base CX0 7 f fd ["_law_script"] (spLawT K [(P_Keeper_found_any, ("Keeper.found_any" ++ ".<locals>." ++ "<lambda>" : Str)), (P_law_deed, ("_law_deed" ++ ".<locals>." ++ "<lambda>" : Str))]) := by
  have H0 : Has P w K mg base CX0 1 "_law_start" (spStart K) := ok_law_start F_law_start
  have H1 : Has P w K mg base CX0 1 "_law_drawn" (spDrawn K) := ok_law_drawn B F_law_drawn
  have H2 : Has P w K mg base CX0 1 "need_gear" spNG := ok_need_gear F_need_gear M_MOST
  have H3 : Has P w K mg base CX0 2 "need_standing" spNS := ok_need_standing F_need_standing H2
  have H4 : Has P w K mg base CX0 2 "need_marks" spNMk := ok_need_marks B F_need_marks M_MOST_MARKS H2
  have H5 : Has P w K mg base CX0 1 "behind" spBehind := ok_behind B F_behind
  have H6 : Has P w K mg base CX0 1 "off_to" spOff := ok_off_to F_off_to
  have K1 : HasMk P w K mg base CX0 C_Keeper 3 "Keeper" (spInit C_Keeper) := ok_Keeper_init B T_Keeper mk_Keeper kC_Keeper hC_Keeper FM_Keeper_init H4 H3
  have K2 : HasM P w K mg base CX0 C_Keeper 1 "moved_by" (spMovedBy C_Keeper) := ok_Keeper_moved_by T_Keeper FM_Keeper_moved_by
  have K3 : HasM P w K mg base CX0 C_Keeper 2 "found" (spFound C_Keeper) := ok_Keeper_found B T_Keeper FM_Keeper_found H6 K2
  have K3X : HasM P w K mg base (L2.CX P w) C_Keeper 2 "found" (spFoundX C_Keeper C_BadMark) := ok_Keeper_foundX B T_Keeper FM_Keeper_found G_BadMark R_BadMark H6 K2
  have K4 : HasM P w K mg base CX0 C_Keeper 1 "believed" (spBelieved C_Keeper) := ok_Keeper_believed T_Keeper FM_Keeper_believed
  have K5 : HasM P w K mg base CX0 C_Keeper 2 "move" (spMove C_Keeper) := ok_Keeper_move T_Keeper FM_Keeper_move H5
  have K6 : HasM P w K mg base CX0 C_Keeper 3 "found_any" (spFoundAny C_Keeper [(P_Keeper_found_any, ("Keeper.found_any" ++ ".<locals>." ++ "<lambda>" : Str)), (P_law_deed, ("_law_deed" ++ ".<locals>." ++ "<lambda>" : Str))]) := ok_Keeper_found_any B T_Keeper FM_Keeper_found_any TB_Keeper_found_any (by simp) (fun p hp e => by
    simp only [List.mem_cons, List.not_mem_nil, or_false] at hp
    rcases hp with rfl | rfl
    · rfl
    · exact absurd e.symm NE_0_1) H6 K2
  have H7 := ok_law_deed (TT := [(P_Keeper_found_any, ("Keeper.found_any" ++ ".<locals>." ++ "<lambda>" : Str)), (P_law_deed, ("_law_deed" ++ ".<locals>." ++ "<lambda>" : Str))]) (cs := csL C_BadGear C_BadStanding C_BadMoves C_BadGoal C_BadMarks C_BadMark C_BadText) B T_Keeper F_law_deed TB_law_deed (by simp) (fun p hp e => by
    simp only [List.mem_cons, List.not_mem_nil, or_false] at hp
    rcases hp with rfl | rfl
    · exact absurd e NE_0_1
    · rfl) H1 (ok_law_moves B F_law_moves H1) (ok_law_far B F_law_far H1) (ok_law_behind B F_law_behind) (ok_law_nearest F_law_nearest) (ok_law_same B F_law_same 1) F_law_kind Z_ValueError G_GearError G_BadGear G_BadStanding G_BadMoves G_BadGoal G_BadMarks G_BadMark G_BadText KD_BadMark K3X K5 K3 K6
  exact ok_law B T_Keeper F H0 H1 (ok_law_same B F_law_same 3) (ok_law_gear B F_law_gear H1) (ok_law_marks B F_law_marks H1) (ok_law_standing B F_law_standing H1) H7 K1 K4
end
theorem all_mk {l : PySem.W.OpenLaw} {w : World} {K : PySem.W.Frag} {h : Heap} {mg : Str → Option Value} {fa : Addr} (X : K.In h) (G : h.Ns mainGlobals mg) (hfa : mg "law" = some (.ref fa))
    {C_Keeper : Addr}
    {f_Keeper_init : Addr} {od_Keeper_init an_Keeper_init : Option Addr} {sl_Keeper_init : Array (Option Value)} {oc_Keeper_init kV_Keeper_init dc_Keeper_init pm_Keeper_init cd_Keeper_init ct_Keeper_init : Value}
    {f_Keeper_move : Addr} {od_Keeper_move an_Keeper_move : Option Addr} {sl_Keeper_move : Array (Option Value)} {oc_Keeper_move kV_Keeper_move dc_Keeper_move pm_Keeper_move cd_Keeper_move ct_Keeper_move : Value}
    {f_Keeper_believed : Addr} {od_Keeper_believed an_Keeper_believed : Option Addr} {sl_Keeper_believed : Array (Option Value)} {oc_Keeper_believed kV_Keeper_believed dc_Keeper_believed pm_Keeper_believed cd_Keeper_believed ct_Keeper_believed : Value}
    {f_Keeper_moved_by : Addr} {od_Keeper_moved_by an_Keeper_moved_by : Option Addr} {sl_Keeper_moved_by : Array (Option Value)} {oc_Keeper_moved_by kV_Keeper_moved_by dc_Keeper_moved_by pm_Keeper_moved_by cd_Keeper_moved_by ct_Keeper_moved_by : Value}
    {f_Keeper_found : Addr} {od_Keeper_found an_Keeper_found : Option Addr} {sl_Keeper_found : Array (Option Value)} {oc_Keeper_found kV_Keeper_found dc_Keeper_found pm_Keeper_found cd_Keeper_found ct_Keeper_found : Value}
    {f_Keeper_found_any : Addr} {od_Keeper_found_any an_Keeper_found_any : Option Addr} {sl_Keeper_found_any : Array (Option Value)} {oc_Keeper_found_any kV_Keeper_found_any dc_Keeper_found_any pm_Keeper_found_any cd_Keeper_found_any ct_Keeper_found_any : Value}
    {cc_Keeper_found_any PP_Keeper_found_any : Addr}
    {f0 : Addr} {od0 an0 : Option Addr} {sl0 : Array (Option Value)} {oc0 kV0 dc0 pm0 cd0 ct0 : Value}
    {f1 : Addr} {od1 an1 : Option Addr} {sl1 : Array (Option Value)} {oc1 kV1 dc1 pm1 cd1 ct1 : Value}
    {f2 : Addr} {od2 an2 : Option Addr} {sl2 : Array (Option Value)} {oc2 kV2 dc2 pm2 cd2 ct2 : Value}
    {f3 : Addr} {od3 an3 : Option Addr} {sl3 : Array (Option Value)} {oc3 kV3 dc3 pm3 cd3 ct3 : Value}
    {f4 : Addr} {od4 an4 : Option Addr} {sl4 : Array (Option Value)} {oc4 kV4 dc4 pm4 cd4 ct4 : Value}
    {f5 : Addr} {od5 an5 : Option Addr} {sl5 : Array (Option Value)} {oc5 kV5 dc5 pm5 cd5 ct5 : Value}
    {f6 : Addr} {od6 an6 : Option Addr} {sl6 : Array (Option Value)} {oc6 kV6 dc6 pm6 cd6 ct6 : Value}
    {f7 : Addr} {od7 an7 : Option Addr} {sl7 : Array (Option Value)} {oc7 kV7 dc7 pm7 cd7 ct7 : Value}
    {f8 : Addr} {od8 an8 : Option Addr} {sl8 : Array (Option Value)} {oc8 kV8 dc8 pm8 cd8 ct8 : Value}
    {f9 : Addr} {od9 an9 : Option Addr} {sl9 : Array (Option Value)} {oc9 kV9 dc9 pm9 cd9 ct9 : Value}
    {f10 : Addr} {od10 an10 : Option Addr} {sl10 : Array (Option Value)} {oc10 kV10 dc10 pm10 cd10 ct10 : Value}
    {f11 : Addr} {od11 an11 : Option Addr} {sl11 : Array (Option Value)} {oc11 kV11 dc11 pm11 cd11 ct11 : Value}
    {f12 : Addr} {od12 an12 : Option Addr} {sl12 : Array (Option Value)} {oc12 kV12 dc12 pm12 cd12 ct12 : Value}
    {f13 : Addr} {od13 an13 : Option Addr} {sl13 : Array (Option Value)} {oc13 kV13 dc13 pm13 cd13 ct13 : Value}
    {f14 : Addr} {od14 an14 : Option Addr} {sl14 : Array (Option Value)} {oc14 kV14 dc14 pm14 cd14 ct14 : Value}
    {f15 : Addr} {od15 an15 : Option Addr} {sl15 : Array (Option Value)} {oc15 kV15 dc15 pm15 cd15 ct15 : Value}
    {f16 : Addr} {od16 an16 : Option Addr} {sl16 : Array (Option Value)} {oc16 kV16 dc16 pm16 cd16 ct16 : Value}
    {cc_law_deed PP_law_deed : Addr}
    {f17 : Addr} {od17 an17 : Option Addr} {sl17 : Array (Option Value)} {oc17 kV17 dc17 pm17 cd17 ct17 : Value}
    {t_MOST : Tok}
    {t_MOST_MARKS : Tok}
    {C_GearError C_BadGear C_BadStanding C_BadMoves C_BadGoal C_BadMarks C_BadMark C_BadText : Addr}
    (aC_Keeper : PySem.W.nsIn K mainGlobals "Keeper" = some (some (.ref C_Keeper)))
    (pg_Keeper : PySem.W.plainGet K C_Keeper Str.empty = true)
    (hd_Keeper : PySem.W.hasDictIn K C_Keeper = true)
    (po_Keeper : PySem.W.plainOver K C_Keeper = true)
    (sa_Keeper : PySem.W.findIn K (.ref C_Keeper) "__setattr__" = some (some (.builtin "object.__setattr__")))
    (mk_Keeper : PySem.W.makesIn K C_Keeper = true)
    (kc_Keeper : PySem.W.keepIn K (.ref C_Keeper) = true)
    (nf_Keeper_gear : PySem.W.findIn K (.ref C_Keeper) "gear" = some none)
    (nf_Keeper_marks : PySem.W.findIn K (.ref C_Keeper) "marks" = some none)
    (nf_Keeper_standing : PySem.W.findIn K (.ref C_Keeper) "standing" = some none)
    (a_Keeper_init : PySem.W.findIn K (.ref C_Keeper) "__init__" = some (some (.ref f_Keeper_init))) (i_Keeper_init : PySem.W.isFn K (.ref f_Keeper_init) = true) (l_Keeper_init : K.lookup f_Keeper_init = some ⟨oc_Keeper_init, od_Keeper_init, .func (PySem.W.fnOf "__init__" "Keeper.__init__" (defArgs s_Keeper_init) (defBody s_Keeper_init) (defScope s_Keeper_init) .none kV_Keeper_init dc_Keeper_init pm_Keeper_init an_Keeper_init cd_Keeper_init ct_Keeper_init), sl_Keeper_init⟩) (c_Keeper_init : PySem.W.codeIn K cd_Keeper_init "Keeper.__init__" = true) (k_Keeper_init : PySem.W.keepIn K (.ref f_Keeper_init) = true)
    (a_Keeper_move : PySem.W.findIn K (.ref C_Keeper) "move" = some (some (.ref f_Keeper_move))) (i_Keeper_move : PySem.W.isFn K (.ref f_Keeper_move) = true) (l_Keeper_move : K.lookup f_Keeper_move = some ⟨oc_Keeper_move, od_Keeper_move, .func (PySem.W.fnOf "move" "Keeper.move" (defArgs s_Keeper_move) (defBody s_Keeper_move) (defScope s_Keeper_move) .none kV_Keeper_move dc_Keeper_move pm_Keeper_move an_Keeper_move cd_Keeper_move ct_Keeper_move), sl_Keeper_move⟩) (c_Keeper_move : PySem.W.codeIn K cd_Keeper_move "Keeper.move" = true) (k_Keeper_move : PySem.W.keepIn K (.ref f_Keeper_move) = true)
    (a_Keeper_believed : PySem.W.findIn K (.ref C_Keeper) "believed" = some (some (.ref f_Keeper_believed))) (i_Keeper_believed : PySem.W.isFn K (.ref f_Keeper_believed) = true) (l_Keeper_believed : K.lookup f_Keeper_believed = some ⟨oc_Keeper_believed, od_Keeper_believed, .func (PySem.W.fnOf "believed" "Keeper.believed" (defArgs s_Keeper_believed) (defBody s_Keeper_believed) (defScope s_Keeper_believed) .none kV_Keeper_believed dc_Keeper_believed pm_Keeper_believed an_Keeper_believed cd_Keeper_believed ct_Keeper_believed), sl_Keeper_believed⟩) (c_Keeper_believed : PySem.W.codeIn K cd_Keeper_believed "Keeper.believed" = true) (k_Keeper_believed : PySem.W.keepIn K (.ref f_Keeper_believed) = true)
    (a_Keeper_moved_by : PySem.W.findIn K (.ref C_Keeper) "moved_by" = some (some (.ref f_Keeper_moved_by))) (i_Keeper_moved_by : PySem.W.isFn K (.ref f_Keeper_moved_by) = true) (l_Keeper_moved_by : K.lookup f_Keeper_moved_by = some ⟨oc_Keeper_moved_by, od_Keeper_moved_by, .func (PySem.W.fnOf "moved_by" "Keeper.moved_by" (defArgs s_Keeper_moved_by) (defBody s_Keeper_moved_by) (defScope s_Keeper_moved_by) .none kV_Keeper_moved_by dc_Keeper_moved_by pm_Keeper_moved_by an_Keeper_moved_by cd_Keeper_moved_by ct_Keeper_moved_by), sl_Keeper_moved_by⟩) (c_Keeper_moved_by : PySem.W.codeIn K cd_Keeper_moved_by "Keeper.moved_by" = true) (k_Keeper_moved_by : PySem.W.keepIn K (.ref f_Keeper_moved_by) = true)
    (a_Keeper_found : PySem.W.findIn K (.ref C_Keeper) "found" = some (some (.ref f_Keeper_found))) (i_Keeper_found : PySem.W.isFn K (.ref f_Keeper_found) = true) (l_Keeper_found : K.lookup f_Keeper_found = some ⟨oc_Keeper_found, od_Keeper_found, .func (PySem.W.fnOf "found" "Keeper.found" (defArgs s_Keeper_found) (defBody s_Keeper_found) (defScope s_Keeper_found) .none kV_Keeper_found dc_Keeper_found pm_Keeper_found an_Keeper_found cd_Keeper_found ct_Keeper_found), sl_Keeper_found⟩) (c_Keeper_found : PySem.W.codeIn K cd_Keeper_found "Keeper.found" = true) (k_Keeper_found : PySem.W.keepIn K (.ref f_Keeper_found) = true)
    (a_Keeper_found_any : PySem.W.findIn K (.ref C_Keeper) "found_any" = some (some (.ref f_Keeper_found_any))) (i_Keeper_found_any : PySem.W.isFn K (.ref f_Keeper_found_any) = true) (l_Keeper_found_any : K.lookup f_Keeper_found_any = some ⟨oc_Keeper_found_any, od_Keeper_found_any, .func (PySem.W.fnOf "found_any" "Keeper.found_any" (defArgs s_Keeper_found_any) (defBody s_Keeper_found_any) (defScope s_Keeper_found_any) .none kV_Keeper_found_any dc_Keeper_found_any pm_Keeper_found_any an_Keeper_found_any cd_Keeper_found_any ct_Keeper_found_any), sl_Keeper_found_any⟩) (c_Keeper_found_any : PySem.W.codeIn K cd_Keeper_found_any "Keeper.found_any" = true) (k_Keeper_found_any : PySem.W.keepIn K (.ref f_Keeper_found_any) = true)
    (t_Keeper_found_any : tabFn K f_Keeper_found_any = some (cc_Keeper_found_any, PP_Keeper_found_any))
    (a0 : PySem.W.nsIn K mainGlobals "need_gear" = some (some (.ref f0))) (l0 : K.lookup f0 = some ⟨oc0, od0, .func (PySem.W.fnOf "need_gear" "need_gear" (defArgs s_need_gear) (defBody s_need_gear) (defScope s_need_gear) .none kV0 dc0 pm0 an0 cd0 ct0), sl0⟩) (c0 : PySem.W.codeIn K cd0 "need_gear" = true) (k0 : PySem.W.keepIn K (.ref f0) = true)
    (a1 : PySem.W.nsIn K mainGlobals "need_standing" = some (some (.ref f1))) (l1 : K.lookup f1 = some ⟨oc1, od1, .func (PySem.W.fnOf "need_standing" "need_standing" (defArgs s_need_standing) (defBody s_need_standing) (defScope s_need_standing) .none kV1 dc1 pm1 an1 cd1 ct1), sl1⟩) (c1 : PySem.W.codeIn K cd1 "need_standing" = true) (k1 : PySem.W.keepIn K (.ref f1) = true)
    (a2 : PySem.W.nsIn K mainGlobals "behind" = some (some (.ref f2))) (l2 : K.lookup f2 = some ⟨oc2, od2, .func (PySem.W.fnOf "behind" "behind" (defArgs s_behind) (defBody s_behind) (defScope s_behind) .none kV2 dc2 pm2 an2 cd2 ct2), sl2⟩) (c2 : PySem.W.codeIn K cd2 "behind" = true) (k2 : PySem.W.keepIn K (.ref f2) = true)
    (a3 : PySem.W.nsIn K mainGlobals "need_marks" = some (some (.ref f3))) (l3 : K.lookup f3 = some ⟨oc3, od3, .func (PySem.W.fnOf "need_marks" "need_marks" (defArgs s_need_marks) (defBody s_need_marks) (defScope s_need_marks) .none kV3 dc3 pm3 an3 cd3 ct3), sl3⟩) (c3 : PySem.W.codeIn K cd3 "need_marks" = true) (k3 : PySem.W.keepIn K (.ref f3) = true)
    (a4 : PySem.W.nsIn K mainGlobals "off_to" = some (some (.ref f4))) (l4 : K.lookup f4 = some ⟨oc4, od4, .func (PySem.W.fnOf "off_to" "off_to" (defArgs s_off_to) (defBody s_off_to) (defScope s_off_to) .none kV4 dc4 pm4 an4 cd4 ct4), sl4⟩) (c4 : PySem.W.codeIn K cd4 "off_to" = true) (k4 : PySem.W.keepIn K (.ref f4) = true)
    (a5 : PySem.W.nsIn K mainGlobals "_law_start" = some (some (.ref f5))) (l5 : K.lookup f5 = some ⟨oc5, od5, .func (PySem.W.fnOf "_law_start" "_law_start" (defArgs s_law_start) (defBody s_law_start) (defScope s_law_start) .none kV5 dc5 pm5 an5 cd5 ct5), sl5⟩) (c5 : PySem.W.codeIn K cd5 "_law_start" = true) (k5 : PySem.W.keepIn K (.ref f5) = true)
    (a6 : PySem.W.nsIn K mainGlobals "_law_drawn" = some (some (.ref f6))) (l6 : K.lookup f6 = some ⟨oc6, od6, .func (PySem.W.fnOf "_law_drawn" "_law_drawn" (defArgs s_law_drawn) (defBody s_law_drawn) (defScope s_law_drawn) .none kV6 dc6 pm6 an6 cd6 ct6), sl6⟩) (c6 : PySem.W.codeIn K cd6 "_law_drawn" = true) (k6 : PySem.W.keepIn K (.ref f6) = true)
    (a7 : PySem.W.nsIn K mainGlobals "_law_same" = some (some (.ref f7))) (l7 : K.lookup f7 = some ⟨oc7, od7, .func (PySem.W.fnOf "_law_same" "_law_same" (defArgs s_law_same) (defBody s_law_same) (defScope s_law_same) .none kV7 dc7 pm7 an7 cd7 ct7), sl7⟩) (c7 : PySem.W.codeIn K cd7 "_law_same" = true) (k7 : PySem.W.keepIn K (.ref f7) = true)
    (a8 : PySem.W.nsIn K mainGlobals "_law_kind" = some (some (.ref f8))) (l8 : K.lookup f8 = some ⟨oc8, od8, .func (PySem.W.fnOf "_law_kind" "_law_kind" (defArgs s_law_kind) (defBody s_law_kind) (defScope s_law_kind) .none kV8 dc8 pm8 an8 cd8 ct8), sl8⟩) (c8 : PySem.W.codeIn K cd8 "_law_kind" = true) (k8 : PySem.W.keepIn K (.ref f8) = true)
    (a9 : PySem.W.nsIn K mainGlobals "_law_far" = some (some (.ref f9))) (l9 : K.lookup f9 = some ⟨oc9, od9, .func (PySem.W.fnOf "_law_far" "_law_far" (defArgs s_law_far) (defBody s_law_far) (defScope s_law_far) .none kV9 dc9 pm9 an9 cd9 ct9), sl9⟩) (c9 : PySem.W.codeIn K cd9 "_law_far" = true) (k9 : PySem.W.keepIn K (.ref f9) = true)
    (a10 : PySem.W.nsIn K mainGlobals "_law_gear" = some (some (.ref f10))) (l10 : K.lookup f10 = some ⟨oc10, od10, .func (PySem.W.fnOf "_law_gear" "_law_gear" (defArgs s_law_gear) (defBody s_law_gear) (defScope s_law_gear) .none kV10 dc10 pm10 an10 cd10 ct10), sl10⟩) (c10 : PySem.W.codeIn K cd10 "_law_gear" = true) (k10 : PySem.W.keepIn K (.ref f10) = true)
    (a11 : PySem.W.nsIn K mainGlobals "_law_standing" = some (some (.ref f11))) (l11 : K.lookup f11 = some ⟨oc11, od11, .func (PySem.W.fnOf "_law_standing" "_law_standing" (defArgs s_law_standing) (defBody s_law_standing) (defScope s_law_standing) .none kV11 dc11 pm11 an11 cd11 ct11), sl11⟩) (c11 : PySem.W.codeIn K cd11 "_law_standing" = true) (k11 : PySem.W.keepIn K (.ref f11) = true)
    (a12 : PySem.W.nsIn K mainGlobals "_law_moves" = some (some (.ref f12))) (l12 : K.lookup f12 = some ⟨oc12, od12, .func (PySem.W.fnOf "_law_moves" "_law_moves" (defArgs s_law_moves) (defBody s_law_moves) (defScope s_law_moves) .none kV12 dc12 pm12 an12 cd12 ct12), sl12⟩) (c12 : PySem.W.codeIn K cd12 "_law_moves" = true) (k12 : PySem.W.keepIn K (.ref f12) = true)
    (a13 : PySem.W.nsIn K mainGlobals "_law_behind" = some (some (.ref f13))) (l13 : K.lookup f13 = some ⟨oc13, od13, .func (PySem.W.fnOf "_law_behind" "_law_behind" (defArgs s_law_behind) (defBody s_law_behind) (defScope s_law_behind) .none kV13 dc13 pm13 an13 cd13 ct13), sl13⟩) (c13 : PySem.W.codeIn K cd13 "_law_behind" = true) (k13 : PySem.W.keepIn K (.ref f13) = true)
    (a14 : PySem.W.nsIn K mainGlobals "_law_marks" = some (some (.ref f14))) (l14 : K.lookup f14 = some ⟨oc14, od14, .func (PySem.W.fnOf "_law_marks" "_law_marks" (defArgs s_law_marks) (defBody s_law_marks) (defScope s_law_marks) .none kV14 dc14 pm14 an14 cd14 ct14), sl14⟩) (c14 : PySem.W.codeIn K cd14 "_law_marks" = true) (k14 : PySem.W.keepIn K (.ref f14) = true)
    (a15 : PySem.W.nsIn K mainGlobals "_law_nearest" = some (some (.ref f15))) (l15 : K.lookup f15 = some ⟨oc15, od15, .func (PySem.W.fnOf "_law_nearest" "_law_nearest" (defArgs s_law_nearest) (defBody s_law_nearest) (defScope s_law_nearest) .none kV15 dc15 pm15 an15 cd15 ct15), sl15⟩) (c15 : PySem.W.codeIn K cd15 "_law_nearest" = true) (k15 : PySem.W.keepIn K (.ref f15) = true)
    (a16 : PySem.W.nsIn K mainGlobals "_law_deed" = some (some (.ref f16))) (l16 : K.lookup f16 = some ⟨oc16, od16, .func (PySem.W.fnOf "_law_deed" "_law_deed" (defArgs s_law_deed) (defBody s_law_deed) (defScope s_law_deed) .none kV16 dc16 pm16 an16 cd16 ct16), sl16⟩) (c16 : PySem.W.codeIn K cd16 "_law_deed" = true) (k16 : PySem.W.keepIn K (.ref f16) = true)
    (t_law_deed : PySem.W.tabIn K "_law_deed" = some (cc_law_deed, PP_law_deed))
    (a17 : PySem.W.nsIn K mainGlobals "law" = some (some (.ref f17))) (l17 : K.lookup f17 = some ⟨oc17, od17, .func (PySem.W.fnOf "law" "law" (defArgs s_law) (defBody s_law) (defScope s_law) .none kV17 dc17 pm17 an17 cd17 ct17), sl17⟩) (c17 : PySem.W.codeIn K cd17 "law" = true) (k17 : PySem.W.keepIn K (.ref f17) = true)
    (m_MOST : PySem.W.nsIn K mainGlobals "MOST" = some (some (.int 1000000 t_MOST)))
    (m_MOST_MARKS : PySem.W.nsIn K mainGlobals "MOST_MARKS" = some (some (.int 12 t_MOST_MARKS)))
    (z_len : PySem.W.nsIn K mainGlobals "len" = some none)
    (z_range : PySem.W.nsIn K mainGlobals "range" = some none)
    (z_abs : PySem.W.nsIn K mainGlobals "abs" = some none)
    (z_max : PySem.W.nsIn K mainGlobals "max" = some none)
    (z_min : PySem.W.nsIn K mainGlobals "min" = some none)
    (z_list : PySem.W.nsIn K mainGlobals "list" = some none)
    (z_tuple : PySem.W.nsIn K mainGlobals "tuple" = some none)
    (z_int : PySem.W.nsIn K mainGlobals "int" = some none)
    (z_isinstance : PySem.W.nsIn K mainGlobals "isinstance" = some none)
    (z_sum : PySem.W.nsIn K mainGlobals "sum" = some none)
    (z_set : PySem.W.nsIn K mainGlobals "set" = some none)
    (z_sorted : PySem.W.nsIn K mainGlobals "sorted" = some none)
    (z_zip : PySem.W.nsIn K mainGlobals "zip" = some none)
    (z_enumerate : PySem.W.nsIn K mainGlobals "enumerate" = some none)
    (z_str : PySem.W.nsIn K mainGlobals "str" = some none)
    (z_bool : PySem.W.nsIn K mainGlobals "bool" = some none)
    (n_Keeper_found_any : K.lookup PP_Keeper_found_any = none) (e_Keeper_found_any : PySem.W.codeHdIn K cc_Keeper_found_any PP_Keeper_found_any = true) (y_Keeper_found_any : h.get? PP_Keeper_found_any = some { cls := .none, data := .fields #[] })
    (n_law_deed : K.lookup PP_law_deed = none) (e_law_deed : PySem.W.codeHdIn K cc_law_deed PP_law_deed = true) (y_law_deed : h.get? PP_law_deed = some { cls := .none, data := .fields #[] })
    (aC_GearError : PySem.W.nsIn K mainGlobals "GearError" = some (some (.ref C_GearError)))
    (aC_BadGear : PySem.W.nsIn K mainGlobals "BadGear" = some (some (.ref C_BadGear)))
    (aC_BadStanding : PySem.W.nsIn K mainGlobals "BadStanding" = some (some (.ref C_BadStanding)))
    (aC_BadMoves : PySem.W.nsIn K mainGlobals "BadMoves" = some (some (.ref C_BadMoves)))
    (aC_BadGoal : PySem.W.nsIn K mainGlobals "BadGoal" = some (some (.ref C_BadGoal)))
    (aC_BadMarks : PySem.W.nsIn K mainGlobals "BadMarks" = some (some (.ref C_BadMarks)))
    (aC_BadMark : PySem.W.nsIn K mainGlobals "BadMark" = some (some (.ref C_BadMark)))
    (aC_BadText : PySem.W.nsIn K mainGlobals "BadText" = some (some (.ref C_BadText)))
    (z_ValueError : PySem.W.nsIn K mainGlobals "ValueError" = some none)
    (et_GearError : PySem.W.typeIn K (.ref C_GearError) = some (.type "type")) (ed_GearError : PySem.W.hasDictIn K C_GearError = true)
    (et_BadGear : PySem.W.typeIn K (.ref C_BadGear) = some (.type "type")) (ed_BadGear : PySem.W.hasDictIn K C_BadGear = true)
    (et_BadStanding : PySem.W.typeIn K (.ref C_BadStanding) = some (.type "type")) (ed_BadStanding : PySem.W.hasDictIn K C_BadStanding = true)
    (et_BadMoves : PySem.W.typeIn K (.ref C_BadMoves) = some (.type "type")) (ed_BadMoves : PySem.W.hasDictIn K C_BadMoves = true)
    (et_BadGoal : PySem.W.typeIn K (.ref C_BadGoal) = some (.type "type")) (ed_BadGoal : PySem.W.hasDictIn K C_BadGoal = true)
    (et_BadMarks : PySem.W.typeIn K (.ref C_BadMarks) = some (.type "type")) (ed_BadMarks : PySem.W.hasDictIn K C_BadMarks = true)
    (et_BadMark : PySem.W.typeIn K (.ref C_BadMark) = some (.type "type")) (ed_BadMark : PySem.W.hasDictIn K C_BadMark = true)
    (et_BadText : PySem.W.typeIn K (.ref C_BadText) = some (.type "type")) (ed_BadText : PySem.W.hasDictIn K C_BadText = true)
    (eb_GearError : PySem.W.subIn K (.ref C_GearError) (.type "BaseException") = some true)
    (hn_ : PySem.W.specialIn K (.builtin "object.__class__") "__get__" = some (some (.builtin "getset_descriptor.__get__"))) (ht_ : PySem.W.takesIn K (.builtin "object.__class__") = some true)
    (ex_BadMark : PySem.W.excIn K C_BadMark [.type "ValueError", .type "Exception", .type "BaseException", .type "object"] "ValueError.__new__" = true)
    (kc_BadMark : PySem.W.keepIn K (.ref C_BadMark) = true)
    (sb_BadMark : PySem.W.subIn K (.ref C_BadMark) (.type "BaseException") = some true)
    (hg_BadMark : PySem.W.findIn K (.ref C_BadMark) "__getattribute__" = some (some (.builtin "BaseException.__getattribute__")))
    (hk_BadMark : PySem.W.findIn K (.ref C_BadMark) "__getattr__" = some none)
    (ha_BadMark : PySem.W.findIn K (.ref C_BadMark) "__class__" = some (some (.builtin "object.__class__")))
    (hm_BadMark : PySem.W.mroIn K C_BadMark (.type "object") = some true)
    (sg_BadMark : PySem.W.subIn K (.ref C_BadMark) (.ref C_GearError) = some true)
    (sv_BadMark : PySem.W.subIn K (.ref C_BadMark) (.type "ValueError") = some true)
    (s0_BadMark : PySem.W.subIn K (.ref C_BadMark) (.ref C_BadGear) = some false)
    (n0_BadMark : C_BadMark ≠ C_BadGear)
    (s1_BadMark : PySem.W.subIn K (.ref C_BadMark) (.ref C_BadStanding) = some false)
    (n1_BadMark : C_BadMark ≠ C_BadStanding)
    (s2_BadMark : PySem.W.subIn K (.ref C_BadMark) (.ref C_BadMoves) = some false)
    (n2_BadMark : C_BadMark ≠ C_BadMoves)
    (s3_BadMark : PySem.W.subIn K (.ref C_BadMark) (.ref C_BadGoal) = some false)
    (n3_BadMark : C_BadMark ≠ C_BadGoal)
    (s4_BadMark : PySem.W.subIn K (.ref C_BadMark) (.ref C_BadMarks) = some false)
    (n4_BadMark : C_BadMark ≠ C_BadMarks)
    (s6_BadMark : PySem.W.subIn K (.ref C_BadMark) (.ref C_BadText) = some false)
    (n6_BadMark : C_BadMark ≠ C_BadText)
    (ne_0_1 : PP_Keeper_found_any ≠ PP_law_deed) :
    LamX.LawAtS l w K CX0 7 63 "_law_script" mg fa h := by
  have e := hfa.symm.trans (PySem.W.mg_of X G a17)
  cases e
  have F := fun_mk (st := s_law) l17 c17 k17
  have B : Bl mg := ⟨PySem.W.mg_none_of X G z_len, PySem.W.mg_none_of X G z_range, PySem.W.mg_none_of X G z_abs, PySem.W.mg_none_of X G z_max, PySem.W.mg_none_of X G z_min, PySem.W.mg_none_of X G z_list, PySem.W.mg_none_of X G z_tuple, PySem.W.mg_none_of X G z_int, PySem.W.mg_none_of X G z_isinstance, PySem.W.mg_none_of X G z_sum, PySem.W.mg_none_of X G z_set, PySem.W.mg_none_of X G z_sorted, PySem.W.mg_none_of X G z_zip, PySem.W.mg_none_of X G z_enumerate, PySem.W.mg_none_of X G z_str, PySem.W.mg_none_of X G z_bool⟩
  have y1 : ∀ p ∈ ([(cc_Keeper_found_any, PP_Keeper_found_any), (cc_law_deed, PP_law_deed)] : List (Addr × Addr)), h.get? p.2 = some { cls := .none, data := .fields #[] } := fun p hp => by
    simp only [List.mem_cons, List.not_mem_nil, or_false] at hp
    rcases hp with rfl | rfl
    · exact y_Keeper_found_any
    · exact y_law_deed
  have y2 : ∀ p ∈ ([(cc_Keeper_found_any, PP_Keeper_found_any), (cc_law_deed, PP_law_deed)] : List (Addr × Addr)), K.lookup p.2 = none := fun p hp => by
    simp only [List.mem_cons, List.not_mem_nil, or_false] at hp
    rcases hp with rfl | rfl
    · exact n_Keeper_found_any
    · exact n_law_deed
  have y3 : ∀ p ∈ ([(cc_Keeper_found_any, PP_Keeper_found_any), (cc_law_deed, PP_law_deed)] : List (Addr × Addr)), PySem.W.CodeHd h p.1 p.2 := fun p hp => by
    simp only [List.mem_cons, List.not_mem_nil, or_false] at hp
    rcases hp with rfl | rfl
    · exact PySem.W.codeHd_of_K X e_Keeper_found_any
    · exact PySem.W.codeHd_of_K X e_law_deed
  refine ⟨_, [(cc_Keeper_found_any, PP_Keeper_found_any), (cc_law_deed, PP_law_deed)], spLawT K [(PP_Keeper_found_any, ("Keeper.found_any" ++ ".<locals>." ++ "<lambda>" : Str)), (PP_law_deed, ("_law_deed" ++ ".<locals>." ++ "<lambda>" : Str))], y1, y2, y3, fun s v => .of_eq rfl, fun H a ns hl _ hH hS => ⟨a, ns, rfl, hS, hl, ?_, fun _ => rfl⟩, fun base _ _ TB => law_fn B ⟨⟨pg_Keeper, hd_Keeper, po_Keeper, sa_Keeper⟩, nf_Keeper_gear, nf_Keeper_marks, nf_Keeper_standing⟩ mk_Keeper kc_Keeper (PySem.W.mg_of X G aC_Keeper) (MethAt.mk' a_Keeper_init i_Keeper_init l_Keeper_init c_Keeper_init k_Keeper_init) (MethAt.mk' a_Keeper_move i_Keeper_move l_Keeper_move c_Keeper_move k_Keeper_move) (MethAt.mk' a_Keeper_believed i_Keeper_believed l_Keeper_believed c_Keeper_believed k_Keeper_believed) (MethAt.mk' a_Keeper_moved_by i_Keeper_moved_by l_Keeper_moved_by c_Keeper_moved_by k_Keeper_moved_by) (MethAt.mk' a_Keeper_found i_Keeper_found l_Keeper_found c_Keeper_found k_Keeper_found) (MethTab.mk' a_Keeper_found_any i_Keeper_found_any l_Keeper_found_any c_Keeper_found_any k_Keeper_found_any t_Keeper_found_any) (FunAt.mk' X G a0 l0 c0 k0) (FunAt.mk' X G a1 l1 c1 k1) (FunAt.mk' X G a2 l2 c2 k2) (FunAt.mk' X G a3 l3 c3 k3) (FunAt.mk' X G a4 l4 c4 k4) (FunAt.mk' X G a5 l5 c5 k5) (FunAt.mk' X G a6 l6 c6 k6) (FunAt.mk' X G a7 l7 c7 k7) (FunAt.mk' X G a8 l8 c8 k8) (FunAt.mk' X G a9 l9 c9 k9) (FunAt.mk' X G a10 l10 c10 k10) (FunAt.mk' X G a11 l11 c11 k11) (FunAt.mk' X G a12 l12 c12 k12) (FunAt.mk' X G a13 l13 c13 k13) (FunAt.mk' X G a14 l14 c14 k14) (FunAt.mk' X G a15 l15 c15 k15) (FunTab.mk' X G a16 l16 c16 k16 t_law_deed) ⟨_, PySem.W.mg_of X G m_MOST⟩ ⟨_, PySem.W.mg_of X G m_MOST_MARKS⟩ (TB (cc_Keeper_found_any, PP_Keeper_found_any) (by simp)) (TB (cc_law_deed, PP_law_deed) (by simp)) ⟨PySem.W.mg_of X G aC_GearError⟩ ⟨PySem.W.mg_of X G aC_BadGear⟩ ⟨PySem.W.mg_of X G aC_BadStanding⟩ ⟨PySem.W.mg_of X G aC_BadMoves⟩ ⟨PySem.W.mg_of X G aC_BadGoal⟩ ⟨PySem.W.mg_of X G aC_BadMarks⟩ ⟨PySem.W.mg_of X G aC_BadMark⟩ ⟨PySem.W.mg_of X G aC_BadText⟩ (PySem.W.mg_none_of X G z_ValueError) ⟨ex_BadMark, kc_BadMark, sb_BadMark, et_BadMark⟩ ⟨⟨hg_BadMark, hk_BadMark, sb_BadMark, ed_BadMark, ha_BadMark, hn_, ht_, hm_BadMark⟩, PySem.W.exm_ref eb_GearError ed_GearError et_GearError sg_BadMark, kit_type (by decide +kernel) sv_BadMark, fun j hj => match j, hj with | 0, _ => kit_ref ed_BadGear et_BadGear s0_BadMark n0_BadMark | 1, _ => kit_ref ed_BadStanding et_BadStanding s1_BadMark n1_BadMark | 2, _ => kit_ref ed_BadMoves et_BadMoves s2_BadMark n2_BadMark | 3, _ => kit_ref ed_BadGoal et_BadGoal s3_BadMark n3_BadMark | 4, _ => kit_ref ed_BadMarks et_BadMarks s4_BadMark n4_BadMark | 5, _ => kit_self | 6, _ => kit_ref ed_BadText et_BadText s6_BadMark n6_BadMark | n + 7, h => absurd h (by omega)⟩ ne_0_1 F⟩
  · intro p hp
    simp only [List.mem_cons, List.not_mem_nil, or_false] at hp
    rcases hp with rfl | rfl
    · exact LamX.TabS.nil (hH (cc_Keeper_found_any, PP_Keeper_found_any) (by simp))
    · exact LamX.TabS.nil (hH (cc_law_deed, PP_law_deed) (by simp))
end Rd
open PySem PySem.W PyProof.Rows
set_option maxRecDepth 100000 in
set_option maxHeartbeats 0 in
theorem PySem.Challenge.cw_stepgear_k08_keepers_holds : PySem.Challenge.rw_stepgear_k08_keepers.Holds := by
  w_on; o_law; k_head; (case hw => w_witness2)
  k_fill
  refine Rd.walk_tabs (l := PySem.Challenge.rw_stepgear_k08_keepers) (n := 63) (k := 7) (x := "_law_script") (CX := fun _ => L2.CX0) rfl (by decide) rfl ⟨rfl, by decide, by decide⟩ (fun w h Y => PySem.W.km_in_of Y) ?F (fun _ _ _ _ _ h => h)
  case F =>
    intro w mg fa h Y KX G hmg TA
    refine' Rd.all_mk KX G hmg ?aC_Keeper ?pg_Keeper ?hd_Keeper ?po_Keeper ?sa_Keeper ?mk_Keeper ?kc_Keeper ?nf_Keeper_gear ?nf_Keeper_marks ?nf_Keeper_standing ?a_Keeper_init ?i_Keeper_init ?l_Keeper_init ?c_Keeper_init ?k_Keeper_init ?a_Keeper_move ?i_Keeper_move ?l_Keeper_move ?c_Keeper_move ?k_Keeper_move ?a_Keeper_believed ?i_Keeper_believed ?l_Keeper_believed ?c_Keeper_believed ?k_Keeper_believed ?a_Keeper_moved_by ?i_Keeper_moved_by ?l_Keeper_moved_by ?c_Keeper_moved_by ?k_Keeper_moved_by ?a_Keeper_found ?i_Keeper_found ?l_Keeper_found ?c_Keeper_found ?k_Keeper_found ?a_Keeper_found_any ?i_Keeper_found_any ?l_Keeper_found_any ?c_Keeper_found_any ?k_Keeper_found_any ?t_Keeper_found_any ?a0 ?l0 ?c0 ?k0 ?a1 ?l1 ?c1 ?k1 ?a2 ?l2 ?c2 ?k2 ?a3 ?l3 ?c3 ?k3 ?a4 ?l4 ?c4 ?k4 ?a5 ?l5 ?c5 ?k5 ?a6 ?l6 ?c6 ?k6 ?a7 ?l7 ?c7 ?k7 ?a8 ?l8 ?c8 ?k8 ?a9 ?l9 ?c9 ?k9 ?a10 ?l10 ?c10 ?k10 ?a11 ?l11 ?c11 ?k11 ?a12 ?l12 ?c12 ?k12 ?a13 ?l13 ?c13 ?k13 ?a14 ?l14 ?c14 ?k14 ?a15 ?l15 ?c15 ?k15 ?a16 ?l16 ?c16 ?k16 ?t_law_deed ?a17 ?l17 ?c17 ?k17 ?m_MOST ?m_MOST_MARKS ?z_len ?z_range ?z_abs ?z_max ?z_min ?z_list ?z_tuple ?z_int ?z_isinstance ?z_sum ?z_set ?z_sorted ?z_zip ?z_enumerate ?z_str ?z_bool ?n_Keeper_found_any ?e_Keeper_found_any ?y_Keeper_found_any ?n_law_deed ?e_law_deed ?y_law_deed ?aC_GearError ?aC_BadGear ?aC_BadStanding ?aC_BadMoves ?aC_BadGoal ?aC_BadMarks ?aC_BadMark ?aC_BadText ?z_ValueError ?et_GearError ?ed_GearError ?et_BadGear ?ed_BadGear ?et_BadStanding ?ed_BadStanding ?et_BadMoves ?ed_BadMoves ?et_BadGoal ?ed_BadGoal ?et_BadMarks ?ed_BadMarks ?et_BadMark ?ed_BadMark ?et_BadText ?ed_BadText ?eb_GearError ?hn_ ?ht_ ?ex_BadMark ?kc_BadMark ?sb_BadMark ?hg_BadMark ?hk_BadMark ?ha_BadMark ?hm_BadMark ?sg_BadMark ?sv_BadMark ?s0_BadMark ?n0_BadMark ?s1_BadMark ?n1_BadMark ?s2_BadMark ?n2_BadMark ?s3_BadMark ?n3_BadMark ?s4_BadMark ?n4_BadMark ?s6_BadMark ?n6_BadMark ?ne_0_1
    (case aC_Keeper => k_is)
    (case pg_Keeper => k_is)
    (case hd_Keeper => k_is)
    (case po_Keeper => k_is)
    (case sa_Keeper => first | k_is | with_unfolding_all rfl)
    (case mk_Keeper => k_is)
    (case kc_Keeper => k_is)
    (case nf_Keeper_gear => k_is)
    (case nf_Keeper_marks => k_is)
    (case nf_Keeper_standing => k_is)
    (case a_Keeper_init => first | k_is | with_unfolding_all rfl)
    (case i_Keeper_init => first | k_is | with_unfolding_all rfl)
    (case l_Keeper_init => k_is)
    (case c_Keeper_init => k_is)
    (case k_Keeper_init => k_is)
    (case a_Keeper_move => first | k_is | with_unfolding_all rfl)
    (case i_Keeper_move => first | k_is | with_unfolding_all rfl)
    (case l_Keeper_move => k_is)
    (case c_Keeper_move => k_is)
    (case k_Keeper_move => k_is)
    (case a_Keeper_believed => first | k_is | with_unfolding_all rfl)
    (case i_Keeper_believed => first | k_is | with_unfolding_all rfl)
    (case l_Keeper_believed => k_is)
    (case c_Keeper_believed => k_is)
    (case k_Keeper_believed => k_is)
    (case a_Keeper_moved_by => first | k_is | with_unfolding_all rfl)
    (case i_Keeper_moved_by => first | k_is | with_unfolding_all rfl)
    (case l_Keeper_moved_by => k_is)
    (case c_Keeper_moved_by => k_is)
    (case k_Keeper_moved_by => k_is)
    (case a_Keeper_found => first | k_is | with_unfolding_all rfl)
    (case i_Keeper_found => first | k_is | with_unfolding_all rfl)
    (case l_Keeper_found => k_is)
    (case c_Keeper_found => k_is)
    (case k_Keeper_found => k_is)
    (case a_Keeper_found_any => first | k_is | with_unfolding_all rfl)
    (case i_Keeper_found_any => first | k_is | with_unfolding_all rfl)
    (case l_Keeper_found_any => k_is)
    (case c_Keeper_found_any => k_is)
    (case k_Keeper_found_any => k_is)
    (case t_Keeper_found_any => with_unfolding_all rfl)
    (case a0 => k_is)
    (case l0 => k_is)
    (case c0 => k_is)
    (case k0 => k_is)
    (case a1 => k_is)
    (case l1 => k_is)
    (case c1 => k_is)
    (case k1 => k_is)
    (case a2 => k_is)
    (case l2 => k_is)
    (case c2 => k_is)
    (case k2 => k_is)
    (case a3 => k_is)
    (case l3 => k_is)
    (case c3 => k_is)
    (case k3 => k_is)
    (case a4 => k_is)
    (case l4 => k_is)
    (case c4 => k_is)
    (case k4 => k_is)
    (case a5 => k_is)
    (case l5 => k_is)
    (case c5 => k_is)
    (case k5 => k_is)
    (case a6 => k_is)
    (case l6 => k_is)
    (case c6 => k_is)
    (case k6 => k_is)
    (case a7 => k_is)
    (case l7 => k_is)
    (case c7 => k_is)
    (case k7 => k_is)
    (case a8 => k_is)
    (case l8 => k_is)
    (case c8 => k_is)
    (case k8 => k_is)
    (case a9 => k_is)
    (case l9 => k_is)
    (case c9 => k_is)
    (case k9 => k_is)
    (case a10 => k_is)
    (case l10 => k_is)
    (case c10 => k_is)
    (case k10 => k_is)
    (case a11 => k_is)
    (case l11 => k_is)
    (case c11 => k_is)
    (case k11 => k_is)
    (case a12 => k_is)
    (case l12 => k_is)
    (case c12 => k_is)
    (case k12 => k_is)
    (case a13 => k_is)
    (case l13 => k_is)
    (case c13 => k_is)
    (case k13 => k_is)
    (case a14 => k_is)
    (case l14 => k_is)
    (case c14 => k_is)
    (case k14 => k_is)
    (case a15 => k_is)
    (case l15 => k_is)
    (case c15 => k_is)
    (case k15 => k_is)
    (case a16 => k_is)
    (case l16 => k_is)
    (case c16 => k_is)
    (case k16 => k_is)
    (case t_law_deed => with_unfolding_all rfl)
    (case a17 => k_is)
    (case l17 => k_is)
    (case c17 => k_is)
    (case k17 => k_is)
    (case m_MOST => k_is)
    (case m_MOST_MARKS => k_is)
    (case z_len => k_is)
    (case z_range => k_is)
    (case z_abs => k_is)
    (case z_max => k_is)
    (case z_min => k_is)
    (case z_list => k_is)
    (case z_tuple => k_is)
    (case z_int => k_is)
    (case z_isinstance => k_is)
    (case z_sum => k_is)
    (case z_set => k_is)
    (case z_sorted => k_is)
    (case z_zip => k_is)
    (case z_enumerate => k_is)
    (case z_str => k_is)
    (case z_bool => k_is)
    (case n_Keeper_found_any => first | k_is | with_unfolding_all rfl)
    (case e_Keeper_found_any => first | k_is | with_unfolding_all rfl)
    (case y_Keeper_found_any => exact PySem.W.km_tabs_of Y _ (by first | decide | simp))
    (case n_law_deed => first | k_is | with_unfolding_all rfl)
    (case e_law_deed => first | k_is | with_unfolding_all rfl)
    (case y_law_deed => exact PySem.W.km_tabs_of Y _ (by first | decide | simp))
    (case aC_GearError => k_is)
    (case aC_BadGear => k_is)
    (case aC_BadStanding => k_is)
    (case aC_BadMoves => k_is)
    (case aC_BadGoal => k_is)
    (case aC_BadMarks => k_is)
    (case aC_BadMark => k_is)
    (case aC_BadText => k_is)
    (case z_ValueError => k_is)
    (case et_GearError => k_is)
    (case ed_GearError => k_is)
    (case et_BadGear => k_is)
    (case ed_BadGear => k_is)
    (case et_BadStanding => k_is)
    (case ed_BadStanding => k_is)
    (case et_BadMoves => k_is)
    (case ed_BadMoves => k_is)
    (case et_BadGoal => k_is)
    (case ed_BadGoal => k_is)
    (case et_BadMarks => k_is)
    (case ed_BadMarks => k_is)
    (case et_BadMark => k_is)
    (case ed_BadMark => k_is)
    (case et_BadText => k_is)
    (case ed_BadText => k_is)
    (case eb_GearError => k_is)
    (case hn_ => first | k_is | with_unfolding_all rfl)
    (case ht_ => first | k_is | with_unfolding_all rfl)
    (case ex_BadMark => first | k_is | with_unfolding_all rfl)
    (case kc_BadMark => k_is)
    (case sb_BadMark => first | k_is | with_unfolding_all rfl)
    (case hg_BadMark => k_is)
    (case hk_BadMark => k_is)
    (case ha_BadMark => first | k_is | with_unfolding_all rfl)
    (case hm_BadMark => first | k_is | with_unfolding_all rfl)
    (case sg_BadMark => first | k_is | with_unfolding_all rfl)
    (case sv_BadMark => first | k_is | with_unfolding_all rfl)
    (case s0_BadMark => first | k_is | with_unfolding_all rfl)
    (case n0_BadMark => first | decide | decide +kernel)
    (case s1_BadMark => first | k_is | with_unfolding_all rfl)
    (case n1_BadMark => first | decide | decide +kernel)
    (case s2_BadMark => first | k_is | with_unfolding_all rfl)
    (case n2_BadMark => first | decide | decide +kernel)
    (case s3_BadMark => first | k_is | with_unfolding_all rfl)
    (case n3_BadMark => first | decide | decide +kernel)
    (case s4_BadMark => first | k_is | with_unfolding_all rfl)
    (case n4_BadMark => first | decide | decide +kernel)
    (case s6_BadMark => first | k_is | with_unfolding_all rfl)
    (case n6_BadMark => first | decide | decide +kernel)
    (case ne_0_1 => first | decide | decide +kernel)

