import PyProof.Rows.All
import Wide.All
import OpenK.AllK
import Wide.FinOn
import PyProof.ZipIter
import KE.KItemsList
import HandS.ForMost
import HandS.Wide
import HandS.TupAny
import HandS.IsInst
import HandS.Walk
import HandS.ListItems
import HandS.Conv
import HandS.EndTab
import HandS.TupLe
import KE.DataMinKey
import KE.KNestM
import PySem.Challenge.RW_stepgear_k07_whole_no_fewer_by_single_st
set_option Elab.async false
set_option linter.all false
set_option maxRecDepth 100000
set_option maxHeartbeats 4000000
namespace Rd
open PySem PySem.Spec PyProof.Rows L2
/-! ## defs by name -/
/-- the name x stands for a def that keeps the promise sp, at level k -/
structure Has (P : Program) (w : World) (K : PySem.W.Frag) (mg : Str → Option Value) (base : Heap) (CX : CXT) (k : Nat) (x : Str) (sp : Sp) : Prop where
  ex : ∃ (f : Addr) (fd : FuncData) (ps : List Str), FnOk P w K mg base CX k f fd ps sp ∧ mg x = some (.ref f) ∧ PySem.W.keepIn K (.ref f) = true ∧ Binds K fd ps []
theorem Has.imp {P : Program} {w : World} {K : PySem.W.Frag} {mg : Str → Option Value} {base : Heap} {CX : CXT} {k : Nat} {x : Str} {sp sp' : Sp} (h : Has P w K mg base CX k x sp) (i : ∀ vs H Q E, sp' vs H Q E → sp vs H Q E) : Has P w K mg base CX k x sp' := by
  obtain ⟨f, fd, ps, F, r⟩ := h.ex
  exact ⟨f, fd, ps, F.imp i, r⟩
theorem Has.mono {P : Program} {w : World} {K : PySem.W.Frag} {mg : Str → Option Value} {base : Heap} {CX : CXT} {j k : Nat} {x : Str} {sp : Sp} (h : Has P w K mg base CX j x sp) (i : j ≤ k) : Has P w K mg base CX k x sp := by
  obtain ⟨f, fd, ps, F, r⟩ := h.ex
  exact ⟨f, fd, ps, F.mono i, r⟩
/-- the def st of the text stands at the name x -/
structure FunAt (K : PySem.W.Frag) (mg : Str → Option Value) (x : Str) (st : Stmt) : Prop where
  ex : ∃ (f : Addr) (fd : FuncData), Fun K x x st f fd ∧ mg x = some (.ref f)
section
variable {P : Program} {w : World} {K : PySem.W.Frag} {mg : Str → Option Value} {base : Heap}
def BindOk (x : Str) (st : Stmt) (ps : List Str) : Prop := ∀ (kV doc pm : Value) (an : Option Addr) (cdv ct : Value) (us : List Value), us.length = ps.length → bindArgs (PySem.W.fnOf x x (defArgs st) (defBody st) (defScope st) .none kV doc pm an cdv ct) ⟨us, []⟩ = pure (ps.zip us)
/-- a def that lets no exception out -/
theorem FunAt.ok {x : Str} {st : Stmt} {N ps : List Str} {k : Nat} {sp : Sp} (F : FunAt K mg x st) (S : FnScope N ps (defScope st)) (bo : BindOk x st ps) (len : ∀ vs H Q E, sp vs H Q E → vs.length = ps.length)
    (hbody : ∀ (f : Addr) (cdv : Value) (A : Around) (outer : List Env) (s : Shared) (H : Hp) (vs : List V) (Q : VK) (E : XK), Room k (A.deeper (envOfC x (defScope st) s.heap.objs.size f cdv)) → sp vs H Q E →
      ∃ t, PSs (cxOf CX0 P w K mg base N x (defScope st) f cdv A outer s H E).nox (defBody st) t ∧ t { nx := fun _ H' => Q .non H', rt := Q } (start N vs) H) : Has P w K mg base CX0 (k + 1) x sp := by
  obtain ⟨f, fd, F, hm⟩ := F.ex
  exact ⟨f, fd, ps, F.ok S len fun cdv A outer s H vs Q E hr h => hbody f cdv A outer s H vs Q E hr h, hm, F.kp, F.binds bo⟩
theorem FunAt.mk' {x : Str} {st : Stmt} {h : Heap} (X : K.In h) (G : h.Ns mainGlobals mg) {f : Addr} {oc : Value} {od an : Option Addr} {osl : Array (Option Value)} {kV doc pm cdv ct : Value}
    (a : PySem.W.nsIn K mainGlobals x = some (some (.ref f)))
    (l : K.lookup f = some ⟨oc, od, .func (PySem.W.fnOf x x (defArgs st) (defBody st) (defScope st) .none kV doc pm an cdv ct), osl⟩)
    (c : PySem.W.codeIn K cdv x = true) (k : PySem.W.keepIn K (.ref f) = true) : FunAt K mg x st := ⟨f, _, fun_mk l c k, PySem.W.mg_of X G a⟩
end
section
variable {X : Cx} {CX : CXT} {k j : Nat} {sp : Sp} {E : XK} {x : Str} {p pos : Pos} {e : Expr} {es : List Expr} {t : TA}
theorem pe_has (h : Has X.prog X.w X.K X.mg X.base CX k x sp) (hr : Room j X.A) (hk : k ≤ j) (hg : Gl X x) (hx : Passes CX X E)
    (ha : PA X (e :: es) t) (hdb : (x == ("__debug__" : Str)) = false := by decide) (he : starEach (e :: es) X.env = (false, eval e X.env) :: starEach es X.env := by rfl) (hpl : (backTo pos (starEach es X.env)).any (·.1) = false := by rfl) :
    PE X (.Call (.Name x p) (e :: es) [] pos) (tCall sp [] E t) := by
  obtain ⟨f, fd, ps, F, hm, kp, b⟩ := h.ex
  exact pe_call F (hr.mono hk) hg hm kp b .nil hx ha hdb he hpl
end
/-- the built-ins' names are still theirs -/
structure Bl (mg : Str → Option Value) : Prop where
  len : mg "len" = none
  range : mg "range" = none
  abs : mg "abs" = none
  max : mg "max" = none
  min : mg "min" = none
  list : mg "list" = none
  tuple : mg "tuple" = none
  int : mg "int" = none
  isinstance : mg "isinstance" = none
  sum : mg "sum" = none
  set : mg "set" = none
  sorted : mg "sorted" = none
  zip : mg "zip" = none
  enumerate : mg "enumerate" = none
  str : mg "str" = none
  bool : mg "bool" = none
/-! ## unions of rules -/
section
variable {X : Cx}
def rAddA (K : PySem.W.Frag) : R2 := fun x y H Q => rI0 (fun i j => .int (i + j)) x y H Q ∨ ((∃ i j, x = .str i ∧ y = .str j ∧ i.length + j.length ≤ sizeLine ∧ Q (.str (i ++ j)) H) ∨ (rCat x y H Q ∨ rCatA K x y H Q))
theorem op_addA : OpR X (binaryOp .Add) (rAddA X.K) := OpR.or op_add (OpR.or op_add_str (OpR.or op_cat op_catA))
def rEqA (K : PySem.W.Frag) : R2 := fun x y H Q => rEq x y H Q ∨ rEqD K x y H Q
def rNeA (K : PySem.W.Frag) : R2 := fun x y H Q => rNe x y H Q ∨ rNeD K x y H Q
theorem op_eqA (hu : X.A.units + 64 < cLine) : OpR X (compareOp .Eq) (rEqA X.K) := OpR.or op_eq (op_eqD hu)
theorem op_neA (hu : X.A.units + 64 < cLine) : OpR X (compareOp .NotEq) (rNeA X.K) := OpR.or op_ne (op_neD hu)
def rLen (K : PySem.W.Frag) : List V → Hp → VK → Prop := fun xs H Q => (∃ p ys, xs = [.ref p] ∧ (SqL K H p ys ∨ SqT K H p ys) ∧ (ys.length ≤ 16777216 → Q (.int ys.length) H)) ∨ (∃ z, xs = [.str z] ∧ z.length ≤ sizeLine ∧ Q (.int z.length) H)
theorem call_lenA : CallR X (.builtin "len") (rLen X.K) := by
  refine CallR.or (fun pins s σ H xs us Q I r h => ?_) call_len_str
  obtain ⟨p, ys, e, hq, q⟩ := h
  have hz : ys.length ≤ 16777216 := by
    rcases hq with h | h
    · obtain ⟨_, _, _, z⟩ := I.list h
      rwa [PySem.sizeLine_eq] at z
    · obtain ⟨_, _, _, z⟩ := I.tuple h
      rwa [PySem.sizeLine_eq] at z
  exact call_len_seq pins s σ H xs us Q I r ⟨p, ys, e, hq, q hz⟩
def rMaxA (K : PySem.W.Frag) : List V → Hp → VK → Prop := fun xs H Q => (∃ i j, xs = [.int i, .int j] ∧ Q (.int (if j > i then j else i)) H) ∨ rMax K xs H Q
def rMinA (K : PySem.W.Frag) : List V → Hp → VK → Prop := fun xs H Q => (∃ i j, xs = [.int i, .int j] ∧ Q (.int (if j < i then j else i)) H) ∨ rMin K xs H Q
theorem call_maxA (hc : X.calm = true) : CallR X (.builtin "max") (rMaxA X.K) := CallR.or (call_max2 hc) (cr_max hc)
theorem call_minA (hc : X.calm = true) : CallR X (.builtin "min") (rMinA X.K) := CallR.or (call_min2 hc) (cr_min hc)
def rAbs : List V → Hp → VK → Prop := fun xs H Q => ∃ i, xs = [.int i] ∧ Q (.int (if i < 0 then -i else i)) H
theorem call_absA : CallR X (.builtin "abs") rAbs := call_abs
def rInt1 : List V → Hp → VK → Prop := fun xs H Q => (∃ i, xs = [.int i] ∧ Q (.int i) H) ∨ ∃ k, xs = [.bl k] ∧ Q (.int (if k then 1 else 0)) H
theorem call_intA : CallR X (.type "int") rInt1 := call_int1
def rListOf (K : PySem.W.Frag) : List V → Hp → VK → Prop := fun xs H Q => ∃ p ys, xs = [.ref p] ∧ (SqL K H p ys ∨ SqT K H p ys) ∧ ∀ l, H l = none → Q (.ref l) (upd H l (.lst ys))
theorem call_listA : CallR X (.type "list") (rListOf X.K) := call_list_of
def rTupOf (K : PySem.W.Frag) : List V → Hp → VK → Prop := fun xs H Q => ∃ p ys, xs = [.ref p] ∧ ((SqL K H p ys ∧ ∀ l, H l = none → Q (.ref l) (upd H l (.tup ys))) ∨ (SqT K H p ys ∧ Q (.ref p) H))
theorem call_tupA : CallR X (.type "tuple") (rTupOf X.K) := call_tuple_of
def rSlAll (K : PySem.W.Frag) : V → Option Int → Option Int → Hp → VK → Prop := fun x lo hi H Q => rSlL K x lo hi H Q ∨ (rSlA K x lo hi H Q ∨ rSlS x lo hi H Q)
theorem sl_all : SlR X (rSlAll X.K) := SlR.or sl_list (SlR.or sl_tupA sl_str)
end
/-! ## the rules again, the written part K named -/
section
variable {X : Cx} {K : PySem.W.Frag}
theorem kop_add (h : X.K = K) : OpR X (binaryOp .Add) (rAddA K) := by subst h; exact op_addA
theorem kop_eq (h : X.K = K) (hu : X.A.units + 64 < cLine) : OpR X (compareOp .Eq) (rEqA K) := by subst h; exact op_eqA hu
theorem kop_ne (h : X.K = K) (hu : X.A.units + 64 < cLine) : OpR X (compareOp .NotEq) (rNeA K) := by subst h; exact op_neA hu
theorem kix (h : X.K = K) : IxR X (rIx K) := by subst h; exact ix_seq
theorem ksl (h : X.K = K) : SlR X (rSlAll K) := by subst h; exact sl_all
theorem kc_len (h : X.K = K) : CallR X (.builtin "len") (rLen K) := by subst h; exact call_lenA
theorem kc_max (h : X.K = K) (hc : X.calm = true) : CallR X (.builtin "max") (rMaxA K) := by subst h; exact call_maxA hc
theorem kc_min (h : X.K = K) (hc : X.calm = true) : CallR X (.builtin "min") (rMinA K) := by subst h; exact call_minA hc
theorem kc_sum (h : X.K = K) (hc : X.calm = true) : CallR X (.builtin "sum") (rSum K) := by subst h; exact cr_sum hc
theorem kc_list (h : X.K = K) : CallR X (.type "list") (rListOf K) := by subst h; exact call_listA
theorem kc_tup (h : X.K = K) : CallR X (.type "tuple") (rTupOf K) := by subst h; exact call_tupA
theorem kc_isi (h : X.K = K) : CallR X (.builtin "isinstance") (fun xs H Q => rIsi K xs H Q ∨ rIsiT K xs H Q) := by subst h; exact CallR.or call_isi call_isiT
theorem kpg_tup {es : List Expr} {k : Nat} {t : TGs} {n : Nat} {pos : Pos} (hK : X.K = K) (hc : X.calm = true) (h : PGs X es t)
    (hn : (assignEach es X.env).length = n := by rfl) (hst : (assignEach es X.env).findIdx? (·.1) = none := by rfl) : PG X (.Tuple es k pos) (gTup K n t) := by subst hK; exact pg_tup hc h hn hst
theorem kpi_list {tg l : Expr} {tl : TE} (h : X.K = K) (hl : PE X l tl) : PI X tg l (iList K tl) := by subst h; exact pi_list hl
theorem kpi_tup {tg l : Expr} {tl : TE} (h : X.K = K) (hl : PE X l tl) : PI X tg l (iTup K tl) := by subst h; exact pi_tup hl
theorem kpe_bm {o e : Expr} {es : List Expr} {to : TE} {t : TA} {name : Str} {apos cpos : Pos} {T id : String} {r : V → List V → Hp → VK → Prop} (hK : X.K = K) (pa : PlainAttrs T) (slot : Slot T name id) (hty : typeOf (.builtin id) = pure (.type "method_descriptor")) (hm : MtR X id r) (ho : PE X o to) (ha : PA X (e :: es) t)
    (hbase : attributeBase o name X.env (eval o X.env) = eval o X.env := by rfl)
    (hfew : ((backTo cpos (starEach (e :: es) X.env)).all (fun x => !x.1) && (backToKw cpos (keywordEach [] X.env)).all (fun x => x.1.isSome)
      && decide ((e :: es).length + ([] : List Keyword).length + (if ([] : List Keyword).isEmpty then 0 else 1) < 30)) = true := by rfl)
    (hline : (apos.endLine == cpos.line) = true := by rfl) (hs : starEach (e :: es) X.env = (false, eval e X.env) :: starEach es X.env := by rfl) (hplain : (backTo cpos (starEach es X.env)).any (·.1) = false := by rfl) :
    PE X (.Call (.Attribute o name apos) (e :: es) [] cpos) (tBM K T r to t) := by subst hK; exact pe_bm pa slot hty hm ho ha hbase hfew hline hs hplain
/-- a module's constant -/
structure Cn (mg : Str → Option Value) (x : Str) (i : Int) : Prop where
  ex : ∃ t, mg x = some (.int i t)
theorem pe_cn {x : Str} {i : Int} {pos : Pos} (h : Cn X.mg x i) (hg : Gl X x) (hd : (x == ("__debug__" : Str)) = false := by decide) : PE X (.Name x pos) (tC (.int i)) := by
  obtain ⟨t, e⟩ := h.ex
  exact pe_glob hg e ⟨t, rfl⟩ hd
end
/-- an expression, its wish stated between -/
def tMid (t : TE) : TE := fun σ H Q => ∃ Q', t σ H Q' ∧ ∀ v H', Q' v H' → Q v H'
theorem pe_mid {X : Cx} {e : Expr} {t : TE} (h : PE X e t) : PE X e (tMid t) := by
  refine ⟨fun pins s σ H Q I q => ?_⟩
  obtain ⟨Q', h1, h2⟩ := q
  exact thn (h.run pins s σ H Q' I h1) fun u s' ⟨v, H', I', r, z⟩ => ⟨v, H', I', r, h2 _ _ z⟩
theorem r_mid {t : TE} {σ : L2.St} {H : Hp} {Q : VK} (Q' : VK) (h : t σ H Q') (k : ∀ v H', Q' v H' → Q v H') : tMid t σ H Q := ⟨Q', h, k⟩
/-- a block, cut behind its first statement -/
def tCut (t u : TS) : TS := fun D σ H => ∃ Mid : L2.St → Hp → Prop, t ⟨Mid, D.rt, D.bk, D.ct⟩ σ H ∧ ∀ σ' H', Mid σ' H' → u D σ' H'
theorem pss_cut {X : Cx} {st : Stmt} {rest : List Stmt} {t u : TS} (h1 : PS X st t) (h2 : PSs X rest u) : PSs X (st :: rest) (tCut t u) := by
  refine ⟨fun pins s σ H D I h => ?_⟩
  obtain ⟨Mid, h, k⟩ := h
  have p : PS X st (fun D' σ' H' => D' = ⟨u D, D.rt, D.bk, D.ct⟩ ∧ t ⟨Mid, D.rt, D.bk, D.ct⟩ σ' H') := ⟨fun pins s σ H D' I q => by
    obtain ⟨rfl, q⟩ := q
    refine thn (h1.run pins s σ H _ I q) fun f s' z => ?_
    cases f with
    | next => obtain ⟨σ', H', I', m⟩ := z; exact ⟨σ', H', I', k _ _ m⟩
    | cont => exact z
    | brk => exact z
    | ret v => exact z⟩
  exact (pss_cons p h2).run pins s σ H D I ⟨rfl, h⟩
/-! ## reading: names, constants -/
section
variable {K : PySem.W.Frag} {σ : L2.St} {H : Hp} {Q : VK}
theorem r_c {v : V} (k : Q v H) : tC v σ H Q := k
theorem r_var {i : Nat} {v : V} (h : σ[i]? = some (some v)) (k : Q v H) : tVar i σ H Q := ⟨v, h, k⟩
variable {a0 a1 a2 a3 a4 a5 a6 a7 a8 a9 a10 a11 a12 a13 a14 a15 a16 a17 a18 a19 : Option V} {v : V} {r : L2.St}
theorem r_v0 (k : Q v H) : tVar 0 (some v :: r) H Q := ⟨v, rfl, k⟩
theorem r_g0 {z : Option V} {G : L2.St → Hp → Prop} (k : G (some v :: r) H) : gName 0 v (z :: r) H G := k
theorem r_v1 {a0 : Option V} (k : Q v H) : tVar 1 (a0 :: some v :: r) H Q := ⟨v, rfl, k⟩
theorem r_g1 {a0 : Option V} {z : Option V} {G : L2.St → Hp → Prop} (k : G (a0 :: some v :: r) H) : gName 1 v (a0 :: z :: r) H G := k
theorem r_v2 {a0 a1 : Option V} (k : Q v H) : tVar 2 (a0 :: a1 :: some v :: r) H Q := ⟨v, rfl, k⟩
theorem r_g2 {a0 a1 : Option V} {z : Option V} {G : L2.St → Hp → Prop} (k : G (a0 :: a1 :: some v :: r) H) : gName 2 v (a0 :: a1 :: z :: r) H G := k
theorem r_v3 {a0 a1 a2 : Option V} (k : Q v H) : tVar 3 (a0 :: a1 :: a2 :: some v :: r) H Q := ⟨v, rfl, k⟩
theorem r_g3 {a0 a1 a2 : Option V} {z : Option V} {G : L2.St → Hp → Prop} (k : G (a0 :: a1 :: a2 :: some v :: r) H) : gName 3 v (a0 :: a1 :: a2 :: z :: r) H G := k
theorem r_v4 {a0 a1 a2 a3 : Option V} (k : Q v H) : tVar 4 (a0 :: a1 :: a2 :: a3 :: some v :: r) H Q := ⟨v, rfl, k⟩
theorem r_g4 {a0 a1 a2 a3 : Option V} {z : Option V} {G : L2.St → Hp → Prop} (k : G (a0 :: a1 :: a2 :: a3 :: some v :: r) H) : gName 4 v (a0 :: a1 :: a2 :: a3 :: z :: r) H G := k
theorem r_v5 {a0 a1 a2 a3 a4 : Option V} (k : Q v H) : tVar 5 (a0 :: a1 :: a2 :: a3 :: a4 :: some v :: r) H Q := ⟨v, rfl, k⟩
theorem r_g5 {a0 a1 a2 a3 a4 : Option V} {z : Option V} {G : L2.St → Hp → Prop} (k : G (a0 :: a1 :: a2 :: a3 :: a4 :: some v :: r) H) : gName 5 v (a0 :: a1 :: a2 :: a3 :: a4 :: z :: r) H G := k
theorem r_v6 {a0 a1 a2 a3 a4 a5 : Option V} (k : Q v H) : tVar 6 (a0 :: a1 :: a2 :: a3 :: a4 :: a5 :: some v :: r) H Q := ⟨v, rfl, k⟩
theorem r_g6 {a0 a1 a2 a3 a4 a5 : Option V} {z : Option V} {G : L2.St → Hp → Prop} (k : G (a0 :: a1 :: a2 :: a3 :: a4 :: a5 :: some v :: r) H) : gName 6 v (a0 :: a1 :: a2 :: a3 :: a4 :: a5 :: z :: r) H G := k
theorem r_v7 {a0 a1 a2 a3 a4 a5 a6 : Option V} (k : Q v H) : tVar 7 (a0 :: a1 :: a2 :: a3 :: a4 :: a5 :: a6 :: some v :: r) H Q := ⟨v, rfl, k⟩
theorem r_g7 {a0 a1 a2 a3 a4 a5 a6 : Option V} {z : Option V} {G : L2.St → Hp → Prop} (k : G (a0 :: a1 :: a2 :: a3 :: a4 :: a5 :: a6 :: some v :: r) H) : gName 7 v (a0 :: a1 :: a2 :: a3 :: a4 :: a5 :: a6 :: z :: r) H G := k
theorem r_v8 {a0 a1 a2 a3 a4 a5 a6 a7 : Option V} (k : Q v H) : tVar 8 (a0 :: a1 :: a2 :: a3 :: a4 :: a5 :: a6 :: a7 :: some v :: r) H Q := ⟨v, rfl, k⟩
theorem r_g8 {a0 a1 a2 a3 a4 a5 a6 a7 : Option V} {z : Option V} {G : L2.St → Hp → Prop} (k : G (a0 :: a1 :: a2 :: a3 :: a4 :: a5 :: a6 :: a7 :: some v :: r) H) : gName 8 v (a0 :: a1 :: a2 :: a3 :: a4 :: a5 :: a6 :: a7 :: z :: r) H G := k
theorem r_v9 {a0 a1 a2 a3 a4 a5 a6 a7 a8 : Option V} (k : Q v H) : tVar 9 (a0 :: a1 :: a2 :: a3 :: a4 :: a5 :: a6 :: a7 :: a8 :: some v :: r) H Q := ⟨v, rfl, k⟩
theorem r_g9 {a0 a1 a2 a3 a4 a5 a6 a7 a8 : Option V} {z : Option V} {G : L2.St → Hp → Prop} (k : G (a0 :: a1 :: a2 :: a3 :: a4 :: a5 :: a6 :: a7 :: a8 :: some v :: r) H) : gName 9 v (a0 :: a1 :: a2 :: a3 :: a4 :: a5 :: a6 :: a7 :: a8 :: z :: r) H G := k
theorem r_v10 {a0 a1 a2 a3 a4 a5 a6 a7 a8 a9 : Option V} (k : Q v H) : tVar 10 (a0 :: a1 :: a2 :: a3 :: a4 :: a5 :: a6 :: a7 :: a8 :: a9 :: some v :: r) H Q := ⟨v, rfl, k⟩
theorem r_g10 {a0 a1 a2 a3 a4 a5 a6 a7 a8 a9 : Option V} {z : Option V} {G : L2.St → Hp → Prop} (k : G (a0 :: a1 :: a2 :: a3 :: a4 :: a5 :: a6 :: a7 :: a8 :: a9 :: some v :: r) H) : gName 10 v (a0 :: a1 :: a2 :: a3 :: a4 :: a5 :: a6 :: a7 :: a8 :: a9 :: z :: r) H G := k
theorem r_v11 {a0 a1 a2 a3 a4 a5 a6 a7 a8 a9 a10 : Option V} (k : Q v H) : tVar 11 (a0 :: a1 :: a2 :: a3 :: a4 :: a5 :: a6 :: a7 :: a8 :: a9 :: a10 :: some v :: r) H Q := ⟨v, rfl, k⟩
theorem r_g11 {a0 a1 a2 a3 a4 a5 a6 a7 a8 a9 a10 : Option V} {z : Option V} {G : L2.St → Hp → Prop} (k : G (a0 :: a1 :: a2 :: a3 :: a4 :: a5 :: a6 :: a7 :: a8 :: a9 :: a10 :: some v :: r) H) : gName 11 v (a0 :: a1 :: a2 :: a3 :: a4 :: a5 :: a6 :: a7 :: a8 :: a9 :: a10 :: z :: r) H G := k
theorem r_v12 {a0 a1 a2 a3 a4 a5 a6 a7 a8 a9 a10 a11 : Option V} (k : Q v H) : tVar 12 (a0 :: a1 :: a2 :: a3 :: a4 :: a5 :: a6 :: a7 :: a8 :: a9 :: a10 :: a11 :: some v :: r) H Q := ⟨v, rfl, k⟩
theorem r_g12 {a0 a1 a2 a3 a4 a5 a6 a7 a8 a9 a10 a11 : Option V} {z : Option V} {G : L2.St → Hp → Prop} (k : G (a0 :: a1 :: a2 :: a3 :: a4 :: a5 :: a6 :: a7 :: a8 :: a9 :: a10 :: a11 :: some v :: r) H) : gName 12 v (a0 :: a1 :: a2 :: a3 :: a4 :: a5 :: a6 :: a7 :: a8 :: a9 :: a10 :: a11 :: z :: r) H G := k
theorem r_v13 {a0 a1 a2 a3 a4 a5 a6 a7 a8 a9 a10 a11 a12 : Option V} (k : Q v H) : tVar 13 (a0 :: a1 :: a2 :: a3 :: a4 :: a5 :: a6 :: a7 :: a8 :: a9 :: a10 :: a11 :: a12 :: some v :: r) H Q := ⟨v, rfl, k⟩
theorem r_g13 {a0 a1 a2 a3 a4 a5 a6 a7 a8 a9 a10 a11 a12 : Option V} {z : Option V} {G : L2.St → Hp → Prop} (k : G (a0 :: a1 :: a2 :: a3 :: a4 :: a5 :: a6 :: a7 :: a8 :: a9 :: a10 :: a11 :: a12 :: some v :: r) H) : gName 13 v (a0 :: a1 :: a2 :: a3 :: a4 :: a5 :: a6 :: a7 :: a8 :: a9 :: a10 :: a11 :: a12 :: z :: r) H G := k
theorem r_v14 {a0 a1 a2 a3 a4 a5 a6 a7 a8 a9 a10 a11 a12 a13 : Option V} (k : Q v H) : tVar 14 (a0 :: a1 :: a2 :: a3 :: a4 :: a5 :: a6 :: a7 :: a8 :: a9 :: a10 :: a11 :: a12 :: a13 :: some v :: r) H Q := ⟨v, rfl, k⟩
theorem r_g14 {a0 a1 a2 a3 a4 a5 a6 a7 a8 a9 a10 a11 a12 a13 : Option V} {z : Option V} {G : L2.St → Hp → Prop} (k : G (a0 :: a1 :: a2 :: a3 :: a4 :: a5 :: a6 :: a7 :: a8 :: a9 :: a10 :: a11 :: a12 :: a13 :: some v :: r) H) : gName 14 v (a0 :: a1 :: a2 :: a3 :: a4 :: a5 :: a6 :: a7 :: a8 :: a9 :: a10 :: a11 :: a12 :: a13 :: z :: r) H G := k
theorem r_v15 {a0 a1 a2 a3 a4 a5 a6 a7 a8 a9 a10 a11 a12 a13 a14 : Option V} (k : Q v H) : tVar 15 (a0 :: a1 :: a2 :: a3 :: a4 :: a5 :: a6 :: a7 :: a8 :: a9 :: a10 :: a11 :: a12 :: a13 :: a14 :: some v :: r) H Q := ⟨v, rfl, k⟩
theorem r_g15 {a0 a1 a2 a3 a4 a5 a6 a7 a8 a9 a10 a11 a12 a13 a14 : Option V} {z : Option V} {G : L2.St → Hp → Prop} (k : G (a0 :: a1 :: a2 :: a3 :: a4 :: a5 :: a6 :: a7 :: a8 :: a9 :: a10 :: a11 :: a12 :: a13 :: a14 :: some v :: r) H) : gName 15 v (a0 :: a1 :: a2 :: a3 :: a4 :: a5 :: a6 :: a7 :: a8 :: a9 :: a10 :: a11 :: a12 :: a13 :: a14 :: z :: r) H G := k
theorem r_v16 {a0 a1 a2 a3 a4 a5 a6 a7 a8 a9 a10 a11 a12 a13 a14 a15 : Option V} (k : Q v H) : tVar 16 (a0 :: a1 :: a2 :: a3 :: a4 :: a5 :: a6 :: a7 :: a8 :: a9 :: a10 :: a11 :: a12 :: a13 :: a14 :: a15 :: some v :: r) H Q := ⟨v, rfl, k⟩
theorem r_g16 {a0 a1 a2 a3 a4 a5 a6 a7 a8 a9 a10 a11 a12 a13 a14 a15 : Option V} {z : Option V} {G : L2.St → Hp → Prop} (k : G (a0 :: a1 :: a2 :: a3 :: a4 :: a5 :: a6 :: a7 :: a8 :: a9 :: a10 :: a11 :: a12 :: a13 :: a14 :: a15 :: some v :: r) H) : gName 16 v (a0 :: a1 :: a2 :: a3 :: a4 :: a5 :: a6 :: a7 :: a8 :: a9 :: a10 :: a11 :: a12 :: a13 :: a14 :: a15 :: z :: r) H G := k
theorem r_v17 {a0 a1 a2 a3 a4 a5 a6 a7 a8 a9 a10 a11 a12 a13 a14 a15 a16 : Option V} (k : Q v H) : tVar 17 (a0 :: a1 :: a2 :: a3 :: a4 :: a5 :: a6 :: a7 :: a8 :: a9 :: a10 :: a11 :: a12 :: a13 :: a14 :: a15 :: a16 :: some v :: r) H Q := ⟨v, rfl, k⟩
theorem r_g17 {a0 a1 a2 a3 a4 a5 a6 a7 a8 a9 a10 a11 a12 a13 a14 a15 a16 : Option V} {z : Option V} {G : L2.St → Hp → Prop} (k : G (a0 :: a1 :: a2 :: a3 :: a4 :: a5 :: a6 :: a7 :: a8 :: a9 :: a10 :: a11 :: a12 :: a13 :: a14 :: a15 :: a16 :: some v :: r) H) : gName 17 v (a0 :: a1 :: a2 :: a3 :: a4 :: a5 :: a6 :: a7 :: a8 :: a9 :: a10 :: a11 :: a12 :: a13 :: a14 :: a15 :: a16 :: z :: r) H G := k
theorem r_v18 {a0 a1 a2 a3 a4 a5 a6 a7 a8 a9 a10 a11 a12 a13 a14 a15 a16 a17 : Option V} (k : Q v H) : tVar 18 (a0 :: a1 :: a2 :: a3 :: a4 :: a5 :: a6 :: a7 :: a8 :: a9 :: a10 :: a11 :: a12 :: a13 :: a14 :: a15 :: a16 :: a17 :: some v :: r) H Q := ⟨v, rfl, k⟩
theorem r_g18 {a0 a1 a2 a3 a4 a5 a6 a7 a8 a9 a10 a11 a12 a13 a14 a15 a16 a17 : Option V} {z : Option V} {G : L2.St → Hp → Prop} (k : G (a0 :: a1 :: a2 :: a3 :: a4 :: a5 :: a6 :: a7 :: a8 :: a9 :: a10 :: a11 :: a12 :: a13 :: a14 :: a15 :: a16 :: a17 :: some v :: r) H) : gName 18 v (a0 :: a1 :: a2 :: a3 :: a4 :: a5 :: a6 :: a7 :: a8 :: a9 :: a10 :: a11 :: a12 :: a13 :: a14 :: a15 :: a16 :: a17 :: z :: r) H G := k
theorem r_v19 {a0 a1 a2 a3 a4 a5 a6 a7 a8 a9 a10 a11 a12 a13 a14 a15 a16 a17 a18 : Option V} (k : Q v H) : tVar 19 (a0 :: a1 :: a2 :: a3 :: a4 :: a5 :: a6 :: a7 :: a8 :: a9 :: a10 :: a11 :: a12 :: a13 :: a14 :: a15 :: a16 :: a17 :: a18 :: some v :: r) H Q := ⟨v, rfl, k⟩
theorem r_g19 {a0 a1 a2 a3 a4 a5 a6 a7 a8 a9 a10 a11 a12 a13 a14 a15 a16 a17 a18 : Option V} {z : Option V} {G : L2.St → Hp → Prop} (k : G (a0 :: a1 :: a2 :: a3 :: a4 :: a5 :: a6 :: a7 :: a8 :: a9 :: a10 :: a11 :: a12 :: a13 :: a14 :: a15 :: a16 :: a17 :: a18 :: some v :: r) H) : gName 19 v (a0 :: a1 :: a2 :: a3 :: a4 :: a5 :: a6 :: a7 :: a8 :: a9 :: a10 :: a11 :: a12 :: a13 :: a14 :: a15 :: a16 :: a17 :: a18 :: z :: r) H G := k
theorem r_v20 {a0 a1 a2 a3 a4 a5 a6 a7 a8 a9 a10 a11 a12 a13 a14 a15 a16 a17 a18 a19 : Option V} (k : Q v H) : tVar 20 (a0 :: a1 :: a2 :: a3 :: a4 :: a5 :: a6 :: a7 :: a8 :: a9 :: a10 :: a11 :: a12 :: a13 :: a14 :: a15 :: a16 :: a17 :: a18 :: a19 :: some v :: r) H Q := ⟨v, rfl, k⟩
theorem r_g20 {a0 a1 a2 a3 a4 a5 a6 a7 a8 a9 a10 a11 a12 a13 a14 a15 a16 a17 a18 a19 : Option V} {z : Option V} {G : L2.St → Hp → Prop} (k : G (a0 :: a1 :: a2 :: a3 :: a4 :: a5 :: a6 :: a7 :: a8 :: a9 :: a10 :: a11 :: a12 :: a13 :: a14 :: a15 :: a16 :: a17 :: a18 :: a19 :: some v :: r) H) : gName 20 v (a0 :: a1 :: a2 :: a3 :: a4 :: a5 :: a6 :: a7 :: a8 :: a9 :: a10 :: a11 :: a12 :: a13 :: a14 :: a15 :: a16 :: a17 :: a18 :: a19 :: z :: r) H G := k
theorem r_v21 {a0 a1 a2 a3 a4 a5 a6 a7 a8 a9 a10 a11 a12 a13 a14 a15 a16 a17 a18 a19 a20 : Option V} (k : Q v H) : tVar 21 (a0 :: a1 :: a2 :: a3 :: a4 :: a5 :: a6 :: a7 :: a8 :: a9 :: a10 :: a11 :: a12 :: a13 :: a14 :: a15 :: a16 :: a17 :: a18 :: a19 :: a20 :: some v :: r) H Q := ⟨v, rfl, k⟩
theorem r_g21 {a0 a1 a2 a3 a4 a5 a6 a7 a8 a9 a10 a11 a12 a13 a14 a15 a16 a17 a18 a19 a20 : Option V} {z : Option V} {G : L2.St → Hp → Prop} (k : G (a0 :: a1 :: a2 :: a3 :: a4 :: a5 :: a6 :: a7 :: a8 :: a9 :: a10 :: a11 :: a12 :: a13 :: a14 :: a15 :: a16 :: a17 :: a18 :: a19 :: a20 :: some v :: r) H) : gName 21 v (a0 :: a1 :: a2 :: a3 :: a4 :: a5 :: a6 :: a7 :: a8 :: a9 :: a10 :: a11 :: a12 :: a13 :: a14 :: a15 :: a16 :: a17 :: a18 :: a19 :: a20 :: z :: r) H G := k
theorem r_v22 {a0 a1 a2 a3 a4 a5 a6 a7 a8 a9 a10 a11 a12 a13 a14 a15 a16 a17 a18 a19 a20 a21 : Option V} (k : Q v H) : tVar 22 (a0 :: a1 :: a2 :: a3 :: a4 :: a5 :: a6 :: a7 :: a8 :: a9 :: a10 :: a11 :: a12 :: a13 :: a14 :: a15 :: a16 :: a17 :: a18 :: a19 :: a20 :: a21 :: some v :: r) H Q := ⟨v, rfl, k⟩
theorem r_g22 {a0 a1 a2 a3 a4 a5 a6 a7 a8 a9 a10 a11 a12 a13 a14 a15 a16 a17 a18 a19 a20 a21 : Option V} {z : Option V} {G : L2.St → Hp → Prop} (k : G (a0 :: a1 :: a2 :: a3 :: a4 :: a5 :: a6 :: a7 :: a8 :: a9 :: a10 :: a11 :: a12 :: a13 :: a14 :: a15 :: a16 :: a17 :: a18 :: a19 :: a20 :: a21 :: some v :: r) H) : gName 22 v (a0 :: a1 :: a2 :: a3 :: a4 :: a5 :: a6 :: a7 :: a8 :: a9 :: a10 :: a11 :: a12 :: a13 :: a14 :: a15 :: a16 :: a17 :: a18 :: a19 :: a20 :: a21 :: z :: r) H G := k
theorem r_v23 {a0 a1 a2 a3 a4 a5 a6 a7 a8 a9 a10 a11 a12 a13 a14 a15 a16 a17 a18 a19 a20 a21 a22 : Option V} (k : Q v H) : tVar 23 (a0 :: a1 :: a2 :: a3 :: a4 :: a5 :: a6 :: a7 :: a8 :: a9 :: a10 :: a11 :: a12 :: a13 :: a14 :: a15 :: a16 :: a17 :: a18 :: a19 :: a20 :: a21 :: a22 :: some v :: r) H Q := ⟨v, rfl, k⟩
theorem r_g23 {a0 a1 a2 a3 a4 a5 a6 a7 a8 a9 a10 a11 a12 a13 a14 a15 a16 a17 a18 a19 a20 a21 a22 : Option V} {z : Option V} {G : L2.St → Hp → Prop} (k : G (a0 :: a1 :: a2 :: a3 :: a4 :: a5 :: a6 :: a7 :: a8 :: a9 :: a10 :: a11 :: a12 :: a13 :: a14 :: a15 :: a16 :: a17 :: a18 :: a19 :: a20 :: a21 :: a22 :: some v :: r) H) : gName 23 v (a0 :: a1 :: a2 :: a3 :: a4 :: a5 :: a6 :: a7 :: a8 :: a9 :: a10 :: a11 :: a12 :: a13 :: a14 :: a15 :: a16 :: a17 :: a18 :: a19 :: a20 :: a21 :: a22 :: z :: r) H G := k
/-! ## reading: structure -/
theorem r_op {r : R2} {ta tb : TE} (k : ta σ H fun x H1 => tb σ H1 fun y H2 => r x y H2 Q) : tOp r ta tb σ H Q := k
theorem r_un {r : V → Hp → VK → Prop} {ta : TE} (k : ta σ H fun x H1 => r x H1 Q) : tUn r ta σ H Q := k
theorem r_chain {r r' : R2} {ta tb tc : TE} (k : ta σ H fun x H1 => tb σ H1 fun y H2 => r x y H2 fun z H3 => ∃ k, z = .bl k ∧ (if k = true then tc σ H3 fun w' H4 => r' y w' H4 Q else Q (.bl false) H3)) : tChain r r' ta tb tc σ H Q := k
theorem r_nil {Q : List V → Hp → Prop} (k : Q [] H) : tNil σ H Q := k
theorem r_cons {Q : List V → Hp → Prop} {ta : TE} {tr : TA} (k : ta σ H fun x H1 => tr σ H1 fun xs H2 => Q (x :: xs) H2) : tCons ta tr σ H Q := k
theorem r_cB {r : List V → Hp → VK → Prop} {t : TA} (k : t σ H fun vs H1 => r vs H1 Q) : tCB r t σ H Q := k
theorem r_call {sp : Sp} {E : XK} {t : TA} (k : t σ H fun vs H1 => sp vs H1 Q E) : tCall sp [] E t σ H Q := by
  have e : (fun (vs : List V) H1 => sp (vs ++ []) H1 Q E) = fun vs H1 => sp vs H1 Q E := by
    funext vs H1
    rw [List.append_nil]
  show t σ H fun vs H1 => sp (vs ++ []) H1 Q E
  rw [e]
  exact k
theorem r_tup {t : TA} (k : t σ H fun xs H1 => xs.length ≤ sizeLine ∧ ∀ p, H1 p = none → Q (.ref p) (upd H1 p (.tup xs))) : tTup t σ H Q := k
theorem r_lst {t : TA} (k : t σ H fun xs H1 => xs.length ≤ sizeLine ∧ ∀ p, H1 p = none → Q (.ref p) (upd H1 p (.lst xs))) : tLst t σ H Q := k
theorem r_test {t : TE} {Q : Bool → Hp → Prop} (k : t σ H fun x H' => ∃ k, x = .bl k ∧ Q k H') : tTest t σ H Q := k
theorem r_B {t : TE} {Q : Bool → Hp → Prop} (k : t σ H fun x H' => ∃ k, x = .bl k ∧ Q k H') : tB t σ H Q := k
theorem r_bl {b : Bool} {P : Bool → Prop} (k : P b) : ∃ c, V.bl b = .bl c ∧ P c := ⟨b, rfl, k⟩
theorem r_and {t u : TT} {Q : Bool → Hp → Prop} (k : t σ H fun c H1 => if c = true then u σ H1 Q else Q false H1) : tAnd t u σ H Q := k
theorem r_or {t u : TT} {Q : Bool → Hp → Prop} (k : t σ H fun c H1 => if c = true then Q true H1 else u σ H1 Q) : tOr t u σ H Q := k
theorem r_not {t : TT} {Q : Bool → Hp → Prop} (k : t σ H fun c H1 => Q (!c) H1) : tNot t σ H Q := k
theorem r_andV {ta tb : TE} (k : ta σ H fun x H1 => ∃ c, x = .bl c ∧ if c = true then tb σ H1 Q else Q (.bl false) H1) : tAndV ta tb σ H Q := k
theorem r_orV {ta tb : TE} (k : ta σ H fun x H1 => ∃ c, x = .bl c ∧ if c = true then Q (.bl true) H1 else tb σ H1 Q) : tOrV ta tb σ H Q := k
theorem r_notV {ta : TE} (k : ta σ H fun x H1 => ∃ c, x = .bl c ∧ Q (.bl (!c)) H1) : tNotV ta σ H Q := k
theorem r_if {t : TT} {ta tb : TE} (k : t σ H fun c H1 => if c = true then ta σ H1 Q else tb σ H1 Q) : tIf t ta tb σ H Q := k
theorem r_sl {rr : V → Option Int → Option Int → Hp → VK → Prop} {te : TE} {tl th : TO} (k : te σ H fun x H1 => tl σ H1 fun l H2 => th σ H2 fun u H3 => rr x l u H3 Q) : tSl rr te tl th σ H Q := k
theorem r_noP {Q : Option Int → Hp → Prop} (k : Q none H) : tNoPart σ H Q := k
theorem r_part {t : TE} {Q : Option Int → Hp → Prop} (k : t σ H fun x H1 => ∃ i, x = .int i ∧ Q (some i) H1) : tPart t σ H Q := k
theorem r_partI {i : Int} {P : Int → Prop} (k : P i) : ∃ j, V.int i = .int j ∧ P j := ⟨i, rfl, k⟩
theorem r_bm {T : String} {rr : V → List V → Hp → VK → Prop} {to : TE} {t : TA} (k : to σ H fun x H1 => tyV K T x H1 ∧ t σ H1 fun xs H2 => rr x xs H2 Q) : tBM K T rr to t σ H Q := k
theorem r_bm0 {T : String} {rr : V → List V → Hp → VK → Prop} {to : TE} (k : to σ H fun x H1 => tyV K T x H1 ∧ rr x [] H1 Q) : tBM0 K T rr to σ H Q := k
/-! ### statements -/
variable {nn bb cc : L2.St → Hp → Prop} {rr : VK}
theorem r_seq {t u : TS} (k : t ⟨u ⟨nn, rr, bb, cc⟩, rr, bb, cc⟩ σ H) : tSeq t u ⟨nn, rr, bb, cc⟩ σ H := k
theorem r_cut {t u : TS} (Mid : L2.St → Hp → Prop) (k : t ⟨Mid, rr, bb, cc⟩ σ H) (k2 : ∀ σ' H', Mid σ' H' → u ⟨nn, rr, bb, cc⟩ σ' H') : tCut t u ⟨nn, rr, bb, cc⟩ σ H := ⟨Mid, k, k2⟩
theorem r_next (k : nn σ H) : tNext ⟨nn, rr, bb, cc⟩ σ H := k
theorem r_break (k : bb σ H) : tBreak ⟨nn, rr, bb, cc⟩ σ H := k
theorem r_cont (k : cc σ H) : tCont ⟨nn, rr, bb, cc⟩ σ H := k
theorem r_drop {te : TE} (k : te σ H fun _ H1 => nn σ H1) : tDrop te ⟨nn, rr, bb, cc⟩ σ H := k
theorem r_ret {te : TE} (k : te σ H rr) : tRet te ⟨nn, rr, bb, cc⟩ σ H := k
theorem r_retN (k : rr .non H) : tRetN ⟨nn, rr, bb, cc⟩ σ H := k
theorem r_ifS {c : TT} {t u : TS} (k : c σ H fun b H1 => if b = true then t ⟨nn, rr, bb, cc⟩ σ H1 else u ⟨nn, rr, bb, cc⟩ σ H1) : tIfS c t u ⟨nn, rr, bb, cc⟩ σ H := k
theorem r_asg {te : TE} {g : TG} (k : te σ H fun x H1 => g x σ H1 nn) : tAsg te g ⟨nn, rr, bb, cc⟩ σ H := k
def ForW (J : It) (g : TG) (tb : TS) (D : Ends) (σ : L2.St) (H1 : Hp) : Prop := ∃ W : Nat → Nat → L2.St → Hp → Prop, (∃ m, W 0 m σ H1) ∧ ∀ i m σ H, W i m σ H →
  (J.stop i H ∧ D.nx σ H) ∨ (J.go i H ∧ ∃ N : L2.St → Hp → Prop, (∀ σ' H', N σ' H' → ∃ m', m' < m ∧ W (i + 1) m' σ' H') ∧ ∀ x H', J.yld i H x H' → g x σ H' fun σ2 H2 => tb { D with nx := N, ct := N, bk := D.nx } σ2 H2)
theorem r_for {wi : TI} {g : TG} {tb : TS} (k : wi σ H fun J H1 => ForW J g tb ⟨nn, rr, bb, cc⟩ σ H1) : tFor wi g tb ⟨nn, rr, bb, cc⟩ σ H := k
theorem fw_list {a : Addr} {xs : List V} {g : TG} {tb : TS} (Pv : Nat → L2.St → Hp → Prop) (h0 : Pv 0 σ H) (hl : ∀ i σ H, i ≤ xs.length → Pv i σ H → SqL K H a xs)
    (hs : ∀ i x σ H, xs[i]? = some x → Pv i σ H → g x σ H fun σ2 H2 => tb ⟨Pv (i + 1), rr, nn, Pv (i + 1)⟩ σ2 H2) (hd : ∀ σ H, Pv xs.length σ H → nn σ H) : ForW (Itl K a) g tb ⟨nn, rr, bb, cc⟩ σ H := for_list Pv h0 hl hs hd
theorem fw_tup {a : Addr} {xs : List V} {g : TG} {tb : TS} (Pv : Nat → L2.St → Hp → Prop) (h0 : Pv 0 σ H) (hl : ∀ i σ H, i ≤ xs.length → Pv i σ H → SqT K H a xs)
    (hs : ∀ i x σ H, xs[i]? = some x → Pv i σ H → g x σ H fun σ2 H2 => tb ⟨Pv (i + 1), rr, nn, Pv (i + 1)⟩ σ2 H2) (hd : ∀ σ H, Pv xs.length σ H → nn σ H) : ForW (Itt K a) g tb ⟨nn, rr, bb, cc⟩ σ H := for_tup Pv h0 hl hs hd
theorem fw_range {lo : Int} {n : Nat} {g : TG} {tb : TS} (Pv : Nat → L2.St → Hp → Prop) (h0 : Pv 0 σ H)
    (hs : ∀ i σ H, i < n → Pv i σ H → g (.int (lo + i)) σ H fun σ2 H2 => tb ⟨Pv (i + 1), rr, nn, Pv (i + 1)⟩ σ2 H2) (hd : ∀ σ H, Pv n σ H → nn σ H) : ForW (Itr lo n) g tb ⟨nn, rr, bb, cc⟩ σ H := for_range Pv h0 hs hd
theorem r_iList {tl : TE} {R : It → Hp → Prop} (k : tl σ H fun x H1 => ∃ a, x = .ref a ∧ (∃ xs, SqL K H1 a xs) ∧ R (Itl K a) H1) : iList K tl σ H R := k
theorem r_iRng1 {ta : TA} {R : It → Hp → Prop} (k : ta σ H fun vs H1 => ∃ j : Int, vs = [.int j] ∧ -(2 ^ 62) ≤ j ∧ j < 2 ^ 62 ∧ R (Itr 0 j.toNat) H1) : iRng1 ta σ H R := k
theorem r_iRng2 {ta : TA} {R : It → Hp → Prop} (k : ta σ H fun vs H1 => ∃ i j : Int, vs = [.int i, .int j] ∧ (-(2 ^ 62) ≤ i ∧ i < 2 ^ 62 ∧ -(2 ^ 62) ≤ j ∧ j < 2 ^ 62) ∧ R (Itr i (j - i).toNat) H1) : iRng2 ta σ H R := k
/-! ### targets -/
variable {G : L2.St → Hp → Prop} {x : V}
theorem r_gTup {n : Nat} {t : TGs} {a : Addr} {xs : List V} (h : SqT K H a xs) (hl : xs.length = n) (k : t xs σ H G) : gTup K n t (.ref a) σ H G := ⟨a, xs, rfl, h, hl, k⟩
theorem r_gCons {t : TG} {u : TGs} {xs : List V} (k : t x σ H fun σ' H' => u xs σ' H' G) : gCons t u (x :: xs) σ H G := ⟨x, xs, rfl, k⟩
theorem r_gNil (k : G σ H) : gNil [] σ H G := ⟨rfl, k⟩
theorem r_gSub {to ti : TE} {t : TSet} (k : to σ H fun o H1 => ti σ H1 fun i H2 => t o i x H2 fun H3 => G σ H3) : gSub to ti t x σ H G := k
theorem r_setL {p : Addr} {xs : List V} {i : Int} {j : Nat} {G : Hp → Prop} (h : H p = some (.lst xs)) (e : ixN xs.length i = some j) (k : G (upd H p (.lst (xs.set j x)))) : rSetL (.ref p) (.int i) x H G := ⟨p, xs, i, j, rfl, rfl, h, e, k⟩
/-! ### values -/
theorem r_I0 {g : Int → Int → V} {i j : Int} (k : Q (g i j) H) : rI0 g (.int i) (.int j) H Q := ⟨i, j, rfl, rfl, k⟩
theorem r_I {C : Int → Int → Prop} {g : Int → Int → V} {i j : Int} (c : C i j) (k : Q (g i j) H) : rI C g (.int i) (.int j) H Q := ⟨i, j, rfl, rfl, c, k⟩
theorem r_U {g : Int → V} {i : Int} (k : Q (g i) H) : rU g (.int i) H Q := ⟨i, rfl, k⟩
theorem r_addI {i j : Int} (k : Q (.int (i + j)) H) : rAddA K (.int i) (.int j) H Q := .inl ⟨i, j, rfl, rfl, k⟩
theorem r_addL {l b : Addr} {xs zs : List V} (h1 : H l = some (.lst xs)) (h2 : H b = some (.lst zs)) (hl : xs.length + zs.length ≤ sizeLine) (k : ∀ p, H p = none → Q (.ref p) (upd H p (.lst (xs ++ zs)))) : rAddA K (.ref l) (.ref b) H Q := .inr (.inr (.inl ⟨l, b, xs, zs, rfl, rfl, h1, h2, hl, k⟩))
theorem r_eqI {i j : Int} (k : Q (.bl (decide (i = j))) H) : rEqA K (.int i) (.int j) H Q := .inl ⟨rfl, by
  have e : decide (V.int i = V.int j) = decide (i = j) := by by_cases h : i = j <;> simp [h]
  rw [e]
  exact k⟩
theorem r_neI {i j : Int} (k : Q (.bl (!decide (i = j))) H) : rNeA K (.int i) (.int j) H Q := .inl ⟨rfl, by
  have e : decide (V.int i = V.int j) = decide (i = j) := by by_cases h : i = j <;> simp [h]
  rw [e]
  exact k⟩
theorem r_eqB {i j : Bool} (k : Q (.bl (decide (i = j))) H) : rEqA K (.bl i) (.bl j) H Q := .inl ⟨rfl, by
  have e : decide (V.bl i = V.bl j) = decide (i = j) := by by_cases h : i = j <;> simp [h]
  rw [e]
  exact k⟩
theorem r_neB {i j : Bool} (k : Q (.bl (!decide (i = j))) H) : rNeA K (.bl i) (.bl j) H Q := .inl ⟨rfl, by
  have e : decide (V.bl i = V.bl j) = decide (i = j) := by by_cases h : i = j <;> simp [h]
  rw [e]
  exact k⟩
theorem r_ix {p : Addr} {xs : List V} {i : Int} {v : V} (h : SqL K H p xs ∨ SqT K H p xs) (e : atI xs i = some v) (k : Q v H) : rIx K (.ref p) (.int i) H Q := by
  rcases h with h | h
  · exact .inl ⟨p, xs, i, v, rfl, rfl, h, e, k⟩
  · exact .inr (.inl ⟨p, xs, i, v, rfl, rfl, h, e, k⟩)
theorem r_lenS {p : Addr} {ys : List V} (h : SqL K H p ys ∨ SqT K H p ys) (k : ys.length ≤ 16777216 → Q (.int ys.length) H) : rLen K [.ref p] H Q := .inl ⟨p, ys, rfl, h, k⟩
theorem r_max2 {i j : Int} (k : Q (.int (max i j)) H) : rMaxA K [.int i, .int j] H Q := .inl ⟨i, j, rfl, by
  have e : (if j > i then j else i) = max i j := by rw [Int.max_def]; split <;> split <;> omega
  rw [e]
  exact k⟩
theorem r_min2 {i j : Int} (k : Q (.int (min i j)) H) : rMinA K [.int i, .int j] H Q := .inl ⟨i, j, rfl, by
  have e : (if j < i then j else i) = min i j := by rw [Int.min_def]; split <;> split <;> omega
  rw [e]
  exact k⟩
theorem r_maxL {p : Addr} {ns : List Int} (h : SqL K H p (ns.map V.int)) (h0 : 0 < ns.length) (k : ∀ m, m ∈ ns → (∀ y, y ∈ ns → y ≤ m) → Q (.int m) H) : rMaxA K [.ref p] H Q := .inr ⟨p, ns, rfl, h, h0, k⟩
theorem r_minL {p : Addr} {ns : List Int} (h : SqL K H p (ns.map V.int)) (h0 : 0 < ns.length) (k : ∀ m, m ∈ ns → (∀ y, y ∈ ns → m ≤ y) → Q (.int m) H) : rMinA K [.ref p] H Q := .inr ⟨p, ns, rfl, h, h0, k⟩
theorem r_abs {i : Int} (k : Q (.int i.natAbs) H) : rAbs [.int i] H Q := ⟨i, rfl, by
  have e : (if i < 0 then -i else i) = (i.natAbs : Int) := by split <;> omega
  rw [e]
  exact k⟩
theorem r_intI {i : Int} (k : Q (.int i) H) : rInt1 [.int i] H Q := .inl ⟨i, rfl, k⟩
theorem r_intB {b : Bool} (k : Q (.int (if b then 1 else 0)) H) : rInt1 [.bl b] H Q := .inr ⟨b, rfl, k⟩
theorem r_listOf {p : Addr} {ys : List V} (h : SqL K H p ys ∨ SqT K H p ys) (k : ∀ l, H l = none → Q (.ref l) (upd H l (.lst ys))) : rListOf K [.ref p] H Q := ⟨p, ys, rfl, h, k⟩
theorem r_tupT {p : Addr} {ys : List V} (h : SqT K H p ys) (k : Q (.ref p) H) : rTupOf K [.ref p] H Q := ⟨p, ys, rfl, .inr ⟨h, k⟩⟩
theorem r_tupL {p : Addr} {ys : List V} (h : SqL K H p ys) (k : ∀ l, H l = none → Q (.ref l) (upd H l (.tup ys))) : rTupOf K [.ref p] H Q := ⟨p, ys, rfl, .inl ⟨h, k⟩⟩
theorem r_slL {p : Addr} {xs : List V} {lo hi : Option Int} (h : SqL K H p xs) (k : ∀ l, H l = none → Q (.ref l) (upd H l (.lst (cutV xs lo hi)))) : rSlAll K (.ref p) lo hi H Q := .inl ⟨p, xs, rfl, h, k⟩
theorem r_app {l : Addr} {xs : List V} {y : V} (h : H l = some (.lst xs)) (hz : xs.length < sizeLine) (k : Q .non (upd H l (.lst (xs ++ [y])))) : rAppend (.ref l) [y] H Q := ⟨l, xs, y, rfl, rfl, h, hz, k⟩
theorem r_tyL {p : Addr} {xs : List V} (h : H p = some (.lst xs)) : tyV K "list" (.ref p) H := .inl ⟨rfl, _, SqL.of h⟩
theorem r_eqD {x y : V} {d : PyData} (h1 : Dp K H x d) (h2 : Dp K H y d) (hs : SeqAt.shaped d = true) (k : Q (.bl true) H) : rEqA K x y H Q := .inr ⟨d, d, h1, h2, hs, hs, by
  rw [SeqAt.eqv_refl d (SeqAt.canLay_of_shaped hs)]
  exact k⟩
theorem r_neD {x y : V} {d : PyData} (h1 : Dp K H x d) (h2 : Dp K H y d) (hs : SeqAt.shaped d = true) (k : Q (.bl false) H) : rNeA K x y H Q := .inr ⟨d, d, h1, h2, hs, hs, by
  rw [SeqAt.eqv_refl d (SeqAt.canLay_of_shaped hs)]
  exact k⟩
end
/-! ## tests -/
theorem iteD {c A B : Prop} [Decidable c] (h1 : c → A) (h2 : ¬ c → B) : if decide c = true then A else B := by
  by_cases h : c
  · rw [if_pos (decide_eq_true h)]
    exact h1 h
  · rw [if_neg (by simpa using h)]
    exact h2 h
theorem iteN {c A B : Prop} [Decidable c] (h1 : ¬ c → A) (h2 : c → B) : if (!decide c) = true then A else B := by
  by_cases h : c
  · rw [if_neg (by simpa using h)]
    exact h2 h
  · rw [if_pos (by simpa using h)]
    exact h1 h
theorem iteDT {c A B : Prop} [Decidable c] (hc : c) (h1 : A) : if decide c = true then A else B := iteD (fun _ => h1) fun h => absurd hc h
theorem iteDF {c A B : Prop} [Decidable c] (hc : ¬ c) (h1 : B) : if decide c = true then A else B := iteD (fun h => absurd h hc) fun _ => h1
theorem iteNT {c A B : Prop} [Decidable c] (hc : ¬ c) (h1 : A) : if (!decide c) = true then A else B := iteN (fun _ => h1) fun h => absurd h hc
theorem iteNF {c A B : Prop} [Decidable c] (hc : c) (h1 : B) : if (!decide c) = true then A else B := iteN (fun h => absurd hc h) fun _ => h1
/-! ## heaps -/
section
variable {H H' H1 H2 : Hp}
theorem at_new {p g : Addr} {o u : HO} (np : H p = none) (h : H g = some o) : upd H p u g = some o := by
  rw [upd_ne (ne_of_none h np)]
  exact h
theorem at_wr {p g : Addr} {o u : HO} (hne : g ≠ p) (h : H g = some o) : upd H p u g = some o := by
  rw [upd_ne hne]
  exact h
theorem same_new {p : Addr} {u : HO} (np : H p = none) : Same H (upd H p u) := fun _ _ h => at_new np h
end
/-! ## frames: all stays but the place of the draws -/
/-- not the list that the draws turn -/
def NotSt (o : HO) : Prop := ∀ (a : Addr) (i m r : Int), o ≠ .lst [.ref a, .int i, .int m, .int r]
theorem nst_tup {xs : List V} : NotSt (.tup xs) := fun _ _ _ _ h => nomatch h
theorem nst_frz {o : Obj} {u : HO} : NotSt (.frz o u) := fun _ _ _ _ h => nomatch h
theorem nst_ins {C dx : Addr} {fs : List (Str × V)} : NotSt (.ins C dx fs) := fun _ _ _ _ h => nomatch h
theorem nst_own {x : Addr} : NotSt (.own x) := fun _ _ _ _ h => nomatch h
theorem nst_nil : NotSt (.lst []) := fun _ _ _ _ h => by cases h
theorem nst_int {i : Int} {r : List V} : NotSt (.lst (.int i :: r)) := fun _ _ _ _ h => by cases h
theorem nst_cons {a b : Addr} {r : List V} : NotSt (.lst (.ref a :: .ref b :: r)) := fun _ _ _ _ h => by cases h
theorem nst_ints {ns : List Int} : NotSt (.lst (ns.map V.int)) := fun _ _ _ _ h => by
  cases ns with
  | nil => cases h
  | cons a r => cases h
theorem nst_refs {as : List Addr} : NotSt (.lst (as.map V.ref)) := fun _ _ _ _ h => by
  match as, h with
  | [], h => cases h
  | [_], h => cases h
  | _ :: _ :: _, h => cases h
def Fr (H H' : Hp) : Prop := ∀ b o, H b = some o → NotSt o → H' b = some o
section
variable {K : PySem.W.Frag} {H H' H1 H2 : Hp}
theorem Fr.refl (H : Hp) : Fr H H := fun _ _ h _ => h
theorem Fr.trans (a : Fr H H1) (b : Fr H1 H2) : Fr H H2 := fun c o h n => b c o (a c o h n) n
theorem Fr.same (a : Fr H H1) (b : Same H1 H2) : Fr H H2 := fun c o h n => b c o (a c o h n)
theorem Fr.of (a : Same H H1) : Fr H H1 := fun c o h _ => a c o h
theorem fr_at {g : Addr} {o : HO} (R : Fr H H') (h : H g = some o) (n : NotSt o) : H' g = some o := R g o h n
theorem same_at {g : Addr} {o : HO} (R : Same H H') (h : H g = some o) : H' g = some o := R g o h
theorem same_sq {a : Addr} {xs : List V} (R : Same H H') (h : SqL K H a xs) : SqL K H' a xs := R.seq h
theorem fr_sq {a : Addr} {ns : List Int} (R : Fr H H') (h : SqL K H a (ns.map V.int)) : SqL K H' a (ns.map V.int) := by
  rcases h with (h | ⟨o, h⟩) | h
  · exact .inl (.inl (R _ _ h nst_ints))
  · exact .inl (.inr ⟨o, R _ _ h nst_frz⟩)
  · exact .inr h
theorem sq_new {p a : Addr} {u : HO} {xs : List V} (np : H p = none) (h : SqL K H a xs) : SqL K (upd H p u) a xs := (same_new np).seq h
theorem fr_new {p : Addr} {u : HO} (np : H1 p = none) (h : Fr H H1) : Fr H (upd H1 p u) := fun b o e n => at_new np (h b o e n)
theorem sm_new {p : Addr} {u : HO} (np : H1 p = none) (h : Same H H1) : Same H (upd H1 p u) := fun b o e => at_new np (h b o e)
theorem Same.free {p : Addr} (h : Same H H1) (n : H1 p = none) : H p = none := by
  cases e : H p with
  | none => rfl
  | some o => rw [h p o e] at n; cases n
theorem r_pow {Q : VK} {i j : Int} (c : 0 ≤ j ∧ j ≤ 1000000 ∧ i.natAbs < 2 ^ 64) (k : Q (.int (i ^ j.toNat)) H) : rI CPow (fun i j => .int (i ^ j.toNat)) (.int i) (.int j) H Q := ⟨i, j, rfl, rfl, c, k⟩
theorem r_dec {Q : VK} {p : Prop} [Decidable p] {a : Hp} (k : Q (.bl (decide p)) a) : Q (.bl (decide p)) a := k
end
theorem map_at {α : Type} {f : α → V} {l : List α} {i : Nat} {y : V} (h : (l.map f)[i]? = some y) : ∃ z, l[i]? = some z ∧ y = f z := by
  rw [List.getElem?_map] at h
  cases e : l[i]? with
  | none => rw [e] at h; cases h
  | some z => rw [e] at h; exact ⟨z, rfl, (Option.some.inj h).symm⟩
theorem r_start {T : L2.St → Hp → Prop} {σ σ' : L2.St} {H : Hp} (e : σ = σ') (k : T σ' H) : T σ H := e ▸ k
theorem len_ok {n : Nat} (h : Nat.ble n 1000 = true) : n ≤ sizeLine := Nat.le_of_lt (small1000 (Nat.le_of_ble_eq_true h))
theorem r_lay {xs : List V} {R : Prop} (h : xs.length ≤ sizeLine) (k : R) : xs.length ≤ sizeLine ∧ R := ⟨h, k⟩
theorem r_setA {H : Hp} {p : Addr} {xs ys : List V} {i : Int} {j : Nat} {x : V} {G : Hp → Prop} (h : H p = some (.lst xs)) (e : ixN xs.length i = some j) (hy : xs.set j x = ys) (k : ∀ H', H' p = some (.lst ys) → (∀ b o, b ≠ p → H b = some o → H' b = some o) → G H') : rSetL (.ref p) (.int i) x H G :=
  r_setL h e (by rw [hy]; exact k _ upd_same fun b o n q => at_wr n q)
theorem r_appA {H : Hp} {Q : VK} {l : Addr} {xs : List V} {y : V} (h : H l = some (.lst xs)) (hz : xs.length < sizeLine) (k : ∀ H', H' l = some (.lst (xs ++ [y])) → (∀ b o, b ≠ l → H b = some o → H' b = some o) → Q .non H') : rAppend (.ref l) [y] H Q :=
  r_app h hz (k _ upd_same fun b o n q => at_wr n q)
theorem pickI {v : Int} (ns : List Int) (h0 : 0 ≤ v) (h1 : v < ns.length) : ∃ w, atI (ns.map V.int) v = some (.int w) ∧ w ∈ ns := by
  have h : v.toNat < ns.length := by omega
  exact ⟨ns[v.toNat], at_of (j := v.toNat) (by omega) (by rw [List.getElem?_map, List.getElem?_eq_getElem h]; rfl), List.getElem_mem h⟩
theorem pickN {v : Int} {n : Nat} (ns : List Int) (h0 : 0 ≤ v) (h1 : v < n) (h2 : n ≤ ns.length) : ∃ w, atI (ns.map V.int) v = some (.int w) ∧ w ∈ ns.take n := by
  have h : v.toNat < ns.length := by omega
  refine ⟨ns[v.toNat], at_of (j := v.toNat) (by omega) (by rw [List.getElem?_map, List.getElem?_eq_getElem h]; rfl), ?_⟩
  have h3 : v.toNat < (ns.take n).length := by rw [List.length_take]; omega
  have e : (ns.take n)[v.toNat] = ns[v.toNat] := List.getElem_take
  rw [← e]
  exact List.getElem_mem h3
theorem pick2 {v : Int} (a b : Int) (h0 : 0 ≤ v) (h1 : v < 2) : ∃ w, atI [V.int a, V.int b] v = some (.int w) ∧ (v = 0 ∧ w = a ∨ v = 1 ∧ w = b) := by
  have : v = 0 ∨ v = 1 := by omega
  rcases this with rfl | rfl
  · exact ⟨a, rfl, .inl ⟨rfl, rfl⟩⟩
  · exact ⟨b, rfl, .inr ⟨rfl, rfl⟩⟩
theorem pick3 {v : Int} (a b c : Int) (h0 : 0 ≤ v) (h1 : v < 3) : ∃ w, atI [V.int a, V.int b, V.int c] v = some (.int w) ∧ (v = 0 ∧ w = a ∨ v = 1 ∧ w = b ∨ v = 2 ∧ w = c) := by
  have : v = 0 ∨ v = 1 ∨ v = 2 := by omega
  rcases this with rfl | rfl | rfl
  · exact ⟨a, rfl, .inl ⟨rfl, rfl⟩⟩
  · exact ⟨b, rfl, .inr (.inl ⟨rfl, rfl⟩)⟩
  · exact ⟨c, rfl, .inr (.inr ⟨rfl, rfl⟩)⟩
theorem pick4 {v : Int} (a b c d : Int) (h0 : 0 ≤ v) (h1 : v < 4) : ∃ w, atI [V.int a, V.int b, V.int c, V.int d] v = some (.int w) ∧ (v = 0 ∧ w = a ∨ v = 1 ∧ w = b ∨ v = 2 ∧ w = c ∨ v = 3 ∧ w = d) := by
  have : v = 0 ∨ v = 1 ∨ v = 2 ∨ v = 3 := by omega
  rcases this with rfl | rfl | rfl | rfl
  · exact ⟨a, rfl, .inl ⟨rfl, rfl⟩⟩
  · exact ⟨b, rfl, .inr (.inl ⟨rfl, rfl⟩)⟩
  · exact ⟨c, rfl, .inr (.inr (.inl ⟨rfl, rfl⟩))⟩
  · exact ⟨d, rfl, .inr (.inr (.inr ⟨rfl, rfl⟩))⟩
theorem at_neg1 {xs : List V} {n : Nat} {v : V} (hl : xs.length = n + 1) (h : xs[n]? = some v) : atI xs (-1) = some v := by
  have e : ixN xs.length (-1) = some n := by
    unfold ixN
    rw [hl, if_neg (by decide), if_pos (by omega)]
    have : (-1 + ((n + 1 : Nat) : Int)).toNat = n := by omega
    rw [this]
  unfold atI
  rw [e]
  exact h
/-! ## comprehensions -/
def LcW (J : It) (g : TG) (tt : TT) (te : TE) (vs : List Nat) (σ : L2.St) (Q : VK) (D : Addr) (H1 : Hp) : Prop := ∃ W : Nat → Nat → Hp → Prop, (∃ m, W 0 m (upd H1 D (.lst []))) ∧ ∀ i m H, W i m H →
  (J.stop i H ∧ Q (.ref D) H) ∨ (J.go i H ∧ ∃ Nx : Hp → Prop, (∀ H', Nx H' → ∃ m', m' < m ∧ W (i + 1) m' H') ∧ ∀ x H', J.yld i H x H' → g x (wipe σ vs) H' fun σ2 H2 => wipe σ2 vs = wipe σ vs ∧ tt σ2 H2 fun b H3 =>
    if b = true then te σ2 H3 fun y H4 => ∃ acc, H4 D = some (.lst acc) ∧ acc.length < sizeLine ∧ Nx (upd H4 D (.lst (acc ++ [y]))) else Nx H3)
theorem r_lc {wi : TI} {g : TG} {tt : TT} {te : TE} {vs : List Nat} {σ : L2.St} {H : Hp} {Q : VK} (k : wi σ H fun J H1 => ∀ D, H1 D = none → LcW J g tt te vs σ Q D H1) : tLc wi g tt te vs σ H Q := k
theorem r_tYes {σ : L2.St} {H : Hp} {Q : Bool → Hp → Prop} (k : Q true H) : tYes σ H Q := k
section
variable {g : TG} {tt : TT} {te : TE} {vs : List Nat} {σ σw : L2.St} {Q : VK} {D : Addr} {H1 : Hp}
theorem lcw_range {lo : Int} {n : Nat} (Pv : Nat → Hp → Prop) (hw : wipe σ vs = σw) (h0 : Pv 0 (upd H1 D (.lst [])))
    (hs : ∀ i H, i < n → Pv i H → g (.int (lo + i)) σw H fun σ2 H2 => wipe σ2 vs = σw ∧ tt σ2 H2 fun b H3 =>
      if b = true then te σ2 H3 fun y H4 => ∃ acc, H4 D = some (.lst acc) ∧ acc.length < sizeLine ∧ Pv (i + 1) (upd H4 D (.lst (acc ++ [y]))) else Pv (i + 1) H3) (hd : ∀ H, Pv n H → Q (.ref D) H) : LcW (Itr lo n) g tt te vs σ Q D H1 := by
  subst hw
  exact lc_range Pv h0 hs hd
theorem lcw_list {K : PySem.W.Frag} {a : Addr} {xs : List V} (Pv : Nat → Hp → Prop) (hw : wipe σ vs = σw) (h0 : Pv 0 (upd H1 D (.lst []))) (hl : ∀ i H, i ≤ xs.length → Pv i H → SqL K H a xs)
    (hs : ∀ i x H, xs[i]? = some x → Pv i H → g x σw H fun σ2 H2 => wipe σ2 vs = σw ∧ tt σ2 H2 fun b H3 =>
      if b = true then te σ2 H3 fun y H4 => ∃ acc, H4 D = some (.lst acc) ∧ acc.length < sizeLine ∧ Pv (i + 1) (upd H4 D (.lst (acc ++ [y]))) else Pv (i + 1) H3) (hd : ∀ H, Pv xs.length H → Q (.ref D) H) : LcW (Itl K a) g tt te vs σ Q D H1 := by
  subst hw
  exact lc_list Pv h0 hl hs hd
end
/-- what the tail of a comprehension's turn asks, the heap behind it a letter -/
theorem lc_put {D : Addr} {acc : List V} {y : V} {H4 : Hp} {Nx : Hp → Prop} (h : H4 D = some (.lst acc)) (hz : acc.length < sizeLine) (k : ∀ H5, H5 D = some (.lst (acc ++ [y])) → (∀ b o, b ≠ D → H4 b = some o → H5 b = some o) → Nx H5) :
    ∃ acc, H4 D = some (.lst acc) ∧ acc.length < sizeLine ∧ Nx (upd H4 D (.lst (acc ++ [y]))) := ⟨acc, h, hz, k _ upd_same fun b o n q => at_wr n q⟩
/-! ## data in the heap -/
mutual
inductive Is (H : Hp) : V → PyData → Prop
  | non : Is H .non .none
  | bl (b : Bool) : Is H (.bl b) (.bool b)
  | int (i : Int) : Is H (.int i) (.int i)
  | str (x : Str) : Is H (.str x) (.str x)
  | lst {a : Addr} {xs : List V} {ds : List PyData} : H a = some (.lst xs) → IsAll H xs ds → Is H (.ref a) (.list ds)
  | tup {a : Addr} {xs : List V} {ds : List PyData} : H a = some (.tup xs) → IsAll H xs ds → Is H (.ref a) (.tuple ds)
inductive IsAll (H : Hp) : List V → List PyData → Prop
  | nil : IsAll H [] []
  | cons {v : V} {vs : List V} {d : PyData} {ds : List PyData} : Is H v d → IsAll H vs ds → IsAll H (v :: vs) (d :: ds)
end
mutual
theorem Is.dp {K : PySem.W.Frag} {H : Hp} : ∀ (d : PyData) (v : V), Is H v d → Dp K H v d
  | .none, _, h => by cases h; exact .non
  | .bool b, _, h => by cases h; exact .bl b
  | .int i, _, h => by cases h; exact .int i
  | .str x, _, h => by cases h; exact .str x
  | .list ds, _, h => by
    cases h with
    | lst a b => exact .lst (SqL.of a) (IsAll.dp ds _ b)
  | .tuple ds, _, h => by
    cases h with
    | tup a b => exact .tup (SqT.of a) (IsAll.dp ds _ b)
  | .dict _, _, h => by cases h
theorem IsAll.dp {K : PySem.W.Frag} {H : Hp} : ∀ (ds : List PyData) (vs : List V), IsAll H vs ds → DpAll K H vs ds
  | [], _, h => by cases h; exact .nil
  | d :: ds, _, h => by
    cases h with
    | cons a b => exact .cons (Is.dp d _ a) (IsAll.dp ds _ b)
end
mutual
theorem Is.mono {H H' : Hp} (R : Same H H') : ∀ (d : PyData) (v : V), Is H v d → Is H' v d
  | .none, _, h => by cases h; exact .non
  | .bool b, _, h => by cases h; exact .bl b
  | .int i, _, h => by cases h; exact .int i
  | .str x, _, h => by cases h; exact .str x
  | .list ds, _, h => by
    cases h with
    | lst a b => exact .lst (R _ _ a) (IsAll.mono R ds _ b)
  | .tuple ds, _, h => by
    cases h with
    | tup a b => exact .tup (R _ _ a) (IsAll.mono R ds _ b)
  | .dict _, _, h => by cases h
theorem IsAll.mono {H H' : Hp} (R : Same H H') : ∀ (ds : List PyData) (vs : List V), IsAll H vs ds → IsAll H' vs ds
  | [], _, h => by cases h; exact .nil
  | d :: ds, _, h => by
    cases h with
    | cons a b => exact .cons (Is.mono R d _ a) (IsAll.mono R ds _ b)
end
theorem IsAll.len {H : Hp} : ∀ {ds : List PyData} {vs : List V}, IsAll H vs ds → vs.length = ds.length
  | [], _, h => by cases h; rfl
  | d :: ds, _, h => by
    cases h with
    | cons a b =>
      show _ + 1 = _ + 1
      rw [IsAll.len b]
theorem IsAll.get {H : Hp} : ∀ {ds : List PyData} {vs : List V} {i : Nat}, IsAll H vs ds → i < ds.length → ∃ v d, vs[i]? = some v ∧ ds[i]? = some d ∧ Is H v d
  | [], _, _, _, h2 => by simp at h2
  | d :: ds, _, 0, h, _ => by
    cases h with
    | cons a b => exact ⟨_, d, rfl, rfl, a⟩
  | d :: ds, _, i + 1, h, h2 => by
    cases h with
    | cons a b =>
      obtain ⟨v, e, h1, h3, h4⟩ := IsAll.get (i := i) b (by simpa using h2)
      exact ⟨v, e, by simpa using h1, by simpa using h3, h4⟩
theorem IsAll.snoc {H : Hp} {v : V} {d : PyData} (h2 : Is H v d) : ∀ {ds : List PyData} {vs : List V}, IsAll H vs ds → IsAll H (vs ++ [v]) (ds ++ [d])
  | [], _, h => by cases h; exact .cons h2 .nil
  | e :: ds, _, h => by
    cases h with
    | cons a b => exact .cons a (IsAll.snoc h2 b)
theorem IsAll.ints {H : Hp} : ∀ ns : List Int, IsAll H (ns.map V.int) (ns.map PyData.int)
  | [] => .nil
  | n :: r => .cons (.int n) (IsAll.ints r)
/-- a pair of ints as data -/
def dPair (x : Int × Int) : PyData := .tuple [.int x.1, .int x.2]
theorem Is.pair {H : Hp} {a : Addr} {x : Int × Int} (h : H a = some (.tup [.int x.1, .int x.2])) : Is H (.ref a) (dPair x) := .tup h (.cons (.int _) (.cons (.int _) .nil))
def dInts (ns : List Int) : PyData := .list (ns.map PyData.int)
theorem Is.ints {H : Hp} {a : Addr} {ns : List Int} (h : H a = some (.lst (ns.map V.int))) : Is H (.ref a) (dInts ns) := .lst h (.ints ns)
/-- flat enough, and without dicts -/
def Fl (n : Nat) (d : PyData) : Prop := d.canLay0 = true ∧ d.depth ≤ n
theorem Fl.shaped {n : Nat} {d : PyData} (h : Fl n d) (hn : n ≤ 64) : SeqAt.shaped d = true := by
  unfold SeqAt.shaped
  rw [h.1]
  exact decide_eq_true (Nat.le_trans h.2 hn)
theorem fl_all {n : Nat} : ∀ {ds : List PyData}, (∀ d ∈ ds, Fl n d) → PyData.canLayAll0 ds = true ∧ PyData.depthAll ds ≤ n
  | [], _ => ⟨rfl, Nat.zero_le _⟩
  | d :: ds, h => by
    obtain ⟨a, b⟩ := fl_all (ds := ds) fun e he => h e (List.mem_cons_of_mem _ he)
    obtain ⟨c, e⟩ := h d List.mem_cons_self
    refine ⟨?_, ?_⟩
    · rw [PyData.canLayAll0, c, a]
      rfl
    · rw [PyData.depthAll]
      omega
theorem Fl.list {n : Nat} {ds : List PyData} (h : ∀ d ∈ ds, Fl n d) : Fl (n + 1) (.list ds) := by
  obtain ⟨a, b⟩ := fl_all h
  exact ⟨by rw [PyData.canLay0]; exact a, by rw [PyData.depth]; omega⟩
theorem Fl.tuple {n : Nat} {ds : List PyData} (h : ∀ d ∈ ds, Fl n d) : Fl (n + 1) (.tuple ds) := by
  obtain ⟨a, b⟩ := fl_all h
  exact ⟨by rw [PyData.canLay0]; exact a, by rw [PyData.depth]; omega⟩
theorem Fl.int (n : Nat) (i : Int) : Fl n (.int i) := ⟨by rw [PyData.canLay0], by rw [PyData.depth]; omega⟩
theorem Fl.bl (n : Nat) (i : Bool) : Fl n (.bool i) := ⟨by rw [PyData.canLay0], by rw [PyData.depth]; omega⟩
theorem Fl.non (n : Nat) : Fl n .none := ⟨by rw [PyData.canLay0], by rw [PyData.depth]; omega⟩
theorem Fl.pair (n : Nat) (x : Int × Int) : Fl (n + 1) (dPair x) := Fl.tuple fun d h => by
  simp at h
  rcases h with rfl | rfl <;> exact Fl.int _ _
theorem Fl.ints (n : Nat) (ns : List Int) : Fl (n + 1) (dInts ns) := Fl.list fun d h => by
  obtain ⟨i, _, rfl⟩ := List.mem_map.mp h
  exact Fl.int _ _
theorem Fl.pairs (n : Nat) (xs : List (Int × Int)) : Fl (n + 2) (.list (xs.map dPair)) := Fl.list fun d h => by
  obtain ⟨i, _, rfl⟩ := List.mem_map.mp h
  exact Fl.pair _ _
theorem Fl.mono {n m : Nat} {d : PyData} (h : Fl n d) (k : n ≤ m) : Fl m d := ⟨h.1, Nat.le_trans h.2 k⟩
theorem r_eqIs {K : PySem.W.Frag} {H : Hp} {Q : VK} {x y : V} {d : PyData} {n : Nat} (h1 : Is H x d) (h2 : Is H y d) (f : Fl n d) (k : Q (.bl true) H) (hn : n ≤ 64 := by decide) : rEqA K x y H Q := r_eqD (Is.dp d x h1) (Is.dp d y h2) (f.shaped hn) k
theorem r_neIs {K : PySem.W.Frag} {H : Hp} {Q : VK} {x y : V} {d : PyData} {n : Nat} (h1 : Is H x d) (h2 : Is H y d) (f : Fl n d) (k : Q (.bl false) H) (hn : n ≤ 64 := by decide) : rNeA K x y H Q := r_neD (Is.dp d x h1) (Is.dp d y h2) (f.shaped hn) k
/-! ## isinstance -/
def rIsiA (K : PySem.W.Frag) : List V → Hp → VK → Prop := fun xs H Q => rIsi K xs H Q ∨ rIsiT K xs H Q
/-- the class of a datum -/
def tyD : PyData → String
  | .none => "NoneType"
  | .bool _ => "bool"
  | .int _ => "int"
  | .str _ => "str"
  | .list _ => "list"
  | .tuple _ => "tuple"
  | .dict _ => "dict"
theorem Is.ty {K : PySem.W.Frag} {H : Hp} {v : V} {d : PyData} (h : Is H v d) : TyX K H v (.type (tyD d)) := by
  cases h with
  | non => exact .base .non
  | bl b => exact .base (.bl b)
  | int i => exact .base (.int i)
  | str x => exact .base (.str x)
  | lst a b => exact .base (.lst a)
  | tup a b => exact .base (.tup a)
theorem r_isi {K : PySem.W.Frag} {H : Hp} {Q : VK} {v : V} {T c : String} {b : Bool} (ty : TyX K H v (.type T)) (e : kitB T c = some b) (k : Q (.bl b) H) : rIsiA K [v, .ty c] H Q := .inl ⟨v, .ty c, .type T, .type c, b, rfl, .ty c, ty, kit_ty e, k⟩
theorem r_isi2 {K : PySem.W.Frag} {H : Hp} {Q : VK} {v : V} {t : Addr} {T c1 c2 : String} {b1 b2 : Bool} (ht : H t = some (.tup [.ty c1, .ty c2])) (ty : TyX K H v (.type T)) (e1 : kitB T c1 = some b1) (e2 : kitB T c2 = some b2) (k : Q (.bl (b1 || b2)) H) : rIsiA K [v, .ref t] H Q := by
  refine .inr ⟨v, t, [.ty c1, .ty c2], .type T, [.type c1, .type c2], b1 || b2, rfl, ht, .cons (.ty c1) (.cons (.ty c2) .nil), ty, ?_, k⟩
  refine kitAny_cons (kit_ty e1) (r := b1 || b2) (fun h => ?_) fun h => by rw [h]; rfl
  subst h
  refine kitAny_cons (kit_ty e2) (r := false || b2) (fun h => ?_) fun h => by rw [h]; rfl
  subst h
  exact kitAny_nil
theorem kcc_isi {X : Cx} {K : PySem.W.Frag} (h : X.K = K) : CallR X (.builtin "isinstance") (rIsiA K) := by subst h; exact CallR.or call_isi call_isiT
/-- where drawing stands -/
structure St (H : Hp) (st a : Addr) : Prop where
  ex : ∃ i m r : Int, H st = some (.lst [.ref a, .int i, .int m, .int r]) ∧ 0 ≤ i ∧ 0 ≤ m ∧ m < 2147483647 ∧ 0 ≤ r
theorem fr_st {H : Hp} {st : Addr} {a : Addr} {i m r : Int} {o : HO} (h : H st = some (.lst [.ref a, .int i, .int m, .int r])) : Fr H (upd H st o) := fun b u e n => by
  rw [upd_ne (fun q => by subst q; rw [h] at e; cases e; exact n _ _ _ _ rfl)]
  exact e
theorem St.same {H H' : Hp} {st a : Addr} (s : St H st a) (R : Same H H') : St H' st a := by
  obtain ⟨i, m, r, h, q⟩ := s.ex
  exact ⟨i, m, r, R _ _ h, q⟩
theorem St.new {H : Hp} {st a p : Addr} {u : HO} (s : St H st a) (np : H p = none) : St (upd H p u) st a := s.same (same_new np)
theorem St.ne {H : Hp} {st a p : Addr} {o : HO} (s : St H st a) (h : H p = some o) (n : NotSt o) : st ≠ p := by
  obtain ⟨i, m, r, e, q⟩ := s.ex
  exact ne_of e h fun z => n _ _ _ _ z.symm
theorem St.wr {H : Hp} {st a p : Addr} {o u : HO} (s : St H st a) (h : H p = some o) (n : NotSt o) : St (upd H p u) st a := by
  have ne := s.ne h n
  obtain ⟨i, m, r, e, q⟩ := s.ex
  exact ⟨i, m, r, by rw [upd_ne ne]; exact e, q⟩
theorem kpi_enum {X : Cx} {K : PySem.W.Frag} {e : Expr} {ta : TA} {p pos tpos : Pos} {elts : List Expr} {kk : Nat} (hK : X.K = K) (hg : Gl X "enumerate") (hm : X.mg "enumerate" = none) (ha : PA X [e] ta) (hs : starEach [e] X.env = [(false, eval e X.env)] := by rfl) :
    PI X (.Tuple elts kk tpos) (.Call (.Name "enumerate" p) [e] [] pos) (iEnum K ta) := by subst hK; exact pi_enum hg hm ha hs
theorem r_iEnum {K : PySem.W.Frag} {σ : L2.St} {H : Hp} {ta : TA} {R : It → Hp → Prop} (k : ta σ H fun vs H1 => ∃ a xs, vs = [.ref a] ∧ SqL K H1 a xs ∧ R (Ite K a) H1) : iEnum K ta σ H R := k
theorem fw_enum {K : PySem.W.Frag} {σ : L2.St} {H : Hp} {nn bb cc : L2.St → Hp → Prop} {rr : VK} {a : Addr} {xs : List V} {g : TG} {tb : TS} (Pv : Nat → L2.St → Hp → Prop) (h0 : Pv 0 σ H) (hl : ∀ i σ H, i ≤ xs.length → Pv i σ H → SqL K H a xs)
    (hs : ∀ i x σ H T, xs[i]? = some x → Pv i σ H → H T = none → g (.ref T) σ (upd H T (.tup [.int (i : Nat), x])) fun σ2 H2 => tb ⟨Pv (i + 1), rr, nn, Pv (i + 1)⟩ σ2 H2) (hd : ∀ σ H, Pv xs.length σ H → nn σ H) : ForW (Ite K a) g tb ⟨nn, rr, bb, cc⟩ σ H := by
  refine for_it (walk_enum (xs := xs)) Pv h0 hl (fun i x σ H H' hi p y => ?_) hd
  obtain ⟨T, u, v, rfl, nT, rfl, e1, e2⟩ := y
  cases e1
  exact hs i v σ H T e2 p nT
/-- == of two pairs of ints -/
theorem eqv_pair (x y : Int × Int) : PyData.eqv (dPair x) (dPair y) = decide (x = y) := by
  unfold dPair
  simp only [PyData.eqv, PyData.eqvAll, Bool.and_true]
  by_cases h : x = y
  · subst h
    simp
  · have : ¬ (x.1 = y.1 ∧ x.2 = y.2) := fun z => h (Prod.ext z.1 z.2)
    rw [decide_eq_false h]
    simp only [Bool.and_eq_false_iff, beq_eq_false_iff_ne]
    by_cases h1 : x.1 = y.1
    · exact .inr fun h2 => this ⟨h1, h2⟩
    · exact .inl h1
theorem r_eqPair {K : PySem.W.Frag} {H : Hp} {Q : VK} {a b : Addr} {x y : Int × Int} (h1 : H a = some (.tup [.int x.1, .int x.2])) (h2 : H b = some (.tup [.int y.1, .int y.2])) (k : Q (.bl (decide (x = y))) H) : rEqA K (.ref a) (.ref b) H Q :=
  .inr ⟨dPair x, dPair y, Is.dp _ _ (Is.pair h1), Is.dp _ _ (Is.pair h2), (Fl.pair 0 x).shaped (by decide), (Fl.pair 0 y).shaped (by decide), by rw [eqv_pair]; exact k⟩
theorem r_nePair {K : PySem.W.Frag} {H : Hp} {Q : VK} {a b : Addr} {x y : Int × Int} (h1 : H a = some (.tup [.int x.1, .int x.2])) (h2 : H b = some (.tup [.int y.1, .int y.2])) (k : Q (.bl (!decide (x = y))) H) : rNeA K (.ref a) (.ref b) H Q :=
  .inr ⟨dPair x, dPair y, Is.dp _ _ (Is.pair h1), Is.dp _ _ (Is.pair h2), (Fl.pair 0 x).shaped (by decide), (Fl.pair 0 y).shaped (by decide), by rw [eqv_pair]; exact k⟩
theorem r_sum {K : PySem.W.Frag} {H : Hp} {Q : VK} {a : Addr} {ns : List Int} (h : SqL K H a (ns.map V.int)) (k : Q (.int ns.sum) H) : rSum K [.ref a] H Q := ⟨a, ns, rfl, h, k⟩
theorem r_neSelf {K : PySem.W.Frag} {H : Hp} {Q : VK} {v : V} (h : v = .non ∨ ∃ i, v = .int i) (k : Q (.bl false) H) : rNeA K v v H Q := by
  rcases h with rfl | ⟨i, rfl⟩
  · exact .inl ⟨rfl, by rw [decide_eq_true rfl]; exact k⟩
  · exact r_neI (by rw [decide_eq_true rfl]; exact k)
theorem r_neNil {K : PySem.W.Frag} {H : Hp} {Q : VK} {a b : Addr} {ns : List Int} (h : H a = some (.lst (ns.map V.int))) (h2 : H b = some (.lst [])) (k : Q (.bl (!decide (ns = []))) H) : rNeA K (.ref a) (.ref b) H Q := by
  refine .inr ⟨dInts ns, .list [], Is.dp _ _ (Is.ints h), Is.dp _ _ (.lst h2 .nil), (Fl.ints 0 ns).shaped (by decide), (Fl.list (n := 0) (ds := []) (by simp)).shaped (by decide), ?_⟩
  have e : PyData.eqv (dInts ns) (.list []) = decide (ns = []) := by
    cases ns with
    | nil => simp [dInts, PyData.eqv, PyData.eqvAll]
    | cons n r => simp [dInts, PyData.eqv, PyData.eqvAll]
  rw [e]
  exact k
theorem cut_take {α : Type} (f : α → V) (ms : List α) {v : Int} (h0 : 0 ≤ v) : cutV (ms.map f) none (some v) = (ms.take v.toNat).map f := by
  obtain ⟨n, rfl⟩ : ∃ n : Nat, v = (n : Int) := ⟨v.toNat, by omega⟩
  unfold cutV
  rw [HT.sIx_nat, HT.sIx_none, List.drop_zero, Nat.sub_zero, Int.toNat_natCast, List.map_take]
  by_cases h : n ≤ (ms.map f).length
  · rw [Nat.min_eq_left h]
  · rw [Nat.min_eq_right (by omega), List.take_of_length_le (Nat.le_refl _), List.take_of_length_le (by omega)]
theorem cut_drop {α : Type} (f : α → V) (ms : List α) {v : Int} (h0 : 0 ≤ v) : cutV (ms.map f) (some v) none = (ms.drop v.toNat).map f := by
  obtain ⟨n, rfl⟩ : ∃ n : Nat, v = (n : Int) := ⟨v.toNat, by omega⟩
  unfold cutV
  rw [HT.sIx_nat, HT.sIx_none, Int.toNat_natCast, List.map_drop]
  by_cases h : n ≤ (ms.map f).length
  · rw [Nat.min_eq_left h, List.take_of_length_le (by rw [List.length_drop]; omega)]
  · rw [Nat.min_eq_right (by omega), Nat.sub_self, List.take_zero, List.drop_of_length_le (by omega)]
end Rd

/-! ## macros -/
local macro_rules | `(tactic| walk_at "nst") => `(tactic| first
  | exact Rd.nst_tup | exact Rd.nst_ints | exact Rd.nst_refs | exact Rd.nst_nil | exact Rd.nst_int | exact Rd.nst_cons | exact Rd.nst_frz | exact Rd.nst_ins | exact Rd.nst_own | assumption
  | (intro a i m r h; simp at h; done) | (intro a i m r h; cases h; done))
local macro_rules | `(tactic| walk_at "hp") => `(tactic| first
  | with_reducible assumption
  | with_reducible exact L2.upd_same
  | ((with_reducible refine' Rd.at_new ?hnp ?hup); (case hnp => with_reducible assumption); (case hup => walk_at "hp"))
  | ((with_reducible refine' Rd.same_at ?hsm ?hup); (case hsm => with_reducible assumption); (case hup => walk_at "hp"))
  | ((with_reducible refine' Rd.fr_at ?hsm ?hup ?hns); (case hsm => with_reducible assumption); (case hup => walk_at "hp"); (case hns => walk_at "nst"))
  | ((with_reducible refine' Rd.at_wr ?hne ?hup); (case hup => walk_at "hp"); (case hne => first | with_reducible assumption | (with_reducible refine' Ne.symm ?hne2; with_reducible assumption))))
local macro_rules | `(tactic| walk_at "sq") => `(tactic| first
  | with_reducible assumption
  | ((with_reducible refine' Rd.same_sq ?hsm ?hup); (case hsm => with_reducible assumption); (case hup => walk_at "sq"))
  | ((with_reducible refine' Rd.fr_sq ?hsm ?hup); (case hsm => with_reducible assumption); (case hup => walk_at "sq"))
  | ((with_reducible refine' Rd.sq_new ?hnp ?hup); (case hnp => with_reducible assumption); (case hup => walk_at "sq"))
  | ((with_reducible refine' L2.SqL.of ?hup); (case hup => walk_at "hp"))
  | ((with_reducible refine' L2.SqT.of ?hup); (case hup => walk_at "hp"))
  | ((with_reducible refine' Or.inl ?hup); (case hup => walk_at "sq"))
  | ((with_reducible refine' Or.inr ?hup); (case hup => walk_at "sq")))
local macro_rules | `(tactic| walk_at "ss") => `(tactic| first
  | with_reducible assumption
  | ((with_reducible refine' Rd.St.new ?hup ?hnp); (case hnp => with_reducible assumption); (case hup => walk_at "ss"))
  | ((with_reducible refine' Rd.St.same ?hup ?hsm); (case hsm => with_reducible assumption); (case hup => walk_at "ss")))
local macro_rules | `(tactic| walk_at "fr") => `(tactic| first
  | with_reducible assumption
  | with_reducible exact Rd.Fr.refl _
  | with_reducible exact L2.Same.refl _
  | ((with_reducible refine' Rd.fr_new ?hnp ?hup); (case hnp => first | with_reducible assumption | walk_at "no"); (case hup => walk_at "fr"))
  | ((with_reducible refine' Rd.sm_new ?hnp ?hup); (case hnp => first | with_reducible assumption | walk_at "no"); (case hup => walk_at "fr"))
  | ((with_reducible refine' Rd.Fr.trans ?hup ?hsm); (case hsm => with_reducible assumption); (case hup => walk_at "fr"))
  | ((with_reducible refine' Rd.Fr.same ?hup ?hsm); (case hsm => with_reducible assumption); (case hup => walk_at "fr"))
  | ((with_reducible refine' L2.Same.trans ?hup ?hsm); (case hsm => with_reducible assumption); (case hup => walk_at "fr")))
/-- one step -/
local macro_rules | `(tactic| walk_at "go1") => `(tactic| first
  | with_reducible refine Rd.r_v0 ?_ | with_reducible refine Rd.r_v1 ?_ | with_reducible refine Rd.r_v2 ?_ | with_reducible refine Rd.r_v3 ?_ | with_reducible refine Rd.r_v4 ?_ | with_reducible refine Rd.r_v5 ?_
  | with_reducible refine Rd.r_c ?_ | with_reducible refine Rd.r_op ?_ | with_reducible refine Rd.r_cons ?_ | with_reducible refine Rd.r_nil ?_
  | with_reducible refine Rd.r_I0 ?_ | with_reducible refine Rd.r_addI ?_ | with_reducible refine Rd.r_eqI ?_ | with_reducible refine Rd.r_neI ?_ | with_reducible refine Rd.r_eqB ?_ | with_reducible refine Rd.r_neB ?_
  | with_reducible refine Rd.r_seq ?_ | with_reducible refine Rd.r_asg ?_
  | with_reducible refine Rd.r_g0 ?_ | with_reducible refine Rd.r_g1 ?_ | with_reducible refine Rd.r_g2 ?_ | with_reducible refine Rd.r_g3 ?_ | with_reducible refine Rd.r_g4 ?_ | with_reducible refine Rd.r_g5 ?_
  | with_reducible refine Rd.r_ret ?_ | with_reducible refine Rd.r_retN ?_ | with_reducible refine Rd.r_ifS ?_ | with_reducible refine Rd.r_next ?_ | with_reducible refine Rd.r_drop ?_ | with_reducible refine Rd.r_break ?_ | with_reducible refine Rd.r_cont ?_
  | with_reducible refine Rd.r_test ?_ | with_reducible refine Rd.r_B ?_ | with_reducible refine Rd.r_bl ?_ | with_reducible refine Rd.r_and ?_ | with_reducible refine Rd.r_or ?_ | with_reducible refine Rd.r_not ?_
  | with_reducible refine Rd.r_andV ?_ | with_reducible refine Rd.r_orV ?_ | with_reducible refine Rd.r_notV ?_ | with_reducible refine Rd.r_if ?_ | with_reducible refine Rd.r_chain ?_ | with_reducible refine Rd.r_un ?_ | with_reducible refine Rd.r_U ?_
  | with_reducible refine Rd.r_cB ?_ | with_reducible refine Rd.r_call ?_ | with_reducible refine Rd.r_tup ?_ | with_reducible refine Rd.r_lst ?_
  | with_reducible refine Rd.r_sl ?_ | with_reducible refine Rd.r_noP ?_ | with_reducible refine Rd.r_part ?_ | with_reducible refine Rd.r_partI ?_ | with_reducible refine Rd.r_bm ?_ | with_reducible refine Rd.r_bm0 ?_
  | with_reducible refine Rd.r_for ?_ | with_reducible refine Rd.r_iList ?_ | with_reducible refine Rd.r_iRng1 ?_ | with_reducible refine Rd.r_iRng2 ?_ | with_reducible refine Rd.r_iEnum ?_
  | with_reducible refine Rd.r_lc ?_ | with_reducible refine Rd.r_tYes ?_
  | with_reducible refine Rd.r_max2 ?_ | with_reducible refine Rd.r_min2 ?_ | with_reducible refine Rd.r_abs ?_ | with_reducible refine Rd.r_intI ?_ | with_reducible refine Rd.r_intB ?_
  | with_reducible refine Rd.r_gCons ?_ | with_reducible refine Rd.r_gNil ?_ | with_reducible refine Rd.r_gSub ?_
  | ((with_reducible refine' Rd.r_ix ?hsq ?hat ?hk); (case hsq => walk_at "sq"); (case hat => first | rfl | assumption))
  | ((with_reducible refine' Rd.r_gTup ?hsq ?hat ?hk); (case hsq => walk_at "sq"); (case hat => rfl))
  | ((with_reducible refine' Rd.r_lenS ?hsq ?hk); (case hsq => walk_at "sq"); (intro hlenS))
  | ((with_reducible refine' Rd.r_lay ?hlen ?hk); (case hlen => exact Rd.len_ok rfl))
  | ((with_reducible refine' Rd.r_pow ?hpo ?hk); (case hpo => decide))
  | with_reducible refine Rd.r_v6 ?_ | with_reducible refine Rd.r_v7 ?_ | with_reducible refine Rd.r_v8 ?_ | with_reducible refine Rd.r_v9 ?_ | with_reducible refine Rd.r_v10 ?_ | with_reducible refine Rd.r_v11 ?_ | with_reducible refine Rd.r_v12 ?_ | with_reducible refine Rd.r_v13 ?_ | with_reducible refine Rd.r_v14 ?_ | with_reducible refine Rd.r_v15 ?_ | with_reducible refine Rd.r_v16 ?_ | with_reducible refine Rd.r_v17 ?_ | with_reducible refine Rd.r_v18 ?_ | with_reducible refine Rd.r_v19 ?_ | with_reducible refine Rd.r_v20 ?_ | with_reducible refine Rd.r_v21 ?_
  | with_reducible refine Rd.r_g6 ?_ | with_reducible refine Rd.r_g7 ?_ | with_reducible refine Rd.r_g8 ?_ | with_reducible refine Rd.r_g9 ?_ | with_reducible refine Rd.r_g10 ?_ | with_reducible refine Rd.r_g11 ?_ | with_reducible refine Rd.r_g12 ?_ | with_reducible refine Rd.r_g13 ?_ | with_reducible refine Rd.r_g14 ?_ | with_reducible refine Rd.r_g15 ?_ | with_reducible refine Rd.r_g16 ?_ | with_reducible refine Rd.r_g17 ?_ | with_reducible refine Rd.r_g18 ?_ | with_reducible refine Rd.r_g19 ?_ | with_reducible refine Rd.r_g20 ?_ | with_reducible refine Rd.r_g21 ?_)
local macro_rules | `(tactic| walk_at "go") => `(tactic| repeat walk_at "go1")

namespace Rd
open PySem L2
def top (i : Nat) : Stmt := PySem.Challenge.pw_stepgear_k07_whole_no_fewer_by_single_st.main.body.getD i (.Pass ⟨0, 0, 0, 0⟩)
abbrev s_need_gear : Stmt := top 9
theorem sc_need_gear : FnScope ["gear", "around", "play"] ["gear"] (defScope s_need_gear) := ⟨rfl, rfl, rfl, by decide +kernel, rfl, by decide +kernel, by decide +kernel⟩
theorem bo_need_gear : BindOk "need_gear" s_need_gear ["gear"] := fun _ _ _ _ _ _ us hl => match us, hl with | [_], _ => rfl
abbrev s_need_standing : Stmt := top 10
theorem sc_need_standing : FnScope ["gear", "standing", "motor", "shaft"] ["gear", "standing"] (defScope s_need_standing) := ⟨rfl, rfl, rfl, by decide +kernel, rfl, by decide +kernel, by decide +kernel⟩
theorem bo_need_standing : BindOk "need_standing" s_need_standing ["gear", "standing"] := fun _ _ _ _ _ _ us hl => match us, hl with | [_, _], _ => rfl
abbrev s_need_moves : Stmt := top 11
theorem sc_need_moves : FnScope ["moves"] ["moves"] (defScope s_need_moves) := ⟨rfl, rfl, rfl, by decide +kernel, rfl, by decide +kernel, by decide +kernel⟩
theorem bo_need_moves : BindOk "need_moves" s_need_moves ["moves"] := fun _ _ _ _ _ _ us hl => match us, hl with | [_], _ => rfl
abbrev s_behind : Stmt := top 12
theorem sc_behind : FnScope ["gear", "standing", "steps", "motor"] ["gear", "standing", "steps"] (defScope s_behind) := ⟨rfl, rfl, rfl, by decide +kernel, rfl, by decide +kernel, by decide +kernel⟩
theorem bo_behind : BindOk "behind" s_behind ["gear", "standing", "steps"] := fun _ _ _ _ _ _ us hl => match us, hl with | [_, _, _], _ => rfl
abbrev s_all_behind : Stmt := top 13
theorem sc_all_behind : FnScope ["gear", "standing", "moves", "found", "steps"] ["gear", "standing", "moves"] (defScope s_all_behind) := ⟨rfl, rfl, rfl, by decide +kernel, rfl, by decide +kernel, by decide +kernel⟩
theorem bo_all_behind : BindOk "all_behind" s_all_behind ["gear", "standing", "moves"] := fun _ _ _ _ _ _ us hl => match us, hl with | [_, _, _], _ => rfl
abbrev s_stands : Stmt := top 14
theorem sc_stands : FnScope ["gear", "standing", "moves"] ["gear", "standing", "moves"] (defScope s_stands) := ⟨rfl, rfl, rfl, by decide +kernel, rfl, by decide +kernel, by decide +kernel⟩
theorem bo_stands : BindOk "stands" s_stands ["gear", "standing", "moves"] := fun _ _ _ _ _ _ us hl => match us, hl with | [_, _, _], _ => rfl
abbrev s_need_goals : Stmt := top 18
theorem sc_need_goals : FnScope ["gear", "standing", "goals", "most", "goal"] ["gear", "standing", "goals", "most"] (defScope s_need_goals) := ⟨rfl, rfl, rfl, by decide +kernel, rfl, by decide +kernel, by decide +kernel⟩
theorem bo_need_goals : BindOk "need_goals" s_need_goals ["gear", "standing", "goals", "most"] := fun _ _ _ _ _ _ us hl => match us, hl with | [_, _, _, _], _ => rfl
abbrev s_choices : Stmt := top 19
theorem sc_choices : FnScope ["gear", "standing", "goal", "around", "play", "motor", "shaft", "far"] ["gear", "standing", "goal"] (defScope s_choices) := ⟨rfl, rfl, rfl, by decide +kernel, rfl, by decide +kernel, by decide +kernel⟩
theorem bo_choices : BindOk "choices" s_choices ["gear", "standing", "goal"] := fun _ _ _ _ _ _ us hl => match us, hl with | [_, _, _], _ => rfl
abbrev s_best_path : Stmt := top 20
theorem sc_best_path : FnScope ["gear", "standing", "goals", "found", "steps", "size", "rest", "least", "row"] ["gear", "standing", "goals"] (defScope s_best_path) := ⟨rfl, rfl, rfl, by decide +kernel, rfl, by decide +kernel, by decide +kernel⟩
theorem bo_best_path : BindOk "best_path" s_best_path ["gear", "standing", "goals"] := fun _ _ _ _ _ _ us hl => match us, hl with | [_, _, _], _ => rfl
abbrev s_path : Stmt := top 21
theorem sc_path : FnScope ["gear", "standing", "goals"] ["gear", "standing", "goals"] (defScope s_path) := ⟨rfl, rfl, rfl, by decide +kernel, rfl, by decide +kernel, by decide +kernel⟩
theorem bo_path : BindOk "path" s_path ["gear", "standing", "goals"] := fun _ _ _ _ _ _ us hl => match us, hl with | [_, _, _], _ => rfl
abbrev s_all_orders : Stmt := top 22
theorem sc_all_orders : FnScope ["places", "found", "k", "rest"] ["places"] (defScope s_all_orders) := ⟨rfl, rfl, rfl, by decide +kernel, rfl, by decide +kernel, by decide +kernel⟩
theorem bo_all_orders : BindOk "all_orders" s_all_orders ["places"] := fun _ _ _ _ _ _ us hl => match us, hl with | [_], _ => rfl
abbrev s_tour : Stmt := top 23
theorem sc_tour : FnScope ["gear", "standing", "goals", "found", "order", "k"] ["gear", "standing", "goals"] (defScope s_tour) := ⟨rfl, rfl, rfl, by decide +kernel, rfl, by decide +kernel, by decide +kernel⟩
theorem bo_tour : BindOk "tour" s_tour ["gear", "standing", "goals"] := fun _ _ _ _ _ _ us hl => match us, hl with | [_, _, _], _ => rfl
abbrev s_law_start : Stmt := top 25
theorem sc_law_start : FnScope ["_law_script", "_law_mixed", "_law_cell"] ["_law_script"] (defScope s_law_start) := ⟨rfl, rfl, rfl, by decide +kernel, rfl, by decide +kernel, by decide +kernel⟩
theorem bo_law_start : BindOk "_law_start" s_law_start ["_law_script"] := fun _ _ _ _ _ _ us hl => match us, hl with | [_], _ => rfl
abbrev s_law_drawn : Stmt := top 26
theorem sc_law_drawn : FnScope ["_law_state", "_law_many", "_law_found", "_law_cell"] ["_law_state", "_law_many"] (defScope s_law_drawn) := ⟨rfl, rfl, rfl, by decide +kernel, rfl, by decide +kernel, by decide +kernel⟩
theorem bo_law_drawn : BindOk "_law_drawn" s_law_drawn ["_law_state", "_law_many"] := fun _ _ _ _ _ _ us hl => match us, hl with | [_, _], _ => rfl
abbrev s_law_gear : Stmt := top 27
theorem sc_law_gear : FnScope ["_law_state", "_law_small", "_law_sorts", "_law_around", "_law_play"] ["_law_state", "_law_small"] (defScope s_law_gear) := ⟨rfl, rfl, rfl, by decide +kernel, rfl, by decide +kernel, by decide +kernel⟩
theorem bo_law_gear : BindOk "_law_gear" s_law_gear ["_law_state", "_law_small"] := fun _ _ _ _ _ _ us hl => match us, hl with | [_, _], _ => rfl
abbrev s_law_standing : Stmt := top 28
theorem sc_law_standing : FnScope ["_law_state", "_law_gear_here", "_law_far", "_law_motor"] ["_law_state", "_law_gear_here"] (defScope s_law_standing) := ⟨rfl, rfl, rfl, by decide +kernel, rfl, by decide +kernel, by decide +kernel⟩
theorem bo_law_standing : BindOk "_law_standing" s_law_standing ["_law_state", "_law_gear_here"] := fun _ _ _ _ _ _ us hl => match us, hl with | [_, _], _ => rfl
abbrev s_law_moves : Stmt := top 29
theorem sc_law_moves : FnScope ["_law_state", "_law_gear_here", "_law_most", "_law_found", "_law_k", "_law_size"] ["_law_state", "_law_gear_here", "_law_most"] (defScope s_law_moves) := ⟨rfl, rfl, rfl, by decide +kernel, rfl, by decide +kernel, by decide +kernel⟩
theorem bo_law_moves : BindOk "_law_moves" s_law_moves ["_law_state", "_law_gear_here", "_law_most"] := fun _ _ _ _ _ _ us hl => match us, hl with | [_, _, _], _ => rfl
abbrev s_law_behind : Stmt := top 30
theorem sc_law_behind : FnScope ["_law_gear_here", "_law_standing_here", "_law_steps", "_law_motor", "_law_shaft", "_law_free"] ["_law_gear_here", "_law_standing_here", "_law_steps"] (defScope s_law_behind) := ⟨rfl, rfl, rfl, by decide +kernel, rfl, by decide +kernel, by decide +kernel⟩
theorem bo_law_behind : BindOk "_law_behind" s_law_behind ["_law_gear_here", "_law_standing_here", "_law_steps"] := fun _ _ _ _ _ _ us hl => match us, hl with | [_, _, _], _ => rfl
abbrev s_law_fewest : Stmt := top 31
theorem sc_law_fewest : FnScope ["_law_gear_here", "_law_standing_here", "_law_goals", "_law_level", "_law_met", "_law_many", "_law_here", "_law_motor", "_law_shaft", "_law_at", "_law_later", "_law_step", "_law_other"] ["_law_gear_here", "_law_standing_here", "_law_goals"] (defScope s_law_fewest) := ⟨rfl, rfl, rfl, by decide +kernel, rfl, by decide +kernel, by decide +kernel⟩
theorem bo_law_fewest : BindOk "_law_fewest" s_law_fewest ["_law_gear_here", "_law_standing_here", "_law_goals"] := fun _ _ _ _ _ _ us hl => match us, hl with | [_, _, _], _ => rfl
abbrev s_law : Stmt := top 32
theorem sc_law : FnScope ["_law_script", "_law_state", "_law_turn", "_law_gear_here", "_law_standing_here", "_law_goals", "_law_steps", "_law_fewest_here", "_law_k", "_law_total", "_law_order", "_law_step"] ["_law_script"] (defScope s_law) := ⟨rfl, rfl, rfl, by decide +kernel, rfl, by decide +kernel, by decide +kernel⟩
theorem bo_law : BindOk "law" s_law ["_law_script"] := fun _ _ _ _ _ _ us hl => match us, hl with | [_], _ => rfl
end Rd

/-! ## min(xs, key=lambda x: (abs(x), 0 - x)), xs a list of ints -/
namespace Rd
open PySem PySem.Spec L2 PyProof.Rows LamX
/-- the order of the keys (abs(x), 0 - x), as one number -/
def cod (n : Int) : Int := 2 * (n.natAbs : Int) + (if n < 0 then 1 else 0)
theorem cod_lt (n m : Int) : cod n < cod m ↔ (n.natAbs : Int) < m.natAbs ∨ ((n.natAbs : Int) = m.natAbs ∧ 0 - n < 0 - m) := by
  unfold cod
  split <;> split <;> omega
theorem cod_inj {n m : Int} (h : cod n = cod m) : n = m := by
  unfold cod at h
  split at h <;> split at h <;> omega
/-- an address that no frame, no cell and no pin of the context is -/
structure Loose (X : Cx) (pins : List (Addr × Obj)) (b : Addr) : Prop where
  hi : X.s_0.heap.objs.size ≤ b
  nl : b ≠ X.env.locals
  nc : ∀ x c, X.env.cells.lookup x = some c → c ≠ b
  np : ∀ p ∈ X.pn ++ pins, p.1 ≠ b
  nf : b ∉ X.fs
  ns : b ∉ frs X.stack
section
variable {X : Cx} {pins : List (Addr × Obj)} {σ : L2.St} {H : Hp} {s : Shared}
theorem Loose.of (I : Inv X pins σ H s) {b : Addr} (h : s.heap.objs.size ≤ b) : Loose X pins b where
  hi := Nat.le_trans I.sz h
  nl := Nat.ne_of_gt (Nat.lt_of_lt_of_le I.lt h)
  nc := fun x c e z => by
    obtain ⟨v, o, ho, _⟩ := I.cell x c e
    have h1 := Heap.lt_size ho
    rw [z] at h1
    exact Nat.lt_irrefl _ (Nat.lt_of_lt_of_le h1 h)
  np := fun p hp z => by
    have h1 := Heap.lt_size (I.pin p hp).1
    rw [z] at h1
    exact Nat.lt_irrefl _ (Nat.lt_of_lt_of_le h1 h)
  nf := I.nofs h
  ns := fun z => by
    rcases List.mem_cons.mp (I.stkSub _ z) with e | e
    · have h1 := I.lt
      rw [← e] at h1
      exact Nat.lt_irrefl _ (Nat.lt_of_lt_of_le h1 h)
    · exact I.nofs h e
theorem Inv.moved {wr : List Addr} {s' : Shared} (I : Inv X pins σ H s) (hw : ∀ b ∈ wr, Loose X pins b ∧ H b = none) (m : Moved wr (fun a b => b = a) s s') : Inv X pins σ H s' := by
  have nw : ∀ b, (∃ u, H b = some u) → b ∉ wr := fun b ⟨u, e⟩ z => by
    rw [(hw b z).2] at e
    cases e
  have J : Inv X pins σ H { s with heap := s'.heap, gens := s'.gens, drawn := s'.drawn, toks := s'.toks } := by
    refine I.step (ch := wr) (fun b hb => ⟨.inr (hw b hb).1.hi, (hw b hb).1.nl, (hw b hb).1.nc, (hw b hb).1.np⟩) (fun b o _ _ nb e _ => m.heap b o nb e) (fun b o _ _ nb e _ => ⟨o.slots, m.heap b o nb e⟩) (fun b o _ _ e => e)
      (fun b o nb e => ⟨o, m.heap b o nb e⟩) (fun _ _ e => e) (fun _ _ _ e => e) (fun b ps e => ⟨#[], by rw [Array.append_empty]; exact e⟩) (fun mm hn => ?_) (fun b u e => ?_) (by rw [m.gens]; exact I.bare)
    · obtain ⟨ob, es, ep, ho, r⟩ := hn
      exact ⟨ob, es, ep, m.heap _ ob (fun z => (hw _ z).1.nl rfl) ho, r⟩
    · refine (I.hok b u e).stay (fun d v hd q => m.heap d v ?_ q) (fun d q => q) fun d xs q => q
      rcases hd with z | z
      · rw [z]
        exact nw b ⟨u, e⟩
      · exact nw d ⟨_, z⟩
  have e : s' = { s with heap := s'.heap, gens := s'.gens, drawn := s'.drawn, toks := s'.toks } := by
    have := m.os
    cases s'
    cases s
    cases this
    rfl
  rw [e]
  exact J
/-- behind a call, the state itself -/
theorem Inv.behind {s' : Shared} {Q : VK} {u : Value} (I : Inv X pins σ H s) (h : CE X.stack X.prog X.w H s Q u s') : ∃ v H', Inv X pins σ H' s' ∧ Un (frs X.stack) [] H H' s.heap s'.heap ∧ RelV v u ∧ Q v H' := by
  obtain ⟨v, H', os, bare, un, hok, r, q⟩ := h
  obtain ⟨hh, g, d, t, os'⟩ := s'
  obtain rfl : os' = s.os := os
  exact ⟨v, H', I.call (h' := hh) (g' := g) (d' := d) (t' := t) (ch := []) un hok bare (fun b z => absurd z (by simp)), un, r, q⟩
/-- a lambda of one parameter is called -/
theorem lam1_run {P : Program} {w : World} {K : PySem.W.Frag} {mg : Str → Option Value} {base : Heap} {A : Around} {outer : List Env} {H : Hp} {s : Shared} {q a : Str} {f c' : Addr} {pm ctv : Value} {params : Arguments} {body : Expr} {scope : Scope} {k : Nat} {tb : TE} {v : V} {u : Value} {Q : VK}
    (e0 : Env0 P w K mg base A outer s H) (hr : Room (k + 1) A) (S : FnScope [a] [a] scope) (hf : s.heap.get? f = some (PySem.W.kla_obj "<lambda>" q params body scope [] pm c' ctv)) (hc : H c' = some (CodeO c' q))
    (hbind : ∀ u, bindArgs (PySem.W.kla_fn "<lambda>" q params body scope [] pm (.ref c') ctv) ⟨[u], []⟩ = pure [(a, u)])
    (hbody : PE (cxOf L2.CX0 P w K mg base [a] q scope f (.ref c') A outer s H L2.E0) body tb)
    (r : RelV v u) (h : tb [some v] H Q) :
    codeAny (model P w) A (.call (.ref f) ⟨[u], []⟩) (CR L2.CX0 outer P w H s Q L2.E0) s := by
  have lim : s.heap.NoLimit := e0.mod.nolimit.keeps fun b o e => (e0.bs b o e).1
  obtain ⟨⟨oc, vs, t, hoc, hdc, hvc⟩, _, _⟩ := e0.hok c' _ hc
  refine PySem.W.kla_callFunE hr.depth hf rfl S.co S.gen rfl ⟨c', oc, vs, t, rfl, hoc, hdc, hvc⟩ ?_
  rw [hbind]
  refine wpAny_pure ?_
  have hkind : ∀ y ∈ [(a, u)], scope.names.lookup y.1 = some .local ∨ (scope.names.lookup y.1 = some .cell ∧ ((cellsFrom (s.heap.objs.size + 1) scope.names []).lookup y.1).isSome = true) := fun y hy => by
    rw [List.mem_singleton.mp hy]
    rcases S.par a (List.mem_singleton.mpr rfl) with z | z
    · exact .inl z
    · exact .inr ⟨z, PySem.W.cellsFrom_some _ _ _ (.inl z)⟩
  refine wpAny_newFunctionEnv_cells S.kind hkind fun env he s1 x => ?_
  subst he
  refine ⟨lim.keeps x.toInCall.keep, ?_⟩
  have I : Inv (cxOf L2.CX0 P w K mg base [a] q scope f (.ref c') A outer s H L2.E0) [] (L2.start [a] [v]) H s1 := inv_start (us := [u]) S hr.hd e0 rfl (.cons r .nil) x
  refine PySem.W.kla_codeExpr (wpAny_mono (hbody.run [] _ _ H Q I h) (fun v s' hq => ?_) fun e s' hq => hq)
  obtain ⟨w', H', J', rv, q⟩ := hq
  exact ⟨w', H', J'.os, J'.bare, J'.base, J'.hok, rv, q⟩
/-- a list of ints is walked; the list's object may be another at each step -/
theorem walkI {prog : Program} {w : World} {A : Around} (hh : A.handled = none) (I ax : Addr) (hne : ax ≠ I) (ns : List Int) :
    WalksS prog w A I [I, ax] [I] (fun a b => b = a) ns.length (fun i v => ∃ t, v = .int (ns.getD i 0) t) (fun i s => s.heap.IsListIter I ax i ∧ ∃ its : List Value, IntsAre its ns ∧ s.heap.IsList ax its.toArray) where
  sub := fun b hb => by simp at hb; simp [hb]
  grefl := fun _ => rfl
  gtrans := fun _ _ _ h1 h2 => h2.trans h1
  frame := fun i s h' tk st _ hk => ⟨st.1.at fun o e => hk I (by simp) o e, let ⟨its, r, e⟩ := st.2; ⟨its, r, e.at fun o e => hk ax (by simp) o e⟩⟩
  item := fun i s Q E hi st hQ => by
    obtain ⟨its, r, e⟩ := st.2
    have W := (Walks.list (prog := prog) (w := w) hh I ax hne its.toArray).toS
    have hl : its.toArray.size = ns.length := by rw [List.size_toArray]; exact r.length
    refine W.item i s Q E (by omega) ⟨st.1, e⟩ fun v s' hP hst m => ?_
    obtain ⟨t, ht⟩ := r.get i (ns.getD i 0) (by rw [List.getD_eq_getElem?_getD, List.getElem?_eq_getElem hi] <;> rfl)
    refine hQ v s' ⟨t, ?_⟩ ⟨hst.1, its, r, hst.2⟩ m
    have hP' : its[i]? = some v := by simpa using hP
    rw [ht] at hP'
    exact (Option.some.inj hP').symm
  done := fun s Q E st hQ => by
    obtain ⟨its, r, e⟩ := st.2
    have W := (Walks.list (prog := prog) (w := w) hh I ax hne its.toArray).toS
    have hl : its.toArray.size = ns.length := by rw [List.size_toArray]; exact r.length
    refine W.done s Q E ⟨?_, e⟩ hQ
    rw [hl]
    exact st.1
  self := fun i s Q E st hQ => wpAny_pyIter_listiter st.1 hQ
/-- the object of the key of n -/
def KeyOb (o : Obj) (n : Int) : Prop := ∃ t1 t2 c, o.cls = .type "tuple" ∧ o.data = .seq #[.int n.natAbs t1, .int (0 - n) t2] c
theorem keys_lt {A : Around} {s : Shared} {t u : Addr} {ot ou : Obj} {n m : Int} (hu : A.units < cLine) (h1 : s.heap.get? t = some ot) (k1 : KeyOb ot n) (h2 : s.heap.get? u = some ou) (k2 : KeyOb ou m) :
    Ob.RcOp .Lt A s (.ref t) (.ref u) (decide (cod n < cod m)) := by
  obtain ⟨t1, t2, c, hc, hd⟩ := k1
  obtain ⟨u1, u2, c', hc', hd'⟩ := k2
  have beq : ∀ a b : Int, (a == b) = decide (a = b) := fun a b => by
    by_cases q : a = b
    · rw [decide_eq_true q]; exact beq_iff_eq.mpr q
    · rw [decide_eq_false q]; exact beq_eq_false_iff_ne.mpr q
  have R := Ob.RcOp.tuples_lt (A := A) (s := s) (l := t) (b := u) (items := #[.int n.natAbs t1, .int (0 - n) t2]) (items2 := #[.int m.natAbs u1, .int (0 - m) u2])
    (e := fun j => if j = 0 then decide ((n.natAbs : Int) = m.natAbs) else decide (0 - n = 0 - m)) (r := fun j => if j = 0 then decide ((n.natAbs : Int) < m.natAbs) else decide (0 - n < 0 - m)) ⟨ot, h1, hc, c, hd⟩ ⟨ou, h2, hc', c', hd'⟩ hu
    (fun j a b => by
      have hj : j < 2 := a
      match j, hj with
      | 0, _ => rw [if_pos rfl, ← beq]; exact SeqAt.EqAt.int_int _ _ _ _
      | 1, _ => rw [if_neg (by decide), ← beq]; exact SeqAt.EqAt.int_int _ _ _ _)
    (fun j a b _ => by
      have hj : j < 2 := a
      match j, hj with
      | 0, _ => rw [if_pos rfl]; exact Ob.RcOp.lt_int _ _ _ _
      | 1, _ => rw [if_neg (by decide)]; exact Ob.RcOp.lt_int _ _ _ _)
  have e : Ob.lexAt (fun j => if j = 0 then decide ((n.natAbs : Int) = m.natAbs) else decide (0 - n = 0 - m)) (fun j => if j = 0 then decide ((n.natAbs : Int) < m.natAbs) else decide (0 - n < 0 - m)) (decide (2 < 2)) 0 2 = decide (cod n < cod m) := by
    have i := cod_lt n m
    rw [Ob.lexAt_succ, Ob.lexAt_succ, Ob.lexAt_zero]
    simp only [if_true, Nat.zero_add, Nat.succ_ne_zero, if_false, decide_eq_true_eq, Nat.one_ne_zero]
    by_cases a : (n.natAbs : Int) = m.natAbs
    · rw [if_pos a]
      by_cases b : 0 - n = 0 - m
      · rw [if_pos b]
        refine (decide_eq_decide.mpr ?_)
        rw [i]
        omega
      · rw [if_neg b]
        refine (decide_eq_decide.mpr ?_)
        rw [i]
        omega
    · rw [if_neg a]
      refine (decide_eq_decide.mpr ?_)
      rw [i]
      omega
  rw [← e]
  exact R
/-- what the loop of min keeps: the tracked heap has only grown -/
def MkJ (X : Cx) (pins : List (Addr × Obj)) (σ : L2.St) (H : Hp) (l f c' I S : Addr) (q : Str) (fo : Obj) (s : Shared) : Prop := ∃ H', Inv X pins σ H' s ∧ Same H H' ∧ H' I = none ∧ H' S = none ∧ H' f = none ∧ s.heap.get? f = some fo ∧ ∀ b o, H b = none → H' b = some o → ∃ xs, o = .tup xs
/-- f tells the key of the i-th -/
def MkV (X : Cx) (H : Hp) (ns : List Int) (I S : Addr) (i : Nat) (k : Value) (s : Shared) : Prop := ∃ t o, k = .ref t ∧ (H t = none ∧ t ∉ frs X.stack) ∧ t ≠ I ∧ t ≠ S ∧ s.heap.get? t = some o ∧ KeyOb o (ns.getD i 0)
theorem min_key {K : PySem.W.Frag} {k : Nat} {q a : Str} {l f c' : Addr} {pm ctv : Value} {params : Arguments} {body : Expr} {scope : Scope} {ns : List Int} {tb : TE} {Q : VK} (hK : X.K = K) (hcalm : X.calm = true)
    (I : Inv X pins σ H s) (hr : Room (k + 2) X.A) (hl : SqL K H l (ns.map V.int)) (hne : 0 < ns.length) (S : FnScope [a] [a] scope) (hf : s.heap.get? f = some (PySem.W.kla_obj "<lambda>" q params body scope [] pm c' ctv)) (hfn : H f = none) (hfr : f ∉ frs X.stack) (hc : H c' = some (CodeO c' q))
    (hbind : ∀ u, bindArgs (PySem.W.kla_fn "<lambda>" q params body scope [] pm (.ref c') ctv) ⟨[u], []⟩ = pure [(a, u)])
    (hbody : ∀ (A : Around) (outer : List Env) (s : Shared) (H : Hp), PE (cxOf L2.CX0 X.prog X.w X.K X.mg X.base [a] q scope f (.ref c') A outer s H L2.E0) body tb)
    (htb : ∀ (n : Int) (H : Hp) (Q : VK), (∀ t, H t = none → Q (.ref t) (upd H t (.tup [.int n.natAbs, .int (0 - n)]))) → tb [some (.int n)] H Q)
    (h : ∀ m H', m ∈ ns → (∀ y ∈ ns, cod m ≤ cod y) → Same H H' → Q (.int m) H') :
    wpAny (model X.prog X.w) X.A (call (.builtin "min") [.ref l] [(Str.ofString "key", .ref f)]) (EP X pins σ Q) X.xe s := by
  subst hK
  obtain ⟨its, r0, pl, _⟩ := I.list hl
  have hlL : l < s.heap.objs.size := by
    obtain ⟨o, e, _⟩ := pl.isList
    exact Heap.lt_size e
  have hlt : f < s.heap.objs.size := Heap.lt_size hf
  refine call_min_walkK (wpAny_pyIter_list pl.isList ?_)
  have I2 : Inv X pins σ H { s with heap := s.heap.push { cls := .type "list_iterator", data := .fields #[.ref l, .int 0 0] } } := I.kept (t' := s.toks) fun b o e => Heap.get?_push_of_some _ e
  have hsz : (s.heap.push { cls := .type "list_iterator", data := .fields #[.ref l, .int 0 0] }).objs.size = s.heap.objs.size + 1 := Heap.size_push _ _
  have lI : Loose X pins s.heap.objs.size := Loose.of I (Nat.le_refl _)
  have lS : Loose X pins (s.heap.push { cls := .type "list_iterator", data := .fields #[.ref l, .int 0 0] }).objs.size := Loose.of I2 (Nat.le_refl _)
  have nI : H s.heap.objs.size = none := I.hok.fresh (Nat.le_refl _)
  have nS : H (s.heap.push { cls := .type "list_iterator", data := .fields #[.ref l, .int 0 0] }).objs.size = none := I2.hok.fresh (Nat.le_refl _)
  have hIt : (s.heap.push { cls := .type "list_iterator", data := .fields #[.ref l, .int 0 0] }).get? s.heap.objs.size = some { cls := .type "list_iterator", data := .fields #[.ref l, .int 0 0] } := Heap.get?_push_size _ rfl
  have hf2 : (s.heap.push { cls := .type "list_iterator", data := .fields #[.ref l, .int 0 0] }).get? f = some (PySem.W.kla_obj "<lambda>" q params body scope [] pm c' ctv) := Heap.get?_push_of_some _ hf
  have hpl2 : (s.heap.push { cls := .type "list_iterator", data := .fields #[.ref l, .int 0 0] }).IsList l its.toArray := pl.isList.at fun o e => Heap.get?_push_of_some _ e
  generalize hSe : (s.heap.push { cls := .type "list_iterator", data := .fields #[.ref l, .int 0 0] }).objs.size = Sa at lS nS hsz
  have fI : f ≠ s.heap.objs.size := Nat.ne_of_lt hlt
  have fS : f ≠ Sa := by rw [hsz]; exact Nat.ne_of_lt (Nat.lt_succ_of_lt hlt)
  have SI : Sa ≠ s.heap.objs.size := by rw [hsz]; exact Nat.succ_ne_self _
  have lIne : l ≠ s.heap.objs.size := Nat.ne_of_lt hlL
  refine ⟨s.heap.objs.size, [s.heap.objs.size, l], [s.heap.objs.size], fun a b => b = a, ns.length, _, _, MkJ X pins σ H l f c' s.heap.objs.size Sa q (PySem.W.kla_obj "<lambda>" q params body scope [] pm c' ctv), MkV X H ns s.heap.objs.size Sa, fun i j => decide (cod (ns.getD i 0) < cod (ns.getD j 0)), rfl,
    walkI (A := X.A.in1) (I.ok.hd hcalm) s.heap.objs.size l lIne ns, ⟨⟨_, hIt, rfl, rfl⟩, its, Vals.ints r0, hpl2⟩, fun b hb => ?_, hne, ?_, ⟨H, I2, Same.refl _, nI, nS, hfn, hf2, fun b o e1 e2 => by rw [e1] at e2; cases e2⟩, fun v s' hP hJ => ?_⟩
  · show b < Sa
    rw [hsz]
    rcases List.mem_cons.mp hb with e | hb
    · rw [e]
      exact Nat.lt_succ_self _
    · rw [List.mem_singleton.mp hb]
      exact Nat.lt_succ_of_lt hlL
  · refine ⟨fun s1 s2 hJ m => ?_, fun i kx s1 s2 hV m => ?_, fun i v s1 o Q1 E1 hi hP hJ hst hS hQ => ?_, fun i j ki kj s1 Q1 E1 hJ hi hj hQ => ?_⟩
    · obtain ⟨H', I', sm, n1, n2, n3, e, tp⟩ := hJ
      refine ⟨H', Inv.moved I' (fun b hb => ?_) m, sm, n1, n2, n3, m.heap f _ (fun z => ?_) e, tp⟩
      · rcases List.mem_cons.mp hb with e | hb
        · rw [e]
          exact ⟨lS, n2⟩
        · rw [List.mem_singleton.mp hb]
          exact ⟨lI, n1⟩
      · rcases List.mem_cons.mp z with z | z
        · exact fS z
        · exact fI (List.mem_singleton.mp z)
    · obtain ⟨t, o, e, n0, n1, n2, ht, ko⟩ := hV
      refine ⟨t, o, e, n0, n1, n2, m.heap t o (fun z => ?_) ht, ko⟩
      rcases List.mem_cons.mp z with z | z
      · exact n2 z
      · exact n1 (List.mem_singleton.mp z)
    · obtain ⟨H', I', sm, n1, n2, n3, e, tp⟩ := hJ
      obtain ⟨tt, ev⟩ := hP
      have ev : v = .int (ns.getD i 0) tt := ev
      subst ev
      have hx := lam1_run (tb := tb) (v := .int (ns.getD i 0)) (u := .int (ns.getD i 0) tt) (Q := fun v H'' => ∃ t, v = .ref t ∧ H' t = none ∧ H'' t = some (.tup [.int (ns.getD i 0).natAbs, .int (0 - ns.getD i 0)]) ∧ Same H' H'' ∧ ∀ b o, H' b = none → H'' b = some o → ∃ xs, o = .tup xs)
        I'.env0.in1 (show Room (k + 1) X.A.in1 from hr.in1) S e (sm _ _ hc) hbind (hbody _ _ _ _) ⟨tt, rfl⟩ (htb _ _ _ fun t nt => ⟨t, rfl, nt, upd_same, same_new nt, fun b o e1 e2 => by
          by_cases z : b = t
          · rw [z, upd_same] at e2
            exact ⟨_, (Option.some.inj e2).symm⟩
          · rw [upd_ne z, e1] at e2
            cases e2⟩)
      refine wpAny_call (codeAny_mono hx fun r s2 hq => ?_)
      cases r with
      | error e => exact (show False from hq).elim
      | ok fl =>
        cases fl with
        | next => exact False.elim hq
        | brk => exact False.elim hq
        | cont => exact False.elim hq
        | ret u =>
          obtain ⟨v2, H2, I2', un, rv, t, rfl, nt, ht, sm2, tp2⟩ := Inv.behind I' hq
          obtain rfl : u = Value.ref t := rv
          obtain ⟨ob, hot, hct, ⟨c2, hdt⟩⟩ : ∃ ob, s2.heap.get? t = some ob ∧ ob.cls = .type "tuple" ∧ ∃ c, ∃ t1 t2, ob.data = .seq #[.int (ns.getD i 0).natAbs t1, .int (0 - ns.getD i 0) t2] c := by
            obtain ⟨its2, rv2, ⟨ob, h1, h2, c, h3⟩, _⟩ := I2'.tuple (xs := [.int (ns.getD i 0).natAbs, .int (0 - ns.getD i 0)]) (SqT.of ht)
            cases rv2 with
            | cons ra rr =>
              cases rr with
              | cons rb rr =>
                cases rr
                obtain ⟨t1, rfl⟩ := ra
                obtain ⟨t2, rfl⟩ := rb
                exact ⟨ob, h1, h2, c, t1, t2, h3⟩
          obtain ⟨t1, t2, hdt⟩ := hdt
          have keepI : ∀ {b ob}, s1.heap.get? b = some ob → H' b = none → b ∉ frs X.stack → s2.heap.get? b = some ob := fun e1 e2 e3 => un.keep _ _ e1 e2 e3 (by simp)
          obtain ⟨⟨oI, eI, cI, dI⟩, _⟩ := hst
          obtain ⟨its2, rv2, pl2, _⟩ := I2'.list ((sm.trans sm2).seq hl)
          have nI2 : H2 s.heap.objs.size = none := un.free _ _ eI n1 (by simp)
          have nS2 : H2 Sa = none := un.free _ _ hS n2 (by simp)
          refine hQ _ _ ⟨H2, I2', sm.trans sm2, nI2, nS2, un.free _ _ e n3 (by simp), keepI e n3 hfr, fun b o e1 e2 => ?_⟩ ⟨⟨oI, keepI eI n1 lI.ns, cI, dI⟩, its2, Vals.ints rv2, pl2.isList⟩ (keepI hS n2 lS.ns) ⟨t, ob, rfl, ⟨Same.free sm nt, fun z => ?_⟩, fun z => ?_, fun z => ?_, hot, t1, t2, c2, hct, hdt⟩ fun j kj hV => ?_
          · cases q : H' b with
            | none => exact tp2 b o q e2
            | some o' =>
              have e3 := sm2 _ _ q
              rw [e2] at e3
              cases e3
              exact tp b o e1 q
          · have e3 := I2'.stkFree t z
            rw [e3] at ht
            cases ht
          · rw [z, nI2] at ht
            cases ht
          · rw [z, nS2] at ht
            cases ht
          · obtain ⟨tj, oj, ej, ⟨m0, m00⟩, m1, m2, htj, kj⟩ := hV
            cases q : H' tj with
            | none => exact ⟨tj, oj, ej, ⟨m0, m00⟩, m1, m2, keepI htj q m00, kj⟩
            | some o' =>
              obtain ⟨xs, rfl⟩ := tp tj o' m0 q
              obtain ⟨its1, ra1, ⟨ob1, g1, g2, g3, g4⟩, _⟩ := I'.tuple (SqT.of q)
              rw [htj] at g1
              cases g1
              obtain ⟨u1, u2, c3, k1, k2⟩ := kj
              rw [k2] at g4
              obtain ⟨its3, ra3, ⟨ob3, f1, f2, f3, f4⟩, _⟩ := I2'.tuple (SqT.of (un.tups _ _ q))
              have ei : its1 = [.int (ns.getD j 0).natAbs u1, .int (0 - ns.getD j 0) u2] := by
                have z := congrArg (fun d => match d with | Data.seq a _ => a.toList | _ => []) g4
                simpa using z.symm
              subst ei
              cases ra1 with
              | cons ra rr =>
                cases rr with
                | cons rb rr =>
                  cases rr
                  obtain rfl := ra.inj (y := .int (ns.getD j 0).natAbs) ⟨u1, rfl⟩
                  obtain rfl := rb.inj (y := .int (0 - ns.getD j 0)) ⟨u2, rfl⟩
                  cases ra3 with
                  | cons rc rr =>
                    cases rr with
                    | cons rd rr =>
                      cases rr
                      obtain ⟨w1, rfl⟩ := rc
                      obtain ⟨w2, rfl⟩ := rd
                      exact ⟨tj, ob3, ej, ⟨m0, m00⟩, m1, m2, f1, w1, w2, f3, f2, f4⟩
    · obtain ⟨t, o, rfl, _, _, _, ht, ko⟩ := hi
      obtain ⟨u, o2, rfl, _, _, _, hu, ko2⟩ := hj
      exact keys_lt (A := X.A.in1) (hr.in1.units0) ht ko hu ko2 _ _ _ _ hQ
  · obtain ⟨H', I', sm, _⟩ := hJ
    obtain ⟨b1, b2⟩ := argBest_lt (fun i => cod (ns.getD i 0)) (ns.length - 1)
    obtain ⟨t, ht⟩ := hP
    have ht : v = .int (ns.getD (argBest (fun i j => decide (cod (ns.getD i 0) < cod (ns.getD j 0))) (ns.length - 1)) 0) t := ht
    rw [ht]
    refine ⟨.int _, H', I', ⟨t, rfl⟩, h _ _ ?_ (fun y hy => ?_) sm⟩
    · have hb : argBest (fun i j => decide (cod (ns.getD i 0) < cod (ns.getD j 0))) (ns.length - 1) < ns.length := by omega
      rw [List.getD_eq_getElem?_getD, List.getElem?_eq_getElem hb]
      exact List.getElem_mem hb
    · obtain ⟨i, hi, e⟩ := List.mem_iff_getElem.mp hy
      have e2 : ns.getD i 0 = y := by rw [List.getD_eq_getElem?_getD, List.getElem?_eq_getElem hi, ← e] <;> rfl
      rw [← e2]
      exact b2 i (by omega)
end
theorem ExtN.sq {K : PySem.W.Frag} {H H' : Hp} {a : Addr} {xs : List V} (e : ExtN H H') (h : SqL K H a xs) : SqL K H' a xs := by
  rcases h with (h | ⟨o, h⟩) | h
  · exact .inl (.inl (e _ _ h fun ps z => nomatch z))
  · exact .inl (.inr ⟨o, e _ _ h fun ps z => nomatch z⟩)
  · exact .inr h
def rMinKey (K : PySem.W.Frag) (T : List (Addr × Str)) (vs : List V) (H1 : Hp) (Q : VK) : Prop := ∃ (l : Addr) (ns : List Int), vs = [.ref l] ∧ SqL K H1 l (ns.map V.int) ∧ 0 < ns.length ∧ Tabs T H1 ∧
  ∀ m H', m ∈ ns → (∀ y ∈ ns, cod m ≤ cod y) → ExtN H1 H' → Tabs T H' → Q (.int m) H'
def tMinKey (K : PySem.W.Frag) (T : List (Addr × Str)) (te : TE) : TE := fun σ H Q => tCons te tNil σ H fun vs H1 => rMinKey K T vs H1 Q
theorem r_minKey {K : PySem.W.Frag} {T : List (Addr × Str)} {te : TE} {σ : L2.St} {H : Hp} {Q : VK} (k : te σ H fun x H1 => rMinKey K T [x] H1 Q) : tMinKey K T te σ H Q := k
theorem pe_minKey {X : Cx} {K : PySem.W.Frag} {T : List (Addr × Str)} {te tb : TE} {e body : Expr} {params : Arguments} {scope : Scope} {a : Str} {k : Nat} {c P : Addr} {p pos lpos kpos : Pos} (hK : X.K = K) (hg : Gl X "min") (hm : X.mg "min" = none) (he : PE X e te)
    (TB : TabB X.base X.mg c P) (hcode : X.env.code = .ref c) (hmT : (P, X.env.qual ++ "<lambda>") ∈ T) (hu : ∀ p ∈ T, p.1 = P → p.2 = X.env.qual ++ "<lambda>") (hr : Room (k + 2) X.A) (S : FnScope [a] [a] scope) (hclo : cloFrom X.env.cells scope.names [] = [])
    (hdef : defaultsOf params X.env = ([], [])) (hbind : ∀ (q : Str) (pm cv ctv u : Value), bindArgs (PySem.W.kla_fn "<lambda>" q params body scope [] pm cv ctv) ⟨[u], []⟩ = pure [(a, u)])
    (hbody : ∀ (f : Addr) (cd : Value) (A : Around) (outer : List Env) (s : Shared) (H : Hp), PE (cxOf L2.CX0 X.prog X.w X.K X.mg X.base [a] (X.env.qual ++ "<lambda>") scope f cd A outer s H L2.E0) body tb)
    (htb : ∀ (n : Int) (H : Hp) (Q : VK), (∀ t, H t = none → Q (.ref t) (upd H t (.tup [.int n.natAbs, .int (0 - n)]))) → tb [some (.int n)] H Q)
    (hcalm : X.calm = true := by rfl) (na : starEach [e] X.env = (false, eval e X.env) :: starEach [] X.env := by rfl)
    (hs : backTo pos (starEach [e] X.env) = (false, eval e X.env) :: backTo pos (starEach [] X.env) := by rfl) (hpl : (backTo pos (starEach [e] X.env)).any (·.1) = false := by rfl) :
    PE X (.Call (.Name "min" p) [e] [⟨some "key", .Lambda params body scope lpos, kpos⟩] pos) (tMinKey K T te) := by
  subst hK
  refine ⟨fun pins s σ H Q I h => ?_⟩
  have hfree : ∀ y ∈ scope.names, y.2 = .free → ∃ c, X.env.cells.lookup y.1 = some c := fun y hy z => absurd z (S.nofree y hy)
  refine wpAny_Call_Name_kw (ld_blt (u := .builtin "min") I hg hm (by decide +kernel) ?_)
  refine PyProof.Rows.callWith_kw (thn ((pa_cons he pa_nil na).run pos pins s σ H _ I h) fun us s1 ⟨vs, H1, I1, r1, q1⟩ => ?_) hs hpl (by rfl) (by rfl)
  obtain ⟨l, ns, rfl, hl, hne, hT, q1⟩ := q1
  rw [Vals.ref1 r1]
  show wpAny _ _ (evalAll [(do let v ← eval (.Lambda params body scope lpos) X.env; standAt pos; pure v)]) _ _ s1
  refine wpAny_evalAll_cons (wpAny_bind (lam_make2 I1 TB hcode hmT hu hT hdef hfree fun f c' pm ctv H2 s2 I2 eN T2 hf hfn hfr hco => wpAny_bind (wpAny_standAt (wpAny_pure (wpAny_evalAll_nil ?_)))))
  rw [hclo] at hf
  show wpAny _ _ (call (.builtin "min") [.ref l] [(Str.ofString "key", .ref f)]) _ _ s2
  exact min_key rfl hcalm I2 hr (ExtN.sq eN hl) hne S hf hfn hfr hco (fun u => hbind _ _ _ _ u) (fun A outer s H => hbody f (.ref c') A outer s H) htb fun m H' m1 m2 sm => q1 m H' m1 m2 (eN.trans (ExtN.of sm)) (T2.ext sm)
end Rd

/-! ## defs with a table of code objects, and the end of a law with such tables -/
namespace Rd
open PySem PySem.Spec L2 PyProof.Rows LamX
/-- the def st stands at the name x; c is its code object, P that one's table -/
structure FunTab (K : PySem.W.Frag) (mg : Str → Option Value) (x : Str) (st : Stmt) (c P : Addr) : Prop where
  ex : ∃ (f : Addr) (oc : Value) (od an : Option Addr) (kV doc pm ct : Value) (osl : Array (Option Value)),
    K.lookup f = some ⟨oc, od, .func (PySem.W.fnOf x x (defArgs st) (defBody st) (defScope st) .none kV doc pm an (.ref c) ct), osl⟩ ∧ PySem.W.codeIn K (.ref c) x = true ∧ PySem.W.keepIn K (.ref f) = true ∧ mg x = some (.ref f)
section
variable {P : Program} {w : World} {K : PySem.W.Frag} {mg : Str → Option Value} {base : Heap}
theorem FunTab.ok {x : Str} {st : Stmt} {N ps : List Str} {k : Nat} {sp : Sp} {c Pt : Addr} (F : FunTab K mg x st c Pt) (S : FnScope N ps (defScope st)) (bo : BindOk x st ps) (len : ∀ vs H Q E, sp vs H Q E → vs.length = ps.length)
    (hbody : ∀ (f : Addr) (A : Around) (outer : List Env) (s : Shared) (H : Hp) (vs : List V) (Q : VK) (E : XK), Room k (A.deeper (envOfC x (defScope st) s.heap.objs.size f (.ref c))) → sp vs H Q E →
      ∃ t, PSs (cxOf L2.CX0 P w K mg base N x (defScope st) f (.ref c) A outer s H E).nox (defBody st) t ∧ t { nx := fun _ H' => Q .non H', rt := Q } (L2.start N vs) H) : Has P w K mg base L2.CX0 (k + 1) x sp := by
  obtain ⟨f, oc, od, an, kV, doc, pm, ct, osl, lk, hcd, kp, hm⟩ := F.ex
  refine ⟨f, _, ps, fn_of lk hcd S len fun A outer s H vs Q E hr hsp => ?_, hm, kp, Binds.all (bo kV doc pm an (.ref c) ct)⟩
  obtain ⟨t, h, q⟩ := hbody f A outer s H vs Q E hr hsp
  exact ⟨t, h.nox, q⟩
theorem tab_code {K : PySem.W.Frag} {x : Str} {f c Pt : Addr} {oc : Value} {od : Option Addr} {fd : FuncData} {osl : Array (Option Value)} (a : PySem.W.nsIn K mainGlobals x = some (some (.ref f))) (l : K.lookup f = some ⟨oc, od, .func fd, osl⟩) (t : PySem.W.tabIn K x = some (c, Pt)) : fd.code = .ref c := by
  unfold PySem.W.tabIn at t
  rw [a] at t
  dsimp only at t
  rw [l] at t
  dsimp only at t
  split at t
  · rename_i c' hc
    split at t
    · split at t
      · have z := Option.some.inj t
        have z1 : c' = c := congrArg Prod.fst z
        rw [hc, z1]
      · cases t
    · cases t
  · cases t
theorem FunTab.mk' {x : Str} {st : Stmt} {h : Heap} {c Pt : Addr} (X : K.In h) (G : h.Ns mainGlobals mg) {f : Addr} {oc : Value} {od an : Option Addr} {osl : Array (Option Value)} {kV doc pm cdv ct : Value}
    (a : PySem.W.nsIn K mainGlobals x = some (some (.ref f)))
    (l : K.lookup f = some ⟨oc, od, .func (PySem.W.fnOf x x (defArgs st) (defBody st) (defScope st) .none kV doc pm an cdv ct), osl⟩)
    (cc : PySem.W.codeIn K cdv x = true) (k : PySem.W.keepIn K (.ref f) = true) (t : PySem.W.tabIn K x = some (c, Pt)) : FunTab K mg x st c Pt := by
  have e : cdv = .ref c := tab_code a l t
  subst e
  exact ⟨f, oc, od, an, kV, doc, pm, ct, osl, l, cc, k, PySem.W.mg_of X G a⟩
end
/-- what the end knows of the tables of the defs named xs -/
def TabsAt (q : Program) (K : PySem.W.Frag) (h : Heap) : Prop := ∀ (x : Str) (c P : Addr), ((recsOf q).any fun e => e.name == x) = true → PySem.W.tabIn K x = some (c, P) → PySem.W.CodeHd h c P ∧ h.get? P = some { cls := .none, data := .fields #[] }
theorem walk_tabs {l : PySem.W.OpenLaw} {n k : Nat} {q : Program} {loose : List Str} {XP : (Str → Option Value) → Heap → Prop} {YP : World → Heap → Prop} {d : DefRec} {K : Params → PySem.W.Frag} {CX : World → CXT} {x : Str}
    (hn : l.most = some n) (hn2 : n ≤ sizeLine) (hdf : d.params.defaults = []) (hr : Room k callerA) (hY : ∀ (w : World) (h : Heap), YP w h → (K w.params).In h)
    (F : ∀ (w : World) (mg : Str → Option Value) (fa : Addr) (h : Heap), YP w h → (K w.params).In h → h.Ns mainGlobals mg → mg d.name = some (.ref fa) → TabsAt q (K w.params) h → LawAtS l w (K w.params) (CX w) k n x mg fa h)
    (hCX : ∀ (w : World) (H : Hp) (s : Shared) (e : Value) (s' : Shared), CX w [] H s (fun _ _ _ => False) e s' → False) :
    PySem.W.WalkO q loose XP YP l.row.toRowW d [] (fun f vs => PySem.call f vs) := by
  refine Att.attach_callB hn hdf fun w s₀ s₁ mg mb fa o pm cd doc a vs ns G Y ho hd hcd hmg hobj hints hlen hbits hg => ?_
  have KX := hY w _ Y
  have tabs : TabsAt q (K w.params) s₁.heap := fun x c P hrec ht => by
    have hs : ((recsOf q).find? fun e => e.name == x).isSome = true := by rw [List.find?_isSome]; simpa using hrec
    obtain ⟨d', hd'⟩ := Option.isSome_iff_exists.mp hs
    exact PySem.W.tab_of G.T KX hd' ht
  obtain ⟨fd, cs, sp, hT, nT, C, hb, hsp, hF⟩ := F w mg fa _ Y KX G.T.g hmg tabs
  exact law_callTs KX G.T.g G.T.b G.T.builtins G.T.nolimit hg hT nT C G.T.bmain hobj hints (Nat.le_trans hlen hn2) hr hF hb (fun H hH hS => hsp H a ns hlen hbits hH hS) fun H e s' => hCX w H s₁ e s'
/-- the script's list and the tables at the law's start -/
def spLawT (K : PySem.W.Frag) (T : List (Addr × Str)) : Sp := fun vs H Q _ => ∃ (a : Addr) (ns : List Int), vs = [.ref a] ∧ SqL K H a (ns.map V.int) ∧ ns.length ≤ 63 ∧ Tabs T H ∧ ∀ H', Q (.bl true) H'
end Rd

/-! ## max of a list of lists of ints, min of a list of (int, list of ints) -/
namespace Rd
open PySem PySem.Spec L2 PyProof.Rows
/-- lists as they ascend -/
def ltL : List Int → List Int → Bool
  | [], [] => false
  | [], _ :: _ => true
  | _ :: _, [] => false
  | x :: xs, y :: ys => if x = y then ltL xs ys else decide (x < y)
theorem ltL_irrefl : ∀ a : List Int, ltL a a = false
  | [] => rfl
  | x :: xs => by
    rw [ltL, if_pos rfl]
    exact ltL_irrefl xs
theorem ltL_asym : ∀ a b : List Int, ltL a b = true → ltL b a = false
  | [], [], h => by cases h
  | [], _ :: _, _ => rfl
  | _ :: _, [], h => by cases h
  | x :: xs, y :: ys, h => by
    rw [ltL] at h ⊢
    by_cases e : x = y
    · rw [if_pos e] at h
      rw [if_pos e.symm]
      exact ltL_asym xs ys h
    · rw [if_neg e] at h
      rw [if_neg (Ne.symm e)]
      have := of_decide_eq_true h
      exact decide_eq_false (by omega)
theorem ltL_tri : ∀ a b : List Int, ltL a b = false → ltL b a = false → a = b
  | [], [], _, _ => rfl
  | [], _ :: _, h, _ => by cases h
  | _ :: _, [], _, h => by cases h
  | x :: xs, y :: ys, h, k => by
    rw [ltL] at h k
    by_cases e : x = y
    · rw [if_pos e] at h
      rw [if_pos e.symm] at k
      rw [e, ltL_tri xs ys h k]
    · rw [if_neg e] at h
      rw [if_neg (Ne.symm e)] at k
      have a := of_decide_eq_false h
      have b := of_decide_eq_false k
      omega
theorem ltL_trans : ∀ a b c : List Int, ltL a b = true → ltL b c = true → ltL a c = true
  | [], [], _, h, _ => by cases h
  | [], _ :: _, [], _, k => by cases k
  | [], _ :: _, _ :: _, _, _ => rfl
  | _ :: _, [], _, h, _ => by cases h
  | _ :: _, _ :: _, [], _, k => by cases k
  | x :: xs, y :: ys, z :: zs, h, k => by
    rw [ltL] at h k ⊢
    by_cases e : x = y
    · rw [if_pos e] at h
      by_cases f : y = z
      · rw [if_pos f] at k
        rw [if_pos (e.trans f)]
        exact ltL_trans xs ys zs h k
      · rw [if_neg f] at k
        rw [if_neg (by rw [e]; exact f), e]
        exact k
    · rw [if_neg e] at h
      have a := of_decide_eq_true h
      by_cases f : y = z
      · rw [if_neg (by rw [← f]; exact e), ← f]
        exact h
      · rw [if_neg f] at k
        have b := of_decide_eq_true k
        rw [if_neg (by omega)]
        exact decide_eq_true (by omega)
/-- not less, turned around, goes on -/
theorem ltL_le_trans {a b c : List Int} (h : ltL b a = false) (k : ltL c b = false) : ltL c a = false := by
  cases e : ltL c a with
  | false => rfl
  | true =>
    cases f : ltL a b with
    | true => rw [ltL_trans c a b e f] at k; cases k
    | false =>
      rw [ltL_tri a b f h] at e
      rw [e] at k
      cases k
theorem firstLt_map (e r : Nat → Bool) (fin : Bool) (f : Nat → Nat) : ∀ l : List Nat, SeqAt.firstLt e r fin (l.map f) = SeqAt.firstLt (fun j => e (f j)) (fun j => r (f j)) fin l
  | [] => rfl
  | j :: t => by
    rw [List.map_cons, SeqAt.firstLt, SeqAt.firstLt, firstLt_map e r fin f t]
theorem firstLt_gt : ∀ a b : List Int, SeqAt.firstLt (fun j => decide (a.getD j 0 = b.getD j 0)) (fun j => decide (b.getD j 0 < a.getD j 0)) (decide (a.length > b.length)) (List.range (min a.length b.length)) = ltL b a
  | [], [] => rfl
  | [], _ :: _ => rfl
  | _ :: xs, [] => by
    rw [ltL]
    show decide (xs.length + 1 > 0) = true
    exact decide_eq_true (Nat.succ_pos _)
  | x :: xs, y :: ys => by
    have ih := firstLt_gt xs ys
    rw [ltL]
    rw [List.length_cons, List.length_cons, Nat.succ_min_succ, List.range_succ_eq_map, SeqAt.firstLt]
    rw [firstLt_map]
    show (if decide (x = y) = true then SeqAt.firstLt (fun j => decide (xs.getD j 0 = ys.getD j 0)) (fun j => decide (ys.getD j 0 < xs.getD j 0)) (decide (xs.length + 1 > ys.length + 1)) (List.range (min xs.length ys.length)) else decide (y < x)) = _
    rw [show decide (xs.length + 1 > ys.length + 1) = decide (xs.length > ys.length) from decide_eq_decide.mpr (by omega), ih]
    by_cases e : x = y
    · rw [if_pos (decide_eq_true e), if_pos e.symm]
    · rw [if_neg (by rw [decide_eq_true_eq]; exact e), if_neg (Ne.symm e)]
theorem firstLt_lt (a b : List Int) : SeqAt.firstLt (fun j => decide (a.getD j 0 = b.getD j 0)) (fun j => decide (a.getD j 0 < b.getD j 0)) (decide (a.length < b.length)) (List.range (min a.length b.length)) = ltL a b := by
  have h := firstLt_gt b a
  rw [Nat.min_comm, ← h]
  congr 1
  funext j
  exact decide_eq_decide.mpr ⟨Eq.symm, Eq.symm⟩
theorem beq_dec (a b : Int) : (a == b) = decide (a = b) := by
  by_cases q : a = b
  · rw [decide_eq_true q]; exact beq_iff_eq.mpr q
  · rw [decide_eq_false q]; exact beq_eq_false_iff_ne.mpr q
section
variable {A : Around} {s : Shared} {t u : Addr} {its its2 : List Value} {a b : List Int}
theorem ints_gt (hl : s.heap.IsList t its.toArray) (hb : s.heap.IsList u its2.toArray) (i1 : IntsAre its a) (i2 : IntsAre its2 b) (hu : A.units < cLine) : SeqAt.RcOp .Gt A s (.ref t) (.ref u) (ltL b a) := by
  have e1 : its.toArray.size = a.length := by rw [List.size_toArray]; exact i1.length
  have e2 : its2.toArray.size = b.length := by rw [List.size_toArray]; exact i2.length
  have at1 : ∀ j (h1 : j < its.toArray.size), ∃ t, its.toArray[j] = .int (a.getD j 0) t := fun j h1 => PyProof.Rows.IntsAre.int_at i1 _ _ (by simp at h1; simp [h1])
  have at2 : ∀ j (h1 : j < its2.toArray.size), ∃ t, its2.toArray[j] = .int (b.getD j 0) t := fun j h1 => PyProof.Rows.IntsAre.int_at i2 _ _ (by simp at h1; simp [h1])
  have R := SeqAt.RcOp.lists_gt (A := A) (s := s) (e := fun j => decide (a.getD j 0 = b.getD j 0)) (r := fun j => decide (b.getD j 0 < a.getD j 0)) hl hb hu (fun j h1 h2 => by
    obtain ⟨t, et⟩ := at1 j h1
    obtain ⟨t', et'⟩ := at2 j h2
    rw [et, et', ← beq_dec]
    exact SeqAt.EqAt.int_int _ _ _ _) (fun j h1 h2 _ => by
    obtain ⟨t, et⟩ := at1 j h1
    obtain ⟨t', et'⟩ := at2 j h2
    rw [et, et']
    exact fun _ _ _ _ h => PyProof.Rows.gt_int h)
  rw [e1, e2, firstLt_gt] at R
  exact R
theorem ints_lt (hl : s.heap.IsList t its.toArray) (hb : s.heap.IsList u its2.toArray) (i1 : IntsAre its a) (i2 : IntsAre its2 b) (hu : A.units < cLine) : SeqAt.RcLt A s (.ref t) (.ref u) (ltL a b) := by
  have e1 : its.toArray.size = a.length := by rw [List.size_toArray]; exact i1.length
  have e2 : its2.toArray.size = b.length := by rw [List.size_toArray]; exact i2.length
  have at1 : ∀ j (h1 : j < its.toArray.size), ∃ t, its.toArray[j] = .int (a.getD j 0) t := fun j h1 => PyProof.Rows.IntsAre.int_at i1 _ _ (by simp at h1; simp [h1])
  have at2 : ∀ j (h1 : j < its2.toArray.size), ∃ t, its2.toArray[j] = .int (b.getD j 0) t := fun j h1 => PyProof.Rows.IntsAre.int_at i2 _ _ (by simp at h1; simp [h1])
  have R := SeqAt.RcLt.lists (A := A) (s := s) (e := fun j => decide (a.getD j 0 = b.getD j 0)) (r := fun j => decide (a.getD j 0 < b.getD j 0)) hl hb hu (fun j h1 h2 => by
    obtain ⟨t, et⟩ := at1 j h1
    obtain ⟨t', et'⟩ := at2 j h2
    rw [et, et', ← beq_dec]
    exact SeqAt.EqAt.int_int _ _ _ _) (fun j h1 h2 _ => by
    obtain ⟨t, et⟩ := at1 j h1
    obtain ⟨t', et'⟩ := at2 j h2
    rw [et, et']
    exact fun _ _ _ _ h => PyProof.Rows.lt_int h)
  rw [e1, e2, firstLt_lt] at R
  exact R
end
/-- the first of the best by an order whose «not less» goes on -/
theorem argBest_le {lt : Nat → Nat → Bool} (as : ∀ i j, lt i j = true → lt j i = false) (tr : ∀ i j k, lt j i = false → lt k j = false → lt k i = false) : ∀ k, argBest lt k ≤ k ∧ ∀ j, j ≤ k → lt j (argBest lt k) = false
  | 0 => ⟨Nat.le_refl _, fun j hj => by
    have e : j = 0 := by omega
    subst e
    cases h : lt 0 0 with
    | false => exact h
    | true => exact absurd (as 0 0 h) (by rw [h]; exact Bool.noConfusion)⟩
  | k + 1 => by
    obtain ⟨h1, h2⟩ := argBest_le as tr k
    simp only [argBest]
    have self : ∀ i, lt i i = false := fun i => by
      cases h : lt i i with
      | false => rfl
      | true => rw [as i i h] at h; cases h
    cases hc : lt (k + 1) (argBest lt k) with
    | true =>
      rw [if_pos rfl]
      refine ⟨Nat.le_refl _, fun j hj => ?_⟩
      rcases Nat.lt_or_ge j (k + 1) with hlt | hge
      · exact tr _ _ _ (as _ _ hc) (h2 j (by omega))
      · have : j = k + 1 := by omega
        rw [this]
        exact self _
    | false =>
      rw [if_neg Bool.false_ne_true]
      refine ⟨by omega, fun j hj => ?_⟩
      rcases Nat.lt_or_ge j (k + 1) with hlt | hge
      · exact h2 j (by omega)
      · have : j = k + 1 := by omega
        rw [this]
        exact hc
/-! ### the rules -/
/-- lists of ints at the addresses as, by number -/
def Rows (H : Hp) (as : List Addr) (rows : List (List Int)) : Prop := as.length = rows.length ∧ ∀ (i : Nat) (a : Addr) (row : List Int), as[i]? = some a → rows[i]? = some row → H a = some (.lst (row.map V.int))
def rMaxLL (K : PySem.W.Frag) (vs : List V) (H : Hp) (Q : VK) : Prop := ∃ (l : Addr) (as : List Addr) (rows : List (List Int)), vs = [.ref l] ∧ SqL K H l (as.map V.ref) ∧ Rows H as rows ∧ 0 < rows.length ∧
  ∀ (i : Nat) (a : Addr) (row : List Int), as[i]? = some a → rows[i]? = some row → (∀ r ∈ rows, ltL row r = false) → Q (.ref a) H
/-- pairs of a number and a list of ints at the addresses ts -/
def NRows (H : Hp) (ts : List Addr) (as : List Addr) (rows : List (Int × List Int)) : Prop := ts.length = rows.length ∧ as.length = rows.length ∧ ∀ (i : Nat) (t a : Addr) (row : Int × List Int), ts[i]? = some t → as[i]? = some a → rows[i]? = some row →
  H t = some (.tup [.int row.1, .ref a]) ∧ H a = some (.lst (row.2.map V.int))
def rMinTL (K : PySem.W.Frag) (vs : List V) (H : Hp) (Q : VK) : Prop := ∃ (l : Addr) (ts as : List Addr) (rows : List (Int × List Int)), vs = [.ref l] ∧ SqL K H l (ts.map V.ref) ∧ NRows H ts as rows ∧ 0 < rows.length ∧
  ∀ (i : Nat) (t : Addr) (row : Int × List Int), ts[i]? = some t → rows[i]? = some row → (∀ r ∈ rows, ltL (r.1 :: r.2) (row.1 :: row.2) = false) → Q (.ref t) H
theorem map_ref_at {as : List Addr} {its : List Value} {i : Nat} {a : Addr} (r : Vals (as.map V.ref) its) (h : as[i]? = some a) : its[i]? = some (.ref a) := by
  obtain ⟨u, h1, h2⟩ := Vals.get r (i := i) (x := .ref a) (by rw [List.getElem?_map, h] <;> rfl)
  rw [h1, show u = Value.ref a from h2]
theorem eqv_ints : ∀ a b : List Int, PyData.eqv (dInts a) (dInts b) = decide (a = b) := by
  intro a b
  have e : PyData.eqvAll (a.map PyData.int) (b.map PyData.int) = decide (a = b) := by
    induction a generalizing b with
    | nil =>
      cases b with
      | nil => rfl
      | cons y ys => rfl
    | cons x xs ih =>
      cases b with
      | nil => rfl
      | cons y ys =>
        rw [List.map_cons, List.map_cons, PyData.eqvAll, ih ys]
        simp only [PyData.eqv, List.cons.injEq]
        rw [beq_dec]
        by_cases h1 : x = y
        · by_cases h2 : xs = ys
          · simp [h1, h2]
          · simp [h1, h2]
        · simp [h1]
  unfold dInts
  rw [PyData.eqv]
  exact e
section
variable {X : Cx}
theorem cr_maxLL (hc : X.calm = true) (hu : X.A.units + 64 < cLine) : CallR X (.builtin "max") (rMaxLL X.K) := by
  intro pins s σ H xs us Q I r h
  obtain ⟨l, as, rows, rfl, hl, hR, h0, q⟩ := h
  obtain ⟨hlen, hR⟩ := hR
  rw [Vals.ref1 r]
  obtain ⟨its, rv, pl, _⟩ := I.list hl
  have hn : its.toArray.size = rows.length := by rw [List.size_toArray, ← rv.length, List.length_map]; exact hlen
  have item : ∀ (i : Nat) (v : Value), its.toArray[i]? = some v → ∃ a row iA, as[i]? = some a ∧ rows[i]? = some row ∧ v = .ref a ∧ IntsAre iA row ∧ s.heap.IsList a iA.toArray := fun i v hv => by
    have hi : i < rows.length := by
      rw [← hn]
      exact (Array.getElem?_eq_some_iff.mp hv).1
    obtain ⟨a, ha⟩ : ∃ a, as[i]? = some a := ⟨_, List.getElem?_eq_getElem (by omega)⟩
    obtain ⟨row, hrow⟩ : ∃ row, rows[i]? = some row := ⟨_, List.getElem?_eq_getElem hi⟩
    obtain ⟨iA, ra, pa, _⟩ := I.list (SqL.of (hR i a row ha hrow))
    have hv' : its[i]? = some v := by simpa using hv
    rw [map_ref_at rv ha] at hv'
    exact ⟨a, row, iA, ha, hrow, (Option.some.inj hv').symm, Vals.ints ra, pa.isList⟩
  refine call_max_walkH (PySem.W.iter_listW (A := X.A.in1) (I.ok.hd hc) pl.isList fun s₂ e W st hfp hw hk => ?_)
  refine ⟨_, _, _, _, _, _, _, s.heap, fun i j => ltL (rows.getD j []) (rows.getD i []), rfl, W, st, hfp, by omega, hw, hk, fun i j vi vj s' Q' E' hk' hi hj hq => ?_, fun v s' hP m => ?_⟩
  · obtain ⟨a, ra, iA, _, h2, rfl, h4, h5⟩ := item i vi hi
    obtain ⟨b, rb, iB, _, g2, rfl, g4, g5⟩ := item j vj hj
    have e1 : rows.getD i [] = ra := by rw [List.getD_eq_getElem?_getD, h2] <;> rfl
    have e2 : rows.getD j [] = rb := by rw [List.getD_eq_getElem?_getD, g2] <;> rfl
    dsimp only at hq
    rw [e1, e2] at hq
    exact ints_gt (A := X.A.in1) (h5.at fun o e => hk' _ _ e) (g5.at fun o e => hk' _ _ e) h4 g4 (show X.A.units + 1 < cLine by omega) _ _ _ _ hq
  · obtain ⟨h', tk, rfl, hk'⟩ := PySem.W.moved_old e rfl m
    obtain ⟨a, row, iA, h1, h2, rfl, _, _⟩ := item _ v hP
    obtain ⟨b1, b2⟩ := argBest_le (lt := fun i j => ltL (rows.getD j []) (rows.getD i [])) (fun i j => ltL_asym _ _) (fun i j k h h' => ltL_le_trans h' h) (its.toArray.size - 1)
    refine ⟨.ref a, H, I.kept (t' := tk) hk', rfl, q _ a row h1 h2 fun r hr => ?_⟩
    obtain ⟨j, hj, ej⟩ := List.mem_iff_getElem.mp hr
    have := b2 j (by omega)
    have e1 : rows.getD j [] = r := by rw [List.getD_eq_getElem?_getD, List.getElem?_eq_getElem hj, ← ej] <;> rfl
    have e2 : rows.getD (argBest (fun i j => ltL (rows.getD j []) (rows.getD i [])) (its.toArray.size - 1)) [] = row := by rw [List.getD_eq_getElem?_getD, h2] <;> rfl
    rw [← e1, ← e2]
    exact this
theorem cr_minTL (hc : X.calm = true) (hu : X.A.units + 64 < cLine) : CallR X (.builtin "min") (rMinTL X.K) := by
  intro pins s σ H xs us Q I r h
  obtain ⟨l, ts, as, rows, rfl, hl, hR, h0, q⟩ := h
  obtain ⟨hlen, hlenA, hR⟩ := hR
  rw [Vals.ref1 r]
  obtain ⟨its, rv, pl, _⟩ := I.list hl
  have hn : its.toArray.size = rows.length := by rw [List.size_toArray, ← rv.length, List.length_map]; exact hlen
  have item : ∀ (i : Nat) (v : Value), its.toArray[i]? = some v → ∃ t row a tk iA rs, ts[i]? = some t ∧ rows[i]? = some row ∧ v = .ref t ∧ s.heap.IsTuple t #[.int row.1 tk, .ref a] ∧ IntsAre iA row.2 ∧ s.heap.IsList a iA.toArray ∧ Reads s.heap (.ref a) (dInts row.2) rs := fun i v hv => by
    have hi : i < rows.length := by
      rw [← hn]
      exact (Array.getElem?_eq_some_iff.mp hv).1
    obtain ⟨t, ht⟩ : ∃ t, ts[i]? = some t := ⟨_, List.getElem?_eq_getElem (by omega)⟩
    obtain ⟨a, ha⟩ : ∃ a, as[i]? = some a := ⟨_, List.getElem?_eq_getElem (by omega)⟩
    obtain ⟨row, hrow⟩ : ∃ row, rows[i]? = some row := ⟨_, List.getElem?_eq_getElem hi⟩
    obtain ⟨e1, e2⟩ := hR i t a row ht ha hrow
    obtain ⟨iA, ra, pa, _⟩ := I.list (SqL.of e2)
    obtain ⟨iT, rT, pT, _⟩ := I.tuple (SqT.of e1)
    obtain ⟨rs, hrs⟩ := Dp.reads I _ _ (.ref a) (Is.dp (K := X.K) _ _ (Is.ints e2)) rfl
    have hv' : its[i]? = some v := by simpa using hv
    rw [map_ref_at rv ht] at hv'
    cases rT with
    | cons r1 rr =>
      cases rr with
      | cons r2 rr =>
        cases rr
        obtain ⟨tk, rfl⟩ := r1
        obtain rfl := r2
        exact ⟨t, row, a, tk, iA, rs, ht, hrow, (Option.some.inj hv').symm, pT, Vals.ints ra, pa.isList, hrs⟩
  refine call_min_walkH (PySem.W.iter_listW (A := X.A.in1) (I.ok.hd hc) pl.isList fun s₂ e W st hfp hw hk => ?_)
  refine ⟨_, _, _, _, _, _, _, s.heap, fun i j => ltL ((rows.getD i (0, [])).1 :: (rows.getD i (0, [])).2) ((rows.getD j (0, [])).1 :: (rows.getD j (0, [])).2), rfl, W, st, hfp, by omega, hw, hk, fun i j vi vj s' Q' E' hk' hi hj hq => ?_, fun v s' hP m => ?_⟩
  · obtain ⟨t, ra, a, k1, iA, rs, _, h2, rfl, h4, h5, h6, h7⟩ := item i vi hi
    obtain ⟨u, rb, b, k2, iB, rs2, _, g2, rfl, g4, g5, g6, g7⟩ := item j vj hj
    have e1 : rows.getD i (0, []) = ra := by rw [List.getD_eq_getElem?_getD, h2] <;> rfl
    have e2 : rows.getD j (0, []) = rb := by rw [List.getD_eq_getElem?_getD, g2] <;> rfl
    dsimp only at hq
    rw [e1, e2] at hq
    have R := SeqAt.RcLt.tuples (A := X.A.in1) (s := s') (e := fun j => if j = 0 then decide (ra.1 = rb.1) else decide (ra.2 = rb.2)) (r := fun j => if j = 0 then decide (ra.1 < rb.1) else ltL ra.2 rb.2) (h4.at fun o e => hk' _ _ e) (g4.at fun o e => hk' _ _ e) (show X.A.units + 1 < cLine by omega)
      (fun j p1 p2 => by
        have hj : j < 2 := p1
        match j, hj with
        | 0, _ => rw [if_pos rfl, ← beq_dec]; exact SeqAt.EqAt.int_int _ _ _ _
        | 1, _ =>
          rw [if_neg (by decide), ← eqv_ints]
          exact SeqAt.eqAt_reads _ _ _ _ _ _ _ _ (PySem.W.reads_keeps hk' h7) (PySem.W.reads_keeps hk' g7) (Fl.ints 0 _).1 (Fl.ints 0 _).1 (by
            have := (Fl.ints 0 ra.2).2
            have := Nat.min_le_left (dInts ra.2).depth (dInts rb.2).depth
            show X.A.units + 1 + 1 + _ < cLine
            omega))
      (fun j p1 p2 _ => by
        have hj : j < 2 := p1
        match j, hj with
        | 0, _ => rw [if_pos rfl]; exact fun _ _ _ _ h => PyProof.Rows.lt_int h
        | 1, _ => rw [if_neg (by decide)]; exact ints_lt (A := X.A.in1.in1) (h6.at fun o e => hk' _ _ e) (g6.at fun o e => hk' _ _ e) h5 g5 (show X.A.units + 1 + 1 < cLine by omega))
    have eR : SeqAt.firstLt (fun j => if j = 0 then decide (ra.1 = rb.1) else decide (ra.2 = rb.2)) (fun j => if j = 0 then decide (ra.1 < rb.1) else ltL ra.2 rb.2) (decide (2 < 2)) (List.range (min 2 2)) = ltL (ra.1 :: ra.2) (rb.1 :: rb.2) := by
      show (if decide (ra.1 = rb.1) = true then (if decide (ra.2 = rb.2) = true then false else ltL ra.2 rb.2) else decide (ra.1 < rb.1)) = _
      rw [ltL]
      by_cases c : ra.1 = rb.1
      · rw [if_pos (decide_eq_true c), if_pos c]
        by_cases d : ra.2 = rb.2
        · rw [if_pos (decide_eq_true d), d, ltL_irrefl]
        · rw [if_neg (by rw [decide_eq_true_eq]; exact d)]
      · rw [if_neg (by rw [decide_eq_true_eq]; exact c), if_neg c]
    have R2 : SeqAt.RcLt X.A.in1 s' (.ref t) (.ref u) (SeqAt.firstLt (fun j => if j = 0 then decide (ra.1 = rb.1) else decide (ra.2 = rb.2)) (fun j => if j = 0 then decide (ra.1 < rb.1) else ltL ra.2 rb.2) (decide (2 < 2)) (List.range (min 2 2))) := R
    rw [eR] at R2
    exact R2 _ _ _ _ hq
  · obtain ⟨h', tk, rfl, hk'⟩ := PySem.W.moved_old e rfl m
    obtain ⟨t, row, a, _, _, _, h1, h2, rfl, _⟩ := item _ v hP
    obtain ⟨b1, b2⟩ := argBest_le (lt := fun i j => ltL ((rows.getD i (0, [])).1 :: (rows.getD i (0, [])).2) ((rows.getD j (0, [])).1 :: (rows.getD j (0, [])).2)) (fun i j => ltL_asym _ _) (fun i j k h h' => ltL_le_trans h h') (its.toArray.size - 1)
    refine ⟨.ref t, H, I.kept (t' := tk) hk', rfl, q _ t row h1 h2 fun r hr => ?_⟩
    obtain ⟨j, hj, ej⟩ := List.mem_iff_getElem.mp hr
    have := b2 j (by omega)
    have e1 : rows.getD j (0, []) = r := by rw [List.getD_eq_getElem?_getD, List.getElem?_eq_getElem hj, ← ej] <;> rfl
    have e2 : rows.getD (argBest (fun i j => ltL ((rows.getD i (0, [])).1 :: (rows.getD i (0, [])).2) ((rows.getD j (0, [])).1 :: (rows.getD j (0, [])).2)) (its.toArray.size - 1)) (0, []) = row := by rw [List.getD_eq_getElem?_getD, h2] <;> rfl
    rw [e1, e2] at this
    exact this
end
section
variable {X : Cx} {K : PySem.W.Frag}
theorem kc_maxLL (h : X.K = K) (hc : X.calm = true) (hu : X.A.units + 64 < cLine) : CallR X (.builtin "max") (rMaxLL K) := by subst h; exact cr_maxLL hc hu
theorem kc_minTL (h : X.K = K) (hc : X.calm = true) (hu : X.A.units + 64 < cLine) : CallR X (.builtin "min") (rMinTL K) := by subst h; exact cr_minTL hc hu
theorem kop_notIn (h : X.K = K) : OpR X (compareOp .NotIn) (rIn K true) := by subst h; exact op_notIn_seq
theorem kop_in (h : X.K = K) : OpR X (compareOp .In) (rIn K false) := by subst h; exact op_in_seq
end
section
variable {K : PySem.W.Frag} {H : Hp} {Q : VK}
theorem inV_ints (n : Int) : ∀ ns : List Int, inV (.int n) (ns.map V.int) = decide (n ∈ ns) := by
  intro ns
  induction ns with
  | nil => rfl
  | cons k r ih =>
    have e : inV (.int n) (V.int k :: r.map V.int) = (decide (n = k) || inV (.int n) (r.map V.int)) := by
      unfold inV
      rw [List.any_cons]
      congr 1
      first
        | rfl
        | (simp [eqV]; done)
        | (by_cases q : n = k
           · simp [eqV, q]
           · simp [eqV, q, Ne.symm q])
    rw [List.map_cons, e, ih]
    by_cases c : n = k
    · simp [c]
    · simp [c]
theorem flat_ints (ns : List Int) : (ns.map V.int).all flatV = true := by
  rw [List.all_map, List.all_eq_true]
  intro x _
  rfl
theorem r_notIn {a : Addr} {n : Int} {ns : List Int} (h : SqL K H a (ns.map V.int) ∨ SqT K H a (ns.map V.int)) (k : Q (.bl (!decide (n ∈ ns))) H) : rIn K true (.int n) (.ref a) H Q := by
  refine ⟨a, _, rfl, h, rfl, flat_ints ns, ?_⟩
  rw [if_pos rfl, inV_ints]
  exact k
theorem r_extend {l b : Addr} {xs zs : List V} (h : H l = some (.lst xs)) (hb : H b = some (.lst zs)) (hz : xs.length + zs.length ≤ sizeLine) (k : ∀ H', H' l = some (.lst (xs ++ zs)) → (∀ b o, b ≠ l → H b = some o → H' b = some o) → Q .non H') : rExtend (.ref l) [.ref b] H Q :=
  ⟨l, b, xs, zs, rfl, rfl, h, hb, hz, k _ upd_same fun b o n q => at_wr n q⟩
/-- xs == [], xs a list of ints -/
theorem r_eqNil {a b : Addr} {ns : List Int} (h : H a = some (.lst (ns.map V.int))) (h2 : H b = some (.lst [])) (k : Q (.bl (decide (ns = []))) H) : rEqA K (.ref a) (.ref b) H Q := by
  refine .inr ⟨dInts ns, .list [], Is.dp _ _ (Is.ints h), Is.dp _ _ (.lst h2 .nil), (Fl.ints 0 ns).shaped (by decide), (Fl.list (n := 0) (ds := []) (by simp)).shaped (by decide), ?_⟩
  have e : PyData.eqv (dInts ns) (.list []) = decide (ns = []) := by
    cases ns with
    | nil => simp [dInts, PyData.eqv, PyData.eqvAll]
    | cons n r => simp [dInts, PyData.eqv, PyData.eqvAll]
  rw [e]
  exact k
theorem NRows.mono {H' : Hp} {ts as : List Addr} {rows : List (Int × List Int)} (h : NRows H ts as rows) (R : ∀ b o, H b = some o → (∃ i : Nat, ts[i]? = some b ∨ as[i]? = some b) → H' b = some o) : NRows H' ts as rows :=
  ⟨h.1, h.2.1, fun i t a row h1 h2 h3 => ⟨R _ _ (h.2.2 i t a row h1 h2 h3).1 ⟨i, .inl h1⟩, R _ _ (h.2.2 i t a row h1 h2 h3).2 ⟨i, .inr h2⟩⟩⟩
theorem NRows.nil : NRows H [] [] [] := ⟨rfl, rfl, fun i t a row h => by simp at h⟩
theorem at_snoc {α : Type} {l : List α} {x y : α} {i : Nat} (h : (l ++ [x])[i]? = some y) : l[i]? = some y ∧ i < l.length ∨ i = l.length ∧ y = x := by
  rw [List.getElem?_append] at h
  by_cases c : i < l.length
  · rw [if_pos c] at h
    exact .inl ⟨h, c⟩
  · rw [if_neg c] at h
    have : i - l.length = 0 := by
      cases e : i - l.length with
      | zero => rfl
      | succ n => rw [e] at h; simp at h
    rw [this] at h
    exact .inr ⟨by omega, by simpa using h.symm⟩
theorem NRows.snoc {ts as : List Addr} {rows : List (Int × List Int)} {t a : Addr} {row : Int × List Int} (h : NRows H ts as rows) (h1 : H t = some (.tup [.int row.1, .ref a])) (h2 : H a = some (.lst (row.2.map V.int))) : NRows H (ts ++ [t]) (as ++ [a]) (rows ++ [row]) := by
  obtain ⟨l1, l2, at_⟩ := h
  refine ⟨by simp [l1], by simp [l2], fun i t' a' row' e1 e2 e3 => ?_⟩
  rcases at_snoc e1 with ⟨f1, g1⟩ | ⟨f1, rfl⟩
  · rcases at_snoc e2 with ⟨f2, g2⟩ | ⟨f2, rfl⟩
    · rcases at_snoc e3 with ⟨f3, g3⟩ | ⟨f3, rfl⟩
      · exact at_ i _ _ _ f1 f2 f3
      · omega
    · omega
  · rcases at_snoc e2 with ⟨f2, g2⟩ | ⟨f2, rfl⟩
    · omega
    · rcases at_snoc e3 with ⟨f3, g3⟩ | ⟨f3, rfl⟩
      · omega
      · exact ⟨h1, h2⟩
end
end Rd

/-! ## dicts whose keys are tuples; while -/
namespace Rd
open PySem PySem.Spec L2 PyProof.Rows
theorem nst_dT {kvs : List (List Key × V)} : NotSt (.dT kvs) := fun _ _ _ _ h => nomatch h
section
variable {κ : Type} [DecidableEq κ]
theorem put_len (c : List (κ × V)) (k : κ) (x : V) : (putK c k x).length ≤ c.length + 1 := by
  unfold putK
  by_cases e : (c.any fun kv => decide (kv.1 = k)) = true
  · rw [if_pos e, List.length_map]
    omega
  · rw [if_neg e, List.length_append]
    simp
theorem put_mem {c : List (κ × V)} {k j : κ} {x : V} : j ∈ (putK c k x).map (·.1) ↔ j = k ∨ j ∈ c.map (·.1) := by
  have h : ∀ (l : List (κ × V)) (i : κ), i ∈ l.map (·.1) ↔ (valV l i).isSome = true := fun l i => by
    cases e : valV l i with
    | none => exact ⟨fun m => absurd m (valV_not e), fun q => (nomatch q)⟩
    | some v => exact ⟨fun _ => rfl, fun _ => valV_in e⟩
  rw [h, h, valV_put]
  by_cases c : j = k
  · rw [if_pos c]
    exact ⟨fun _ => .inl c, fun _ => rfl⟩
  · rw [if_neg c]
    exact ⟨fun q => .inr q, fun q => q.resolve_left c⟩
theorem val_mem {c : List (κ × V)} {k : κ} : (valV c k).isSome = true ↔ k ∈ c.map (·.1) := by
  cases e : valV c k with
  | none => exact ⟨fun q => (nomatch q), fun m => absurd m (valV_not e)⟩
  | some v => exact ⟨fun _ => valV_in e, fun _ => rfl⟩
end
section
variable {K : PySem.W.Frag} {σ : L2.St} {H : Hp} {Q : VK} {nn bb cc : L2.St → Hp → Prop} {rr : VK}
theorem r_dnewT (k : ∀ p, H p = none → Q (.ref p) (upd H p (.dT []))) : tDNewT σ H Q := k
theorem r_dnotin {ty td : TE} (k : ty σ H fun y H1 => td σ H1 fun x H2 => ∃ a o, x = .ref a ∧ DGet H2 a y o ∧ Q (.bl (!o.isSome)) H2) : tDNotIn ty td σ H Q := k
theorem r_dput {td ty tv : TE} (k : tv σ H fun v H1 => td σ H1 fun x H2 => ty σ H2 fun y H3 => ∃ a H4, x = .ref a ∧ DPut H3 a y v H4 ∧ nn σ H4) : sDPut td ty tv ⟨nn, rr, bb, cc⟩ σ H := k
theorem r_putA {a b : Addr} {kvs : List (List Key × V)} {k : List Key} {v : V} {R : Hp → Prop} (h : H a = some (.dT kvs)) (hb : H b = some (.tup (k.map kV))) (hl : kvs.length < sizeLine)
    (q : ∀ H', H' a = some (.dT (putK kvs k v)) → (∀ b o, b ≠ a → H b = some o → H' b = some o) → R H') : ∃ a' H4, V.ref a = .ref a' ∧ DPut H a' (.ref b) v H4 ∧ R H4 :=
  ⟨a, _, rfl, DPut.t h hb hl, q _ upd_same fun _ _ n e => at_wr n e⟩
theorem r_iTup {tl : TE} {R : It → Hp → Prop} (k : tl σ H fun x H1 => ∃ a, x = .ref a ∧ (∃ xs, SqT K H1 a xs) ∧ R (Itt K a) H1) : iTup K tl σ H R := k
def rListDT : List V → Hp → VK → Prop := fun xs H Q => ∃ d kvs, xs = [V.ref d] ∧ L2.Rd H d (.dT kvs) ∧ ∀ p bs, H p = none → IsKeys H kvs bs → Q (.ref p) (upd H p (.lst (bs.map V.ref)))
theorem kc_listDT {X : Cx} (hc : X.calm = true) : CallR X (.type "list") rListDT := call_list_dT hc
theorem r_listDT {d : Addr} {kvs : List (List Key × V)} (h : H d = some (.dT kvs)) (k : ∀ p bs, H p = none → IsKeys H kvs bs → Q (.ref p) (upd H p (.lst (bs.map V.ref)))) : rListDT [.ref d] H Q := ⟨d, kvs, rfl, .inl h, k⟩
theorem r_while {c : TT} {tb : TS} (W : Nat → L2.St → Hp → Prop) (m0 : Nat) (h0 : W m0 σ H)
    (hs : ∀ m σ H, W m σ H → c σ H fun b H1 => if b = true then ∃ N : L2.St → Hp → Prop, (∀ σ' H', N σ' H' → ∃ m', m' < m ∧ W m' σ' H') ∧ tb ⟨N, rr, nn, N⟩ σ H1 else nn σ H1) : tWhile c tb ⟨nn, rr, bb, cc⟩ σ H := ⟨W, ⟨m0, h0⟩, hs⟩
theorem kc_sorted {X : Cx} (h : X.K = K) : CallR X (.builtin "sorted") (rSorted K) := by subst h; exact cr_sorted
theorem r_sorted {a : Addr} {ns : List Int} (h : SqL K H a (ns.map V.int)) (hl : ns.length < 64) (k : ∀ (ns' : List Int) (p : Addr), ns'.Perm ns → ns'.Pairwise (· ≤ ·) → H p = none → Q (.ref p) (upd H p (.lst (ns'.map V.int)))) : rSorted K [.ref a] H Q := ⟨a, ns, rfl, h, hl, k⟩
/-- t + u, two tuples that aren't empty -/
theorem r_addT {a b : Addr} {xs ys : List V} (h1 : H a = some (.tup xs)) (h2 : H b = some (.tup ys)) (n1 : xs ≠ []) (n2 : ys ≠ []) (hl : xs.length + ys.length ≤ sizeLine) (k : ∀ p, H p = none → Q (.ref p) (upd H p (.tup (xs ++ ys)))) : rAddA K (.ref a) (.ref b) H Q :=
  .inr (.inr (.inr ⟨a, b, xs, ys, rfl, rfl, SqT.of h1, SqT.of h2, hl, fun e => absurd e n1, fun _ e => absurd e n2, fun _ _ => k⟩))
end
end Rd

namespace Rd
open PySem L2
section
variable {P : Program} {w : World} {K : PySem.W.Frag} {mg : Str → Option Value} {base : Heap}
def spStart (K : PySem.W.Frag) : Sp := fun vs H Q _ => ∃ (a : Addr) (ns : List Int), vs = [.ref a] ∧ SqL K H a (ns.map V.int) ∧ ∀ st H', H st = none → Same H H' → St H' st a → Q (.ref st) H'
theorem spStart_i {a : Addr} {ns : List Int} {H : Hp} {Q : VK} {E : XK} (hS : SqL K H a (ns.map V.int)) (k : ∀ st H', H st = none → Same H H' → St H' st a → Q (.ref st) H') : spStart K [.ref a] H Q E := ⟨a, ns, rfl, hS, k⟩
def spLaw (K : PySem.W.Frag) : Sp := fun vs H Q _ => ∃ (a : Addr) (ns : List Int), vs = [.ref a] ∧ SqL K H a (ns.map V.int) ∧ ns.length ≤ 63 ∧ ∀ H', Q (.bl true) H'
theorem ok_law_start (F : FunAt K mg "_law_start" s_law_start) : Has P w K mg base CX0 1 "_law_start" (spStart K) := by
  refine F.ok sc_law_start bo_law_start (fun vs H Q E h => ?_) (fun f cdv A outer s H vs Q E hr h => ?_)
  · obtain ⟨a, ns, rfl, _⟩ := h
    rfl
  · obtain ⟨a, ns, rfl, hS, k⟩ := h
    refine ⟨_, (pss_cons (ps_set (i := 1) sc_law_start.nd rfl (by first | exact Or.inl rfl | exact Or.inr rfl) pe_int)
 (pss_cons (ps_for PassesOwn.never rfl (kpi_list (K := K) rfl (pv 0)) (pg_name (i := 2) sc_law_start.nd rfl (by first | exact Or.inl rfl | exact Or.inr rfl)) (pss_one (ps_set (i := 1) sc_law_start.nd rfl (by first | exact Or.inl rfl | exact Or.inr rfl) (pe_op op_mod (pe_op (kop_add (K := K) rfl) (pe_op (kop_add (K := K) rfl) (pe_op op_mul (pv 1) pe_int) (pv 2)) pe_int) pe_int))))
 (pss_one (ps_ret (pe_lst (pa_cons (pv 0) (pa_cons pe_int (pa_cons (pv 1) (pa_cons pe_int pa_nil))))))))), ?_⟩
    refine r_start (σ' := [some (.ref a), none, none]) rfl ?_
    walk_at "go"
    refine ⟨_, rfl, ⟨_, hS⟩, fw_list (K := K) (a := a) (xs := ns.map V.int) (fun i σ H2 => H2 = H ∧ ∃ m v, σ = [some (.ref a), some (.int m), v] ∧ 0 ≤ m ∧ m < 2147483647) ⟨rfl, 1, none, rfl, by decide, by decide⟩ (fun i σ H2 _ h => h.1 ▸ hS) ?_ ?_⟩
    · rintro i y σ H2 hi ⟨rfl, m, v, rfl, h0, h1⟩
      obtain ⟨z, hz, rfl⟩ := map_at hi
      walk_at "go"
      refine r_I (.inl ⟨by omega, by omega⟩) ?_
      walk_at "go"
      refine r_I (by decide) ?_
      walk_at "go"
      exact ⟨rfl, _, _, rfl, Int.emod_nonneg _ (by decide), Int.emod_lt_of_pos _ (by decide)⟩
    · rintro σ H2 ⟨rfl, m, v, rfl, h0, h1⟩
      walk_at "go"
      intro p np
      walk_at "go"
      exact k p _ np (same_new np) ⟨_, _, _, upd_same, by omega, h0, h1, by omega⟩
def spDrawn (K : PySem.W.Frag) : Sp := fun vs H Q _ => ∃ (st a : Addr) (ns : List Int) (many : Int), vs = [.ref st, .int many] ∧ St H st a ∧ SqL K H a (ns.map V.int) ∧ 0 < many ∧ many.natAbs < 2 ^ 200 ∧
  ∀ (v : Int) (H' : Hp), 0 ≤ v → v < many → St H' st a → Fr H H' → Q (.int v) H'
theorem spDrawn_i {st a : Addr} {ns : List Int} {many : Int} {H : Hp} {Q : VK} {E : XK} (s : St H st a) (hS : SqL K H a (ns.map V.int)) (h0 : 0 < many) (h1 : many.natAbs < 2 ^ 200)
    (k : ∀ (v : Int) (H' : Hp), 0 ≤ v → v < many → St H' st a → Fr H H' → Q (.int v) H') : spDrawn K [.ref st, .int many] H Q E := ⟨st, a, ns, many, rfl, s, hS, h0, h1, k⟩
theorem ok_law_drawn (B : Bl mg) (F : FunAt K mg "_law_drawn" s_law_drawn) : Has P w K mg base CX0 1 "_law_drawn" (spDrawn K) := by
  refine F.ok sc_law_drawn bo_law_drawn (fun vs H Q E h => ?_) (fun f cdv A outer s H vs Q E hr h => ?_)
  · obtain ⟨st, a, ns, many, rfl, _⟩ := h
    rfl
  · obtain ⟨st, a, ns, many, rfl, hs, hS, h0, h1, k⟩ := h
    obtain ⟨i, m, r, hst, hi, hm0, hm1, hr0⟩ := hs.ex
    have wd : CDivW 0 many := wide_div h0 h1 (by decide) (by decide)
    refine ⟨_, (pss_cons (ps_if (pt_cmpR op_gt (pe_ix (kix (K := K) rfl) (pv 0) pe_int (fun _ _ => rfl)) pe_int (nomark _)) (pss_cons (ps_set (i := 2) sc_law_drawn.nd rfl (by first | exact Or.inl rfl | exact Or.inr rfl) (pe_op op_mod (pe_ix (kix (K := K) rfl) (pv 0) pe_int (fun _ _ => rfl)) (pv 1)))
 (pss_cons (ps_asg (pe_op op_fdivW (pe_ix (kix (K := K) rfl) (pv 0) pe_int (fun _ _ => rfl)) (pv 1)) (pg_sub (pv 0) pe_int set_list))
 (pss_one (ps_ret (pv 2))))) pss_nil)
 (pss_cons (ps_asg (pe_op (kop_add (K := K) rfl) (pe_ix (kix (K := K) rfl) (pv 0) pe_int (fun _ _ => rfl)) pe_int) (pg_sub (pv 0) pe_int set_list))
 (pss_cons (ps_if (pt_cmpR op_le (pe_ix (kix (K := K) rfl) (pv 0) pe_int (fun _ _ => rfl)) (pe_callB (kc_len (K := K) rfl) rfl B.len (by decide +kernel) (pa_cons (pe_ix (kix (K := K) rfl) (pv 0) pe_int (fun _ _ => rfl)) pa_nil)) (nomark _)) (pss_cons (ps_set (i := 3) sc_law_drawn.nd rfl (by first | exact Or.inl rfl | exact Or.inr rfl) (pe_ix (kix (K := K) rfl) (pe_ix (kix (K := K) rfl) (pv 0) pe_int (fun _ _ => rfl)) (pe_op op_sub (pe_ix (kix (K := K) rfl) (pv 0) pe_int (fun _ _ => rfl)) pe_int) (fun _ _ => rfl)))
 (pss_cons (ps_asg (pe_ifExp (pt_cmpR op_ge (pv 3) (pe_op op_pow pe_int pe_int) (nomark _)) (pe_op op_fdivW (pv 3) (pv 1)) pe_int) (pg_sub (pv 0) pe_int set_list))
 (pss_one (ps_ret (pe_op op_mod (pv 3) (pv 1)))))) pss_nil)
 (pss_cons (ps_asg (pe_op op_mod (pe_op (kop_add (K := K) rfl) (pe_op op_mul (pe_ix (kix (K := K) rfl) (pv 0) pe_int (fun _ _ => rfl)) pe_int) pe_int) pe_int) (pg_sub (pv 0) pe_int set_list))
 (pss_one (ps_ret (pe_op op_mod (pe_op op_fdivW (pe_ix (kix (K := K) rfl) (pv 0) pe_int (fun _ _ => rfl)) pe_int) (pv 1)))))))), ?_⟩
    refine r_start (σ' := [some (.ref st), some (.int many), none, none]) rfl ?_
    have wr : ∀ {H1 H2 : Hp} {i m r : Int}, H1 st = some (.lst [.ref a, .int i, .int m, .int r]) → (∀ b o, b ≠ st → H1 b = some o → H2 b = some o) → Fr H1 H2 := fun e w b o q n => w b o (fun z => by subst z; rw [e] at q; cases q; exact n _ _ _ _ rfl) q
    walk_at "go"
    refine iteD (fun hp => ?_) (fun hp => ?_)
    · walk_at "go"
      refine r_I h0 ?_
      walk_at "go"
      refine r_I (show CDivW r many from wd) ?_
      walk_at "go"
      refine r_setA (j := 3) hst rfl rfl fun H1 e1 w1 => ?_
      walk_at "go"
      exact k _ _ (Int.emod_nonneg _ (by omega)) (Int.emod_lt_of_pos _ h0) ⟨_, _, _, e1, hi, hm0, hm1, Int.ediv_nonneg hr0 (by omega)⟩ (wr hst w1)
    · walk_at "go"
      refine r_setA (j := 1) hst rfl rfl fun H1 hst1 w1 => ?_
      have R1 := wr hst w1
      have hS1 := fr_sq R1 hS
      walk_at "go"
      rw [List.length_map]
      refine iteD (fun hl => ?_) (fun hl => ?_)
      · walk_at "go"
        have hlt : i.toNat < ns.length := by omega
        refine r_ix (.inl hS1) (at_of (j := i.toNat) (by omega) (by rw [List.getElem?_map, List.getElem?_eq_getElem hlt]; rfl)) ?_
        walk_at "go"
        have fin : ∀ (r' : Int) (H2 : Hp), 0 ≤ r' → H2 st = some (.lst [.ref a, .int (i + 1), .int m, .int r']) → (∀ b o, b ≠ st → H1 b = some o → H2 b = some o) → Q (.int (ns[i.toNat] % many)) H2 := fun r' H2 hr' e2 w2 =>
          k _ _ (Int.emod_nonneg _ (by omega)) (Int.emod_lt_of_pos _ h0) ⟨_, _, _, e2, by omega, hm0, hm1, hr'⟩ (R1.trans (wr hst1 w2))
        refine iteD (fun hc => ?_) (fun hc => ?_)
        · walk_at "go"
          refine r_I (show CDivW _ many from wd) ?_
          walk_at "go"
          refine r_setA (j := 3) hst1 rfl rfl fun H2 e2 w2 => ?_
          walk_at "go"
          refine r_I h0 ?_
          walk_at "go"
          refine fin _ H2 (Int.ediv_nonneg ?_ (by omega)) e2 w2
          have : (0 : Int) ≤ 10 ^ (18 : Int).toNat := by decide
          omega
        · walk_at "go"
          refine r_setA (j := 3) hst1 rfl rfl fun H2 e2 w2 => ?_
          walk_at "go"
          refine r_I h0 ?_
          walk_at "go"
          exact fin 0 H2 (by omega) e2 w2
      · walk_at "go"
        refine r_I (.inl ⟨by omega, by omega⟩) ?_
        walk_at "go"
        refine r_I (by decide) ?_
        walk_at "go"
        refine r_setA (j := 2) hst1 rfl rfl fun H2 e2 w2 => ?_
        walk_at "go"
        refine r_I ⟨by decide, by decide +kernel⟩ ?_
        walk_at "go"
        refine r_I h0 ?_
        walk_at "go"
        exact k _ _ (Int.emod_nonneg _ (by omega)) (Int.emod_lt_of_pos _ h0) ⟨_, _, _, e2, by omega, Int.emod_nonneg _ (by decide), Int.emod_lt_of_pos _ (by decide), hr0⟩ (R1.trans (wr hst1 w2))
end
end Rd

namespace Rd
open PySem L2
section
variable {P : Program} {w : World} {K : PySem.W.Frag} {mg : Str → Option Value} {base : Heap}
theorem e6 : (10 : Int) ^ (6 : Int).toNat = 1000000 := by decide
theorem e29 : (10 : Int) ^ (29 : Int).toNat = 100000000000000000000000000000 := by decide
theorem small200 {m : Int} (h0 : 0 ≤ m) (h1 : m ≤ 1000000000000000000000000000000) : m.natAbs < 2 ^ 200 := by omega
def spGear (K : PySem.W.Frag) : Sp := fun vs H Q _ => ∃ (st a : Addr) (ns : List Int) (b : Bool), vs = [.ref st, .bl b] ∧ St H st a ∧ SqL K H a (ns.map V.int) ∧
  ∀ (g : Addr) (r p : Int) (H' : Hp), 2 ≤ r → r ≤ 1000000 → 0 ≤ p → p ≤ 1000000 → (b = true → r ≤ 8 ∧ p ≤ 4) → St H' st a → Fr H H' → H' g = some (.tup [.int r, .int p]) → Q (.ref g) H'
theorem spGear_i {st a : Addr} {ns : List Int} {b : Bool} {H : Hp} {Q : VK} {E : XK} (s : St H st a) (hS : SqL K H a (ns.map V.int))
    (k : ∀ (g : Addr) (r p : Int) (H' : Hp), 2 ≤ r → r ≤ 1000000 → 0 ≤ p → p ≤ 1000000 → (b = true → r ≤ 8 ∧ p ≤ 4) → St H' st a → Fr H H' → H' g = some (.tup [.int r, .int p]) → Q (.ref g) H') : spGear K [.ref st, .bl b] H Q E := ⟨st, a, ns, b, rfl, s, hS, k⟩
theorem ok_law_gear (B : Bl mg) (F : FunAt K mg "_law_gear" s_law_gear) (H_law_drawn : Has P w K mg base CX0 1 "_law_drawn" (spDrawn K)) : Has P w K mg base CX0 2 "_law_gear" (spGear K) := by
  refine F.ok sc_law_gear bo_law_gear (fun vs H Q E h => ?_) (fun f cdv A outer s H vs Q E hr h => ?_)
  · obtain ⟨st, a, ns, b, rfl, _⟩ := h
    rfl
  · obtain ⟨st, a, ns, b, rfl, hs, hS, k⟩ := h
    refine ⟨_, (pss_cons (ps_set (i := 2) sc_law_gear.nd rfl (by first | exact Or.inl rfl | exact Or.inr rfl) (pe_ix (kix (K := K) rfl) (pe_lst (pa_cons pe_int (pa_cons pe_int pa_nil))) (pe_callTy call_intA rfl B.int (by decide +kernel) (pa_cons (pv 1) pa_nil)) (fun _ _ => rfl)))
 (pss_cons (ps_set (i := 3) sc_law_gear.nd rfl (by first | exact Or.inl rfl | exact Or.inr rfl) (pe_op (kop_add (K := K) rfl) pe_int (pe_has H_law_drawn hr (by omega) rfl pass0 (pa_cons (pv 0) (pa_cons (pe_ix (kix (K := K) rfl) (pe_lst (pa_cons pe_int (pa_cons pe_int (pa_cons pe_int (pa_cons (pe_op op_sub (pe_op op_pow pe_int pe_int) pe_int) pa_nil))))) (pe_has H_law_drawn hr (by omega) rfl pass0 (pa_cons (pv 0) (pa_cons (pv 2) pa_nil))) (fun _ _ => rfl)) pa_nil)))))
 (pss_cons (ps_set (i := 4) sc_law_gear.nd rfl (by first | exact Or.inl rfl | exact Or.inr rfl) (pe_lst (pa_cons pe_int (pa_cons (pe_has H_law_drawn hr (by omega) rfl pass0 (pa_cons (pv 0) (pa_cons pe_int pa_nil))) (pa_cons (pe_has H_law_drawn hr (by omega) rfl pass0 (pa_cons (pv 0) (pa_cons (pe_ix (kix (K := K) rfl) (pe_lst (pa_cons pe_int (pa_cons pe_int (pa_cons pe_int (pa_cons (pe_op (kop_add (K := K) rfl) (pe_op op_pow pe_int pe_int) pe_int) pa_nil))))) (pe_has H_law_drawn hr (by omega) rfl pass0 (pa_cons (pv 0) (pa_cons (pv 2) pa_nil))) (fun _ _ => rfl)) pa_nil))) pa_nil)))))
 (pss_one (ps_ret (pe_tup (pa_cons (pv 3) (pa_cons (pe_ix (kix (K := K) rfl) (pv 4) (pe_has H_law_drawn hr (by omega) rfl pass0 (pa_cons (pv 0) (pa_cons pe_int pa_nil))) (fun _ _ => rfl)) pa_nil)))))))), ?_⟩
    refine r_start (σ' := [some (.ref st), some (.bl b), none, none, none]) rfl ?_
    walk_at "go"
    intro p1 n1
    walk_at "go"
    -- sorts
    obtain ⟨so, eso, hso⟩ : ∃ so : Int, atI [V.int 4, V.int 2] (if b = true then 1 else 0) = some (.int so) ∧ (so = 4 ∧ b = false ∨ so = 2 ∧ b = true) := by
      cases b
      · exact ⟨4, rfl, .inl ⟨rfl, rfl⟩⟩
      · exact ⟨2, rfl, .inr ⟨rfl, rfl⟩⟩
    refine r_ix (by walk_at "sq") eso ?_
    walk_at "go"
    -- around
    intro p2 n2
    walk_at "go"
    refine spDrawn_i (by walk_at "ss") (by walk_at "sq") (by omega) (small200 (by omega) (by omega)) fun v1 H1 a1 b1 s1 R1 => ?_
    walk_at "go"
    obtain ⟨w1, ew1, hw1⟩ := pick4 7 7 60 (10 ^ (6 : Int).toNat - 1) a1 (by omega)
    rw [e6] at hw1
    refine r_ix (by walk_at "sq") ew1 ?_
    walk_at "go"
    refine spDrawn_i s1 (by walk_at "sq") (by omega) (small200 (by omega) (by omega)) fun v2 H2 a2 b2 s2 R2 => ?_
    walk_at "go"
    refine spDrawn_i s2 (by walk_at "sq") (by omega) (by decide) fun v3 H3 a3 b3 s3 R3 => ?_
    walk_at "go"
    intro p4 n4
    walk_at "go"
    refine spDrawn_i (by walk_at "ss") (by walk_at "sq") (by omega) (small200 (by omega) (by omega)) fun v4 H4 a4 b4 s4 R4 => ?_
    walk_at "go"
    obtain ⟨w2, ew2, hw2⟩ := pick4 5 5 60 (10 ^ (6 : Int).toNat + 1) a4 (by omega)
    rw [e6] at hw2
    refine r_ix (by walk_at "sq") ew2 ?_
    walk_at "go"
    refine spDrawn_i s4 (by walk_at "sq") (by omega) (small200 (by omega) (by omega)) fun v5 H5 a5 b5 s5 R5 => ?_
    walk_at "go"
    intro p6 n6
    walk_at "go"
    refine spDrawn_i (by walk_at "ss") (by walk_at "sq") (by omega) (by decide) fun v6 H6 a6 b6 s6 R6 => ?_
    obtain ⟨pl, epl, mpl⟩ := pick3 0 v3 v5 a6 (by omega)
    refine r_ix (by walk_at "sq") epl ?_
    walk_at "go"
    intro g ng
    walk_at "go"
    refine k g _ _ _ (by omega) (by omega) (by omega) (by omega) (fun hb => ?_) (by walk_at "ss") (by walk_at "fr") upd_same
    rcases hso with ⟨_, q⟩ | ⟨q, _⟩
    · rw [q] at hb
      cases hb
    · omega
def spStanding (K : PySem.W.Frag) : Sp := fun vs H Q _ => ∃ (st a : Addr) (ns : List Int) (g : Addr) (r p : Int), vs = [.ref st, .ref g] ∧ St H st a ∧ SqL K H a (ns.map V.int) ∧ H g = some (.tup [.int r, .int p]) ∧ 0 ≤ p ∧ p ≤ 1000000 ∧
  ∀ (z : Addr) (m s : Int) (H' : Hp), m - p ≤ s → s ≤ m → -100000000000000000000000000000 ≤ m → m ≤ 100000000000000000000000000000 → St H' st a → Fr H H' → H' z = some (.tup [.int m, .int s]) → Q (.ref z) H'
theorem spStanding_i {st a g : Addr} {ns : List Int} {r p : Int} {H : Hp} {Q : VK} {E : XK} (s : St H st a) (hS : SqL K H a (ns.map V.int)) (hg : H g = some (.tup [.int r, .int p])) (h0 : 0 ≤ p) (h1 : p ≤ 1000000)
    (k : ∀ (z : Addr) (m s : Int) (H' : Hp), m - p ≤ s → s ≤ m → -100000000000000000000000000000 ≤ m → m ≤ 100000000000000000000000000000 → St H' st a → Fr H H' → H' z = some (.tup [.int m, .int s]) → Q (.ref z) H') : spStanding K [.ref st, .ref g] H Q E := ⟨st, a, ns, g, r, p, rfl, s, hS, hg, h0, h1, k⟩
theorem ok_law_standing (B : Bl mg) (F : FunAt K mg "_law_standing" s_law_standing) (H_law_drawn : Has P w K mg base CX0 1 "_law_drawn" (spDrawn K)) : Has P w K mg base CX0 2 "_law_standing" (spStanding K) := by
  refine F.ok sc_law_standing bo_law_standing (fun vs H Q E h => ?_) (fun f cdv A outer s H vs Q E hr h => ?_)
  · obtain ⟨st, a, ns, g, r, p, rfl, _⟩ := h
    rfl
  · obtain ⟨st, a, ns, g, r, p, rfl, hs, hS, hg, hp0, hp1, k⟩ := h
    refine ⟨_, (pss_cons (ps_set (i := 2) sc_law_standing.nd rfl (by first | exact Or.inl rfl | exact Or.inr rfl) (pe_ix (kix (K := K) rfl) (pe_lst (pa_cons pe_int (pa_cons pe_int (pa_cons (pe_op op_pow pe_int pe_int) pa_nil)))) (pe_has H_law_drawn hr (by omega) rfl pass0 (pa_cons (pv 0) (pa_cons pe_int pa_nil))) (fun _ _ => rfl)))
 (pss_cons (ps_set (i := 3) sc_law_standing.nd rfl (by first | exact Or.inl rfl | exact Or.inr rfl) (pe_op op_sub (pe_has H_law_drawn hr (by omega) rfl pass0 (pa_cons (pv 0) (pa_cons (pv 2) pa_nil))) (pe_op op_mul (pe_has H_law_drawn hr (by omega) rfl pass0 (pa_cons (pv 0) (pa_cons pe_int pa_nil))) (pv 2))))
 (pss_one (ps_ret (pe_tup (pa_cons (pv 3) (pa_cons (pe_op op_sub (pv 3) (pe_ix (kix (K := K) rfl) (pe_lst (pa_cons pe_int (pa_cons (pe_ix (kix (K := K) rfl) (pv 1) pe_int (fun _ _ => rfl)) (pa_cons (pe_has H_law_drawn hr (by omega) rfl pass0 (pa_cons (pv 0) (pa_cons (pe_op (kop_add (K := K) rfl) (pe_ix (kix (K := K) rfl) (pv 1) pe_int (fun _ _ => rfl)) pe_int) pa_nil))) pa_nil)))) (pe_has H_law_drawn hr (by omega) rfl pass0 (pa_cons (pv 0) (pa_cons pe_int pa_nil))) (fun _ _ => rfl))) pa_nil))))))), ?_⟩
    refine r_start (σ' := [some (.ref st), some (.ref g), none, none]) rfl ?_
    walk_at "go"
    intro p1 n1
    walk_at "go"
    refine spDrawn_i (by walk_at "ss") (by walk_at "sq") (by omega) (by decide) fun v1 H1 a1 b1 s1 R1 => ?_
    obtain ⟨far, e1, m1⟩ := pick3 10 1000 (10 ^ (29 : Int).toNat) a1 (by omega)
    rw [e29] at m1
    refine r_ix (by walk_at "sq") e1 ?_
    walk_at "go"
    refine spDrawn_i s1 (by walk_at "sq") (by omega) (small200 (by omega) (by omega)) fun v2 H2 a2 b2 s2 R2 => ?_
    walk_at "go"
    refine spDrawn_i s2 (by walk_at "sq") (by omega) (by decide) fun v3 H3 a3 b3 s3 R3 => ?_
    walk_at "go"
    refine r_I (.inl ⟨by omega, by omega⟩) ?_
    walk_at "go"
    refine spDrawn_i s3 (by walk_at "sq") (by omega) (small200 (by omega) (by omega)) fun v4 H4 a4 b4 s4 R4 => ?_
    walk_at "go"
    intro p5 n5
    walk_at "go"
    refine spDrawn_i (by walk_at "ss") (by walk_at "sq") (by omega) (by decide) fun v5 H5 a5 b5 s5 R5 => ?_
    obtain ⟨o, e5, m5⟩ := pick3 0 p v4 a5 (by omega)
    refine r_ix (by walk_at "sq") e5 ?_
    walk_at "go"
    intro z nz
    walk_at "go"
    have hv : 0 ≤ v3 * far ∧ v3 * far ≤ far := by
      have : v3 = 0 ∨ v3 = 1 := by omega
      rcases this with rfl | rfl <;> omega
    exact k z _ _ _ (by omega) (by omega) (by omega) (by omega) (by walk_at "ss") (by walk_at "fr") upd_same
def spMoves (K : PySem.W.Frag) : Sp := fun vs H Q _ => ∃ (st a : Addr) (ns : List Int) (g : Addr) (r p most : Int), vs = [.ref st, .ref g, .int most] ∧ St H st a ∧ SqL K H a (ns.map V.int) ∧ H g = some (.tup [.int r, .int p]) ∧ 0 < r ∧ r ≤ 1000000 ∧ 0 ≤ p ∧ p ≤ 1000000 ∧ 0 ≤ most ∧ most ≤ 1000 ∧
  ∀ (l : Addr) (ms : List Int) (H' : Hp), ms.length ≤ most.toNat → (∀ m ∈ ms, -100000000000000000000000000000 ≤ m ∧ m ≤ 100000000000000000000000000000) → St H' st a → Fr H H' → H' l = some (.lst (ms.map V.int)) → Q (.ref l) H'
theorem spMoves_i {st a g : Addr} {ns : List Int} {r p most : Int} {H : Hp} {Q : VK} {E : XK} (s : St H st a) (hS : SqL K H a (ns.map V.int)) (hg : H g = some (.tup [.int r, .int p])) (r0 : 0 < r) (r1 : r ≤ 1000000) (h0 : 0 ≤ p) (h1 : p ≤ 1000000) (m0 : 0 ≤ most) (m1 : most ≤ 1000)
    (k : ∀ (l : Addr) (ms : List Int) (H' : Hp), ms.length ≤ most.toNat → (∀ m ∈ ms, -100000000000000000000000000000 ≤ m ∧ m ≤ 100000000000000000000000000000) → St H' st a → Fr H H' → H' l = some (.lst (ms.map V.int)) → Q (.ref l) H') : spMoves K [.ref st, .ref g, .int most] H Q E := ⟨st, a, ns, g, r, p, most, rfl, s, hS, hg, r0, r1, h0, h1, m0, m1, k⟩
theorem ok_law_moves (B : Bl mg) (F : FunAt K mg "_law_moves" s_law_moves) (H_law_drawn : Has P w K mg base CX0 1 "_law_drawn" (spDrawn K)) : Has P w K mg base CX0 2 "_law_moves" (spMoves K) := by
  refine F.ok sc_law_moves bo_law_moves (fun vs H Q E h => ?_) (fun f cdv A outer s H vs Q E hr h => ?_)
  · obtain ⟨st, a, ns, g, r, p, most, rfl, _⟩ := h
    rfl
  · obtain ⟨st, a, ns, g, r, p, most, rfl, hs, hS, hg, hr0, hr1, hp0, hp1, hm0, hm1, k⟩ := h
    refine ⟨_, (pss_cons (ps_set (i := 3) sc_law_moves.nd rfl (by first | exact Or.inl rfl | exact Or.inr rfl) (pe_lst pa_nil))
 (pss_cons (ps_for PassesOwn.never rfl (pi_range1 rfl B.range (pa_cons (pe_has H_law_drawn hr (by omega) rfl pass0 (pa_cons (pv 0) (pa_cons (pe_op (kop_add (K := K) rfl) (pv 2) pe_int) pa_nil))) pa_nil)) (pg_name (i := 4) sc_law_moves.nd rfl (by first | exact Or.inl rfl | exact Or.inr rfl)) (pss_cons (ps_set (i := 5) sc_law_moves.nd rfl (by first | exact Or.inl rfl | exact Or.inr rfl) (pe_lst (pa_cons (pe_has H_law_drawn hr (by omega) rfl pass0 (pa_cons (pv 0) (pa_cons pe_int pa_nil))) (pa_cons (pe_has H_law_drawn hr (by omega) rfl pass0 (pa_cons (pv 0) (pa_cons (pe_op (kop_add (K := K) rfl) (pe_ix (kix (K := K) rfl) (pv 1) pe_int (fun _ _ => rfl)) pe_int) pa_nil))) (pa_cons (pe_has H_law_drawn hr (by omega) rfl pass0 (pa_cons (pv 0) (pa_cons (pe_op op_mul pe_int (pe_ix (kix (K := K) rfl) (pv 1) pe_int (fun _ _ => rfl))) pa_nil))) pa_nil)))))
 (pss_cons (ps_set (i := 5) sc_law_moves.nd rfl (by first | exact Or.inl rfl | exact Or.inr rfl) (pe_ix (kix (K := K) rfl) (pv 5) (pe_has H_law_drawn hr (by omega) rfl pass0 (pa_cons (pv 0) (pa_cons pe_int pa_nil))) (fun _ _ => rfl)))
 (pss_cut (ps_if (pt_cmpR (kop_eq (K := K) rfl hr.units) (pe_has H_law_drawn hr (by omega) rfl pass0 (pa_cons (pv 0) (pa_cons pe_int pa_nil))) pe_int (nomark _)) (pss_one (ps_set (i := 5) sc_law_moves.nd rfl (by first | exact Or.inl rfl | exact Or.inr rfl) (pe_has H_law_drawn hr (by omega) rfl pass0 (pa_cons (pv 0) (pa_cons (pe_op op_pow pe_int pe_int) pa_nil))))) pss_nil)
 (pss_one (ps_expr (kpe_bm (K := K) rfl PySem.F.plainAttrs_list PySem.F.slot_list_append PySem.F.type_list_append mt_append (pv 3) (pa_cons (pe_ix (kix (K := K) rfl) (pe_lst (pa_cons (pv 5) (pa_cons (pe_op op_sub pe_int (pv 5)) pa_nil))) (pe_has H_law_drawn hr (by omega) rfl pass0 (pa_cons (pv 0) (pa_cons pe_int pa_nil))) (fun _ _ => rfl)) pa_nil))))))))
 (pss_one (ps_ret (pv 3))))), ?_⟩
    refine r_start (σ' := [some (.ref st), some (.ref g), some (.int most), none, none, none]) rfl ?_
    walk_at "go"
    intro l nl
    walk_at "go"
    refine spDrawn_i (by walk_at "ss") (by walk_at "sq") (by omega) (small200 (by omega) (by omega)) fun n H0 a0 b0 s0 R0 => ?_
    have f0 : Fr H H0 := by walk_at "fr"
    refine ⟨_, rfl, by omega, by omega, fw_range (fun i σ H2 => ∃ (ms : List Int) (u v : Option V), σ = [some (.ref st), some (.ref g), some (.int most), some (.ref l), u, v] ∧ ms.length = i ∧ (∀ m ∈ ms, -100000000000000000000000000000 ≤ m ∧ m ≤ 100000000000000000000000000000) ∧ St H2 st a ∧ Fr H H2 ∧ H2 l = some (.lst (ms.map V.int)))
      ⟨[], none, none, rfl, rfl, by simp, s0, f0, R0 _ _ upd_same nst_nil⟩ ?_ ?_⟩
    · rintro i σ H2 hi ⟨ms, u, v, rfl, hlen, hms, s2, f2, hl⟩
      walk_at "go"
      refine spDrawn_i s2 (by walk_at "sq") (by omega) (by decide) fun v1 H3 a1 b1 s3 R3 => ?_
      walk_at "go"
      refine spDrawn_i s3 (by walk_at "sq") (by omega) (small200 (by omega) (by omega)) fun v2 H4 a2 b2 s4 R4 => ?_
      walk_at "go"
      refine r_I (.inl ⟨by omega, by omega⟩) ?_
      walk_at "go"
      refine spDrawn_i s4 (by walk_at "sq") (by omega) (small200 (by omega) (by omega)) fun v3 H5 a3 b3 s5 R5 => ?_
      walk_at "go"
      intro p6 n6
      walk_at "go"
      refine spDrawn_i (by walk_at "ss") (by walk_at "sq") (by omega) (by decide) fun v6 H6 a6 b6 s6 R6 => ?_
      obtain ⟨sz, e6, m6⟩ := pick3 v1 v2 v3 a6 (by omega)
      refine r_ix (by walk_at "sq") e6 ?_
      walk_at "go"
      refine r_cut (fun σ' H' => ∃ sz' : Int, σ' = [some (.ref st), some (.ref g), some (.int most), some (.ref l), some (.int (0 + i)), some (.int sz')] ∧ 0 ≤ sz' ∧ sz' ≤ 100000000000000000000000000000 ∧ St H' st a ∧ Fr H H' ∧ H' l = some (.lst (ms.map V.int))) ?_ ?_
      · walk_at "go"
        refine spDrawn_i s6 (by walk_at "sq") (by omega) (by decide) fun v7 H7 a7 b7 s7 R7 => ?_
        walk_at "go"
        refine iteD (fun _ => ?_) (fun _ => ?_)
        · walk_at "go"
          refine spDrawn_i s7 (by walk_at "sq") (by rw [e29]; omega) (by rw [e29]; decide) fun v8 H8 a8 b8 s8 R8 => ?_
          rw [e29] at b8
          walk_at "go"
          exact ⟨v8, rfl, by omega, by omega, s8, by walk_at "fr", by walk_at "hp"⟩
        · walk_at "go"
          exact ⟨sz, rfl, by omega, by omega, s7, by walk_at "fr", by walk_at "hp"⟩
      · rintro σ' H9 ⟨sz', rfl, hz0, hz1, s9, f9, hl9⟩
        walk_at "go"
        refine ⟨r_tyL hl9, ?_⟩
        walk_at "go"
        intro p10 n10
        walk_at "go"
        refine spDrawn_i (by walk_at "ss") (by walk_at "sq") (by omega) (by decide) fun v11 H11 a11 b11 s11 R11 => ?_
        obtain ⟨z, e11, m11⟩ := pick2 sz' (0 - sz') a11 (by omega)
        refine r_ix (by walk_at "sq") e11 ?_
        walk_at "go"
        have hl11 : H11 l = some (.lst (ms.map V.int)) := by walk_at "hp"
        refine r_appA hl11 (by rw [List.length_map]; exact small1000 (by omega)) fun H12 e12 w12 => ?_
        walk_at "go"
        have ne : st ≠ l := s11.ne hl11 nst_ints
        obtain ⟨i', m', r', hst, q⟩ := s11.ex
        refine ⟨ms ++ [z], _, _, rfl, by simp [hlen], fun x hx => ?_, ⟨i', m', r', w12 _ _ ne hst, q⟩, fun b o e n => ?_, by rw [e12]; simp⟩
        · simp at hx
          rcases hx with hx | rfl
          · exact hms x hx
          · omega
        · have nb : b ≠ l := ne_of_none e nl
          have : Fr H H11 := by walk_at "fr"
          exact w12 _ _ nb (this _ _ e n)
    · rintro σ H2 ⟨ms, u, v, rfl, hlen, hms, s2, f2, hl⟩
      walk_at "go"
      exact k l ms H2 (by omega) hms s2 f2 hl
end
end Rd

namespace Rd
/-! ## the shaft: plain -/
/-- where the shaft stands behind k steps, as the program reckons it -/
def pb (p m s k : Int) : Int := min (m + k) (max (m + k - p) s)
/-- .. as the law does -/
def lb (p m s k : Int) : Int := if 0 < k then s + max 0 (k - (p - (m - s))) else s + min 0 (k + (m - s))
theorem lb_pb {p m s k : Int} (h0 : m - p ≤ s) (h1 : s ≤ m) : lb p m s k = pb p m s k := by
  unfold lb pb
  split <;> omega
def nx (p : Int) (z : Int × Int) (k : Int) : Int × Int := (z.1 + k, pb p z.1 z.2 k)
def pos (p : Int) (z : Int × Int) (ks : List Int) : Int × Int := ks.foldl (nx p) z
def traj (p : Int) : Int × Int → List Int → List (Int × Int)
  | _, [] => []
  | z, k :: r => nx p z k :: traj p (nx p z k) r
theorem pos_snoc (p : Int) (z : Int × Int) (ks : List Int) (k : Int) : pos p z (ks ++ [k]) = nx p (pos p z ks) k := by
  unfold pos
  rw [List.foldl_append]
  rfl
theorem pos_app (p : Int) (z : Int × Int) (ks ls : List Int) : pos p z (ks ++ ls) = pos p (pos p z ks) ls := by
  unfold pos
  rw [List.foldl_append]
theorem traj_snoc (p : Int) : ∀ (ks : List Int) (z : Int × Int) (k : Int), traj p z (ks ++ [k]) = traj p z ks ++ [nx p (pos p z ks) k]
  | [], _, _ => rfl
  | _ :: r, z, k => by
    show _ :: traj p _ (r ++ [k]) = _ :: (traj p _ r ++ _)
    rw [traj_snoc p r]
    rfl
theorem traj_len (p : Int) : ∀ (ks : List Int) (z : Int × Int), (traj p z ks).length = ks.length
  | [], _ => rfl
  | _ :: r, z => by
    show _ + 1 = _ + 1
    rw [traj_len p r]
theorem traj_last (p : Int) : ∀ (ks : List Int) (z : Int × Int), (z :: traj p z ks)[ks.length]? = some (pos p z ks)
  | [], _ => rfl
  | k :: r, z => traj_last p r (nx p z k)
/-- a standing of a gear of the play p -/
def Stg (p : Int) (z : Int × Int) : Prop := z.1 - p ≤ z.2 ∧ z.2 ≤ z.1
theorem Stg.nx {p : Int} {z : Int × Int} (h : Stg p z) (hp : 0 ≤ p) (k : Int) : Stg p (Rd.nx p z k) := by
  obtain ⟨a, b⟩ := h
  unfold Stg Rd.nx pb
  dsimp only
  omega
theorem Stg.pos {p : Int} (hp : 0 ≤ p) : ∀ {ks : List Int} {z : Int × Int}, Stg p z → Stg p (Rd.pos p z ks)
  | [], _, h => h
  | k :: r, z, h => Stg.pos hp (ks := r) (h.nx hp k)
theorem take_snoc {α : Type} {l : List α} {i : Nat} {x : α} (h : l[i]? = some x) : l.take (i + 1) = l.take i ++ [x] := by
  rw [List.take_add_one, h]
  rfl
end Rd

namespace Rd
open PySem L2
/-- tuples of two ints at the addresses as -/
def Tups (H : Hp) (as : List Addr) (xs : List (Int × Int)) : Prop := as.length = xs.length ∧ ∀ (i : Nat) (a : Addr) (x : Int × Int), as[i]? = some a → xs[i]? = some x → H a = some (.tup [.int x.1, .int x.2])
theorem Tups.nil {H : Hp} : Tups H [] [] := ⟨rfl, fun i a x h => by simp at h⟩
theorem Tups.mono {H H' : Hp} {as : List Addr} {xs : List (Int × Int)} (t : Tups H as xs) (R : ∀ b xs, H b = some (.tup xs) → H' b = some (.tup xs)) : Tups H' as xs := ⟨t.1, fun i a x h1 h2 => R _ _ (t.2 i a x h1 h2)⟩
theorem Tups.snoc {H : Hp} {as : List Addr} {xs : List (Int × Int)} {a : Addr} {x : Int × Int} (t : Tups H as xs) (h : H a = some (.tup [.int x.1, .int x.2])) : Tups H (as ++ [a]) (xs ++ [x]) := by
  refine ⟨by simp [t.1], fun i b y h1 h2 => ?_⟩
  by_cases hi : i < as.length
  · rw [List.getElem?_append_left hi] at h1
    rw [List.getElem?_append_left (by rw [← t.1]; exact hi)] at h2
    exact t.2 i b y h1 h2
  · rw [List.getElem?_append_right (by omega)] at h1
    rw [List.getElem?_append_right (by rw [← t.1]; omega)] at h2
    have e : i - as.length = 0 := by
      cases q : i - as.length with
      | zero => rfl
      | succ n => rw [q] at h1; simp at h1
    rw [e] at h1
    rw [← t.1, e] at h2
    cases h1
    cases h2
    exact h
theorem Tups.all {H : Hp} : ∀ {as : List Addr} {xs : List (Int × Int)}, Tups H as xs → IsAll H (as.map V.ref) (xs.map dPair)
  | [], [], _ => .nil
  | [], _ :: _, t => nomatch t.1
  | _ :: _, [], t => nomatch t.1
  | a :: as, x :: xs, t => .cons (Is.pair (t.2 0 a x rfl rfl)) (Tups.all ⟨Nat.succ.inj t.1, fun i b y h1 h2 => t.2 (i + 1) b y (by simpa using h1) (by simpa using h2)⟩)
section
variable {P : Program} {w : World} {K : PySem.W.Frag} {mg : Str → Option Value} {base : Heap}
/-- a gear stands at g -/
structure GearAt (H : Hp) (g : Addr) (r p : Int) : Prop where
  at_ : H g = some (.tup [.int r, .int p])
  r2 : 2 ≤ r
  r6 : r ≤ 1000000
  p0 : 0 ≤ p
  p6 : p ≤ 1000000
theorem GearAt.mono {H H' : Hp} {g : Addr} {r p : Int} (G : GearAt H g r p) (h : H' g = some (.tup [.int r, .int p])) : GearAt H' g r p := ⟨h, G.r2, G.r6, G.p0, G.p6⟩
def spNG : Sp := fun vs H Q _ => ∃ (g : Addr) (r p : Int), vs = [.ref g] ∧ GearAt H g r p ∧ Q .non H
theorem spNG_i {g : Addr} {r p : Int} {H : Hp} {Q : VK} {E : XK} (G : GearAt H g r p) (k : Q .non H) : spNG [.ref g] H Q E := ⟨g, r, p, rfl, G, k⟩
theorem ok_need_gear (F : FunAt K mg "need_gear" s_need_gear) (M_MOST : Cn mg "MOST" 1000000) : Has P w K mg base CX0 1 "need_gear" spNG := by
  refine F.ok sc_need_gear bo_need_gear (fun vs H Q E h => ?_) (fun f cdv A outer s H vs Q E hr h => ?_)
  · obtain ⟨g, r, p, rfl, _⟩ := h
    rfl
  · obtain ⟨g, r, p, rfl, G, k⟩ := h
    have hg := G.at_
    have h1 := G.r2
    have h2 := G.r6
    have h3 := G.p0
    have h4 := G.p6
    refine ⟨_, (pss_cons (ps_asg (pv 0) (kpg_tup (K := K) rfl rfl (pgs_cons (pg_name (i := 1) sc_need_gear.nd rfl (by first | exact Or.inl rfl | exact Or.inr rfl)) (pgs_cons (pg_name (i := 2) sc_need_gear.nd rfl (by first | exact Or.inl rfl | exact Or.inr rfl)) pgs_nil))))
 (pss_one (ps_if (PW.pt (pw_or (pt_not (pt_chain op_le op_le pe_int (pv 1) (pe_cn M_MOST rfl))) (pw_or1 (pt_not (pt_chain op_le op_le pe_int (pv 2) (pe_cn M_MOST rfl)))))) (pss_one ps_never) pss_nil))), ?_⟩
    refine r_start (σ' := [some (.ref g), none, none]) rfl ?_
    walk_at "go"
    refine iteDT (by omega) ?_
    walk_at "go"
    refine iteNF (by omega) ?_
    walk_at "go"
    refine iteDT (by omega) ?_
    walk_at "go"
    refine iteNF (by omega) ?_
    walk_at "go"
    exact k
def spNS : Sp := fun vs H Q _ => ∃ (g : Addr) (r p : Int) (z : Addr) (x : Int × Int), vs = [.ref g, .ref z] ∧ GearAt H g r p ∧ H z = some (.tup [.int x.1, .int x.2]) ∧ Stg p x ∧ Q .non H
theorem spNS_i {g z : Addr} {r p : Int} {x : Int × Int} {H : Hp} {Q : VK} {E : XK} (G : GearAt H g r p) (hz : H z = some (.tup [.int x.1, .int x.2])) (hs : Stg p x) (k : Q .non H) : spNS [.ref g, .ref z] H Q E := ⟨g, r, p, z, x, rfl, G, hz, hs, k⟩
theorem ok_need_standing (F : FunAt K mg "need_standing" s_need_standing) (H_need_gear : Has P w K mg base CX0 1 "need_gear" spNG) : Has P w K mg base CX0 2 "need_standing" spNS := by
  refine F.ok sc_need_standing bo_need_standing (fun vs H Q E h => ?_) (fun f cdv A outer s H vs Q E hr h => ?_)
  · obtain ⟨g, r, p, z, x, rfl, _⟩ := h
    rfl
  · obtain ⟨g, r, p, z, x, rfl, G, hz, hs, k⟩ := h
    have hg := G.at_
    obtain ⟨a1, a2⟩ := hs
    refine ⟨_, (pss_cons (ps_expr (pe_has H_need_gear hr (by omega) rfl pass0 (pa_cons (pv 0) pa_nil)))
 (pss_cons (ps_asg (pv 1) (kpg_tup (K := K) rfl rfl (pgs_cons (pg_name (i := 2) sc_need_standing.nd rfl (by first | exact Or.inl rfl | exact Or.inr rfl)) (pgs_cons (pg_name (i := 3) sc_need_standing.nd rfl (by first | exact Or.inl rfl | exact Or.inr rfl)) pgs_nil))))
 (pss_one (ps_if (pt_not (pt_chain op_le op_le (pe_op op_sub (pv 2) (pe_ix (kix (K := K) rfl) (pv 0) pe_int (fun _ _ => rfl))) (pv 3) (pv 2))) (pss_one ps_never) pss_nil)))), ?_⟩
    refine r_start (σ' := [some (.ref g), some (.ref z), none, none]) rfl ?_
    walk_at "go"
    refine spNG_i G ?_
    walk_at "go"
    refine iteDT (by omega) ?_
    walk_at "go"
    refine iteNF (by omega) ?_
    walk_at "go"
    exact k
def spNM (K : PySem.W.Frag) : Sp := fun vs H Q _ => ∃ (l : Addr) (ms : List Int), vs = [.ref l] ∧ SqL K H l (ms.map V.int) ∧ ms.length ≤ 100 ∧ Q .non H
theorem spNM_i {l : Addr} {ms : List Int} {H : Hp} {Q : VK} {E : XK} (hl : SqL K H l (ms.map V.int)) (h : ms.length ≤ 100) (k : Q .non H) : spNM K [.ref l] H Q E := ⟨l, ms, rfl, hl, h, k⟩
theorem ok_need_moves (B : Bl mg) (F : FunAt K mg "need_moves" s_need_moves) (M_MOST_MOVES : Cn mg "MOST_MOVES" 100) : Has P w K mg base CX0 1 "need_moves" (spNM K) := by
  refine F.ok sc_need_moves bo_need_moves (fun vs H Q E h => ?_) (fun f cdv A outer s H vs Q E hr h => ?_)
  · obtain ⟨l, ms, rfl, _⟩ := h
    rfl
  · obtain ⟨l, ms, rfl, hl, hm, k⟩ := h
    refine ⟨_, (pss_one (ps_if (pt_cmpR op_gt (pe_callB (kc_len (K := K) rfl) rfl B.len (by decide +kernel) (pa_cons (pv 0) pa_nil)) (pe_cn M_MOST_MOVES rfl) (nomark _)) (pss_one ps_never) pss_nil)), ?_⟩
    refine r_start (σ' := [some (.ref l)]) rfl ?_
    walk_at "go"
    rw [List.length_map]
    refine iteDF (by omega) ?_
    walk_at "go"
    exact k
def spBehind : Sp := fun vs H Q _ => ∃ (g : Addr) (r p : Int) (z : Addr) (x : Int × Int) (k : Int), vs = [.ref g, .ref z, .int k] ∧ H g = some (.tup [.int r, .int p]) ∧ H z = some (.tup [.int x.1, .int x.2]) ∧
  ∀ (q : Addr) (H' : Hp), H q = none → Same H H' → H' q = some (.tup [.int (nx p x k).1, .int (nx p x k).2]) → Q (.ref q) H'
theorem spBehind_i {g z : Addr} {r p k : Int} {x : Int × Int} {H : Hp} {Q : VK} {E : XK} (hg : H g = some (.tup [.int r, .int p])) (hz : H z = some (.tup [.int x.1, .int x.2]))
    (h : ∀ (q : Addr) (H' : Hp), H q = none → Same H H' → H' q = some (.tup [.int (nx p x k).1, .int (nx p x k).2]) → Q (.ref q) H') : spBehind [.ref g, .ref z, .int k] H Q E := ⟨g, r, p, z, x, k, rfl, hg, hz, h⟩
theorem ok_behind (B : Bl mg) (F : FunAt K mg "behind" s_behind) : Has P w K mg base CX0 1 "behind" spBehind := by
  refine F.ok sc_behind bo_behind (fun vs H Q E h => ?_) (fun f cdv A outer s H vs Q E hr h => ?_)
  · obtain ⟨g, r, p, z, x, k, rfl, _⟩ := h
    rfl
  · obtain ⟨g, r, p, z, x, k, rfl, hg, hz, h⟩ := h
    refine ⟨_, (pss_cons (ps_set (i := 3) sc_behind.nd rfl (by first | exact Or.inl rfl | exact Or.inr rfl) (pe_op (kop_add (K := K) rfl) (pe_ix (kix (K := K) rfl) (pv 1) pe_int (fun _ _ => rfl)) (pv 2)))
 (pss_one (ps_ret (pe_tup (pa_cons (pv 3) (pa_cons (pe_callB (kc_min (K := K) rfl rfl) rfl B.min (by decide +kernel) (pa_cons (pv 3) (pa_cons (pe_callB (kc_max (K := K) rfl rfl) rfl B.max (by decide +kernel) (pa_cons (pe_op op_sub (pv 3) (pe_ix (kix (K := K) rfl) (pv 0) pe_int (fun _ _ => rfl))) (pa_cons (pe_ix (kix (K := K) rfl) (pv 1) pe_int (fun _ _ => rfl)) pa_nil))) pa_nil))) pa_nil)))))), ?_⟩
    refine r_start (σ' := [some (.ref g), some (.ref z), some (.int k), none]) rfl ?_
    walk_at "go"
    intro q nq
    walk_at "go"
    exact h q _ nq (same_new nq) upd_same
def spAB (K : PySem.W.Frag) : Sp := fun vs H Q _ => ∃ (g : Addr) (r p : Int) (z : Addr) (x : Int × Int) (l : Addr) (ms : List Int), vs = [.ref g, .ref z, .ref l] ∧ H g = some (.tup [.int r, .int p]) ∧ H z = some (.tup [.int x.1, .int x.2]) ∧ SqL K H l (ms.map V.int) ∧ ms.length ≤ 1000 ∧
  ∀ (q : Addr) (as : List Addr) (H' : Hp), H q = none → Same H H' → H' q = some (.lst (as.map V.ref)) → Tups H' as (traj p x ms) → Q (.ref q) H'
theorem spAB_i {g z l : Addr} {r p : Int} {x : Int × Int} {ms : List Int} {H : Hp} {Q : VK} {E : XK} (hg : H g = some (.tup [.int r, .int p])) (hz : H z = some (.tup [.int x.1, .int x.2])) (hl : SqL K H l (ms.map V.int)) (hm : ms.length ≤ 1000)
    (h : ∀ (q : Addr) (as : List Addr) (H' : Hp), H q = none → Same H H' → H' q = some (.lst (as.map V.ref)) → Tups H' as (traj p x ms) → Q (.ref q) H') : spAB K [.ref g, .ref z, .ref l] H Q E := ⟨g, r, p, z, x, l, ms, rfl, hg, hz, hl, hm, h⟩
theorem ok_all_behind (B : Bl mg) (F : FunAt K mg "all_behind" s_all_behind) (H_behind : Has P w K mg base CX0 1 "behind" spBehind) : Has P w K mg base CX0 2 "all_behind" (spAB K) := by
  refine F.ok sc_all_behind bo_all_behind (fun vs H Q E h => ?_) (fun f cdv A outer s H vs Q E hr h => ?_)
  · obtain ⟨g, r, p, z, x, l, ms, rfl, _⟩ := h
    rfl
  · obtain ⟨g, r, p, z, x, l, ms, rfl, hg, hz, hl, hm, h⟩ := h
    refine ⟨_, (pss_cons (ps_set (i := 3) sc_all_behind.nd rfl (by first | exact Or.inl rfl | exact Or.inr rfl) (pe_lst pa_nil))
 (pss_cons (ps_for PassesOwn.never rfl (kpi_list (K := K) rfl (pv 2)) (pg_name (i := 4) sc_all_behind.nd rfl (by first | exact Or.inl rfl | exact Or.inr rfl)) (pss_cons (ps_set (i := 1) sc_all_behind.nd rfl (by first | exact Or.inl rfl | exact Or.inr rfl) (pe_has H_behind hr (by omega) rfl pass0 (pa_cons (pv 0) (pa_cons (pv 1) (pa_cons (pv 4) pa_nil)))))
 (pss_one (ps_expr (kpe_bm (K := K) rfl PySem.F.plainAttrs_list PySem.F.slot_list_append PySem.F.type_list_append mt_append (pv 3) (pa_cons (pv 1) pa_nil))))))
 (pss_one (ps_ret (pv 3))))), ?_⟩
    refine r_start (σ' := [some (.ref g), some (.ref z), some (.ref l), none, none]) rfl ?_
    walk_at "go"
    intro q nq
    walk_at "go"
    refine ⟨_, rfl, ⟨_, by walk_at "sq"⟩, fw_list (K := K) (a := l) (xs := ms.map V.int) (fun i σ H2 => ∃ (z' : Addr) (as : List Addr) (v : Option V), σ = [some (.ref g), some (.ref z'), some (.ref l), some (.ref q), v] ∧ Same H H2 ∧ H2 q = some (.lst (as.map V.ref)) ∧
        H2 z' = some (.tup [.int (pos p x (ms.take i)).1, .int (pos p x (ms.take i)).2]) ∧ Tups H2 as (traj p x (ms.take i)))
      ⟨z, [], none, rfl, same_new nq, upd_same, at_new nq hz, Tups.nil⟩ (fun i σ H2 _ ⟨_, _, _, _, s2, _⟩ => s2.seq hl) ?_ ?_⟩
    · rintro i y σ H2 hi ⟨z', as, v, rfl, s2, hq, hz', ht⟩
      obtain ⟨k, hk, rfl⟩ := map_at hi
      walk_at "go"
      refine spBehind_i (by walk_at "hp") hz' fun z2 H3 nz2 s3 hz2 => ?_
      walk_at "go"
      have hq3 : H3 q = some (.lst (as.map V.ref)) := s3 _ _ hq
      refine ⟨r_tyL hq3, ?_⟩
      walk_at "go"
      have hil : i < ms.length := (List.getElem?_eq_some_iff.mp hk).1
      have hlen : as.length = i := by rw [ht.1, traj_len, List.length_take]; omega
      refine r_appA hq3 (by rw [List.length_map]; exact small1000 (by omega)) fun H4 e4 w4 => ?_
      walk_at "go"
      have keep : ∀ b xs, H3 b = some (.tup xs) → H4 b = some (.tup xs) := fun b xs e => w4 _ _ (ne_of e hq3 (fun z => nomatch z)) e
      refine ⟨z2, as ++ [z2], _, rfl, fun b o e => w4 _ _ (ne_of_none e nq) (s3 _ _ (s2 _ _ e)), by rw [e4]; simp, ?_, ?_⟩
      · rw [take_snoc hk, pos_snoc]
        exact keep _ _ hz2
      · rw [take_snoc hk, traj_snoc]
        exact ((ht.mono fun b xs e => s3 _ _ e).mono keep).snoc (keep _ _ hz2)
    · rintro σ H2 ⟨z', as, v, rfl, s2, hq, hz', ht⟩
      walk_at "go"
      rw [List.length_map, List.take_length] at ht
      exact h q as H2 nq s2 hq ht
def spStands (K : PySem.W.Frag) : Sp := fun vs H Q _ => ∃ (g : Addr) (r p : Int) (z : Addr) (x : Int × Int) (l : Addr) (ms : List Int), vs = [.ref g, .ref z, .ref l] ∧ GearAt H g r p ∧ H z = some (.tup [.int x.1, .int x.2]) ∧ Stg p x ∧ SqL K H l (ms.map V.int) ∧ ms.length ≤ 100 ∧
  ∀ (q : Addr) (H' : Hp), Same H H' → H' q = some (.tup [.int (pos p x ms).1, .int (pos p x ms).2]) → Q (.ref q) H'
theorem spStands_i {g z l : Addr} {r p : Int} {x : Int × Int} {ms : List Int} {H : Hp} {Q : VK} {E : XK} (G : GearAt H g r p) (hz : H z = some (.tup [.int x.1, .int x.2])) (hs : Stg p x) (hl : SqL K H l (ms.map V.int)) (hm : ms.length ≤ 100)
    (h : ∀ (q : Addr) (H' : Hp), Same H H' → H' q = some (.tup [.int (pos p x ms).1, .int (pos p x ms).2]) → Q (.ref q) H') : spStands K [.ref g, .ref z, .ref l] H Q E := ⟨g, r, p, z, x, l, ms, rfl, G, hz, hs, hl, hm, h⟩
theorem ok_stands (B : Bl mg) (F : FunAt K mg "stands" s_stands) (H_need_standing : Has P w K mg base CX0 2 "need_standing" spNS) (H_need_moves : Has P w K mg base CX0 1 "need_moves" (spNM K)) (H_all_behind : Has P w K mg base CX0 2 "all_behind" (spAB K)) : Has P w K mg base CX0 3 "stands" (spStands K) := by
  refine F.ok sc_stands bo_stands (fun vs H Q E h => ?_) (fun f cdv A outer s H vs Q E hr h => ?_)
  · obtain ⟨g, r, p, z, x, l, ms, rfl, _⟩ := h
    rfl
  · obtain ⟨g, r, p, z, x, l, ms, rfl, G, hz, hs, hl, hm, h⟩ := h
    have hg := G.at_
    refine ⟨_, (pss_cons (ps_expr (pe_has H_need_standing hr (by omega) rfl pass0 (pa_cons (pv 0) (pa_cons (pv 1) pa_nil))))
 (pss_cons (ps_expr (pe_has H_need_moves hr (by omega) rfl pass0 (pa_cons (pv 2) pa_nil)))
 (pss_one (ps_ret (pe_ix (kix (K := K) rfl) (pe_op (kop_add (K := K) rfl) (pe_lst (pa_cons (pe_callTy (kc_tup (K := K) rfl) rfl B.tuple (by decide +kernel) (pa_cons (pv 1) pa_nil)) pa_nil)) (pe_has H_all_behind hr (by omega) rfl pass0 (pa_cons (pv 0) (pa_cons (pv 1) (pa_cons (pv 2) pa_nil))))) (pe_un un_neg pe_int) (fun _ _ => rfl)))))), ?_⟩
    refine r_start (σ' := [some (.ref g), some (.ref z), some (.ref l)]) rfl ?_
    walk_at "go"
    refine spNS_i G hz hs ?_
    walk_at "go"
    refine spNM_i hl hm ?_
    walk_at "go"
    refine r_tupT (by walk_at "sq") ?_
    walk_at "go"
    intro c nc
    walk_at "go"
    refine spAB_i (by walk_at "hp") (by walk_at "hp") (by walk_at "sq") (by omega) fun q as H' nq s' hq ht => ?_
    have hc : H' c = some (.lst [.ref z]) := by walk_at "hp"
    have hlen : as.length = ms.length := by rw [ht.1, traj_len]
    refine r_addL hc hq (by show 1 + (as.map V.ref).length ≤ _; rw [List.length_map]; exact Nat.le_of_lt (small1000 (by omega))) fun d nd => ?_
    walk_at "go"
    have hzs : H' z = some (.tup [.int x.1, .int x.2]) := by walk_at "hp"
    obtain ⟨b, hb⟩ : ∃ b, (z :: as)[as.length]? = some b := ⟨(z :: as)[as.length]'(by simp), List.getElem?_eq_getElem (by simp)⟩
    have hall : Tups H' (z :: as) (x :: traj p x ms) := by
      refine ⟨by simp [ht.1], fun i c y h1 h2 => ?_⟩
      cases i with
      | zero => cases h1; cases h2; exact hzs
      | succ i => exact ht.2 i c y h1 h2
    have hbt := hall.2 as.length b _ hb (by rw [hlen]; exact traj_last p ms x)
    refine r_ix (xs := [V.ref z] ++ as.map V.ref) (v := .ref b) (.inl (SqL.of upd_same)) ?_ ?_
    · have e : ([V.ref z] ++ as.map V.ref) = (z :: as).map V.ref := rfl
      have hlast := at_neg1 (xs := (z :: as).map V.ref) (n := as.length) (v := .ref b) (by simp) (by rw [List.getElem?_map, hb]; rfl)
      exact hlast
    · walk_at "go"
      have s1 : Same H (upd H' d (.lst ([V.ref z] ++ as.map V.ref))) := by walk_at "fr"
      exact h b _ s1 (by walk_at "hp")
end
end Rd

namespace Rd
open PySem L2
section
variable {P : Program} {w : World} {K : PySem.W.Frag} {mg : Str → Option Value} {base : Heap}
def lx (p : Int) (x : Int × Int) (k : Int) : Int × Int := (x.1 + k, lb p x.1 x.2 k)
theorem lx_nx {p : Int} {x : Int × Int} (h : Stg p x) (k : Int) : lx p x k = nx p x k := by
  unfold lx nx
  rw [lb_pb h.1 h.2]
def spLB : Sp := fun vs H Q _ => ∃ (g : Addr) (r p : Int) (z : Addr) (x : Int × Int) (k : Int), vs = [.ref g, .ref z, .int k] ∧ H g = some (.tup [.int r, .int p]) ∧ H z = some (.tup [.int x.1, .int x.2]) ∧
  ∀ (q : Addr) (H' : Hp), H q = none → Same H H' → H' q = some (.tup [.int (lx p x k).1, .int (lx p x k).2]) → Q (.ref q) H'
theorem spLB_i {g z : Addr} {r p k : Int} {x : Int × Int} {H : Hp} {Q : VK} {E : XK} (hg : H g = some (.tup [.int r, .int p])) (hz : H z = some (.tup [.int x.1, .int x.2]))
    (h : ∀ (q : Addr) (H' : Hp), H q = none → Same H H' → H' q = some (.tup [.int (lx p x k).1, .int (lx p x k).2]) → Q (.ref q) H') : spLB [.ref g, .ref z, .int k] H Q E := ⟨g, r, p, z, x, k, rfl, hg, hz, h⟩
theorem ok_law_behind (B : Bl mg) (F : FunAt K mg "_law_behind" s_law_behind) : Has P w K mg base CX0 1 "_law_behind" spLB := by
  refine F.ok sc_law_behind bo_law_behind (fun vs H Q E h => ?_) (fun f cdv A outer s H vs Q E hr h => ?_)
  · obtain ⟨g, r, p, z, x, k, rfl, _⟩ := h
    rfl
  · obtain ⟨g, r, p, z, x, k, rfl, hg, hz, h⟩ := h
    refine ⟨_, (pss_cons (ps_asg (pv 1) (kpg_tup (K := K) rfl rfl (pgs_cons (pg_name (i := 3) sc_law_behind.nd rfl (by first | exact Or.inl rfl | exact Or.inr rfl)) (pgs_cons (pg_name (i := 4) sc_law_behind.nd rfl (by first | exact Or.inl rfl | exact Or.inr rfl)) pgs_nil))))
 (pss_cons (ps_if (pt_cmpR op_gt (pv 2) pe_int (nomark _)) (pss_cons (ps_set (i := 5) sc_law_behind.nd rfl (by first | exact Or.inl rfl | exact Or.inr rfl) (pe_op op_sub (pe_ix (kix (K := K) rfl) (pv 0) pe_int (fun _ _ => rfl)) (pe_op op_sub (pv 3) (pv 4))))
 (pss_one (ps_ret (pe_tup (pa_cons (pe_op (kop_add (K := K) rfl) (pv 3) (pv 2)) (pa_cons (pe_op (kop_add (K := K) rfl) (pv 4) (pe_callB (kc_max (K := K) rfl rfl) rfl B.max (by decide +kernel) (pa_cons pe_int (pa_cons (pe_op op_sub (pv 2) (pv 5)) pa_nil)))) pa_nil)))))) pss_nil)
 (pss_cons (ps_set (i := 5) sc_law_behind.nd rfl (by first | exact Or.inl rfl | exact Or.inr rfl) (pe_op op_sub (pv 3) (pv 4)))
 (pss_one (ps_ret (pe_tup (pa_cons (pe_op (kop_add (K := K) rfl) (pv 3) (pv 2)) (pa_cons (pe_op (kop_add (K := K) rfl) (pv 4) (pe_callB (kc_min (K := K) rfl rfl) rfl B.min (by decide +kernel) (pa_cons pe_int (pa_cons (pe_op (kop_add (K := K) rfl) (pv 2) (pv 5)) pa_nil)))) pa_nil)))))))), ?_⟩
    refine r_start (σ' := [some (.ref g), some (.ref z), some (.int k), none, none, none]) rfl ?_
    walk_at "go"
    refine iteD (fun hk => ?_) (fun hk => ?_)
    · walk_at "go"
      intro q nq
      walk_at "go"
      refine h q _ nq (same_new nq) ?_
      rw [upd_same]
      unfold lx lb
      rw [if_pos hk]
    · walk_at "go"
      intro q nq
      walk_at "go"
      refine h q _ nq (same_new nq) ?_
      rw [upd_same]
      unfold lx lb
      rw [if_neg hk]
end
end Rd

namespace Rd
open PySem L2 LamX
section
variable {P : Program} {w : World} {K : PySem.W.Frag} {mg : Str → Option Value} {base : Heap}
theorem Tabs.fr {T : List (Addr × Str)} {H H' : Hp} (t : Tabs T H) (R : Fr H H') : Tabs T H' := fun p hp => by
  obtain ⟨ps, h1, h2, h3⟩ := t p hp
  refine ⟨ps, R _ _ h1 (fun _ _ _ _ h => nomatch h), h2, fun pos cv hc => ?_⟩
  obtain ⟨c, e1, e2⟩ := h3 pos cv hc
  exact ⟨c, e1, R _ _ e2 (fun _ _ _ _ h => nomatch h)⟩
theorem ExtN.at_tup {H H' : Hp} {g : Addr} {xs : List V} (e : ExtN H H') (h : H g = some (.tup xs)) : H' g = some (.tup xs) := e _ _ h fun ps z => nomatch z
theorem ExtN.at_lst {H H' : Hp} {g : Addr} {xs : List V} (e : ExtN H H') (h : H g = some (.lst xs)) : H' g = some (.lst xs) := e _ _ h fun ps z => nomatch z
theorem ExtN.st {H H' : Hp} {st a : Addr} (e : ExtN H H') (s : St H st a) : St H' st a := by
  obtain ⟨i, m, r, h, q⟩ := s
  exact ⟨i, m, r, ExtN.at_lst e h, q⟩
def chs (r p : Int) (x : Int × Int) (goal : Int) : List Int := if (goal - x.2) % r = 0 then [0] else [x.2 + (goal - x.2) % r + p - x.1, x.2 + (goal - x.2) % r - r - x.1]
theorem chs_pos (r p : Int) (x : Int × Int) (goal : Int) : 0 < (chs r p x goal).length := by
  unfold chs
  split
  · exact Nat.succ_pos _
  · exact Nat.succ_pos _
def spGoals (K : PySem.W.Frag) : Sp := fun vs H Q _ => ∃ (g : Addr) (r p : Int) (z : Addr) (x : Int × Int) (l : Addr) (gs : List Int) (most : Int), vs = [.ref g, .ref z, .ref l, .int most] ∧ GearAt H g r p ∧ H z = some (.tup [.int x.1, .int x.2]) ∧ Stg p x ∧ SqL K H l (gs.map V.int) ∧
  (gs.length : Int) ≤ most ∧ gs.length ≤ 1000 ∧ (∀ y ∈ gs, 0 ≤ y ∧ y < r) ∧ ∀ H', Same H H' → Q .non H'
theorem spGoals_i {g z l : Addr} {r p most : Int} {x : Int × Int} {gs : List Int} {H : Hp} {Q : VK} {E : XK} (G : GearAt H g r p) (hz : H z = some (.tup [.int x.1, .int x.2])) (hs : Stg p x) (hl : SqL K H l (gs.map V.int)) (hm : (gs.length : Int) ≤ most) (h1 : gs.length ≤ 1000) (hg : ∀ y ∈ gs, 0 ≤ y ∧ y < r)
    (k : ∀ H', Same H H' → Q .non H') : spGoals K [.ref g, .ref z, .ref l, .int most] H Q E := ⟨g, r, p, z, x, l, gs, most, rfl, G, hz, hs, hl, hm, h1, hg, k⟩
theorem ok_need_goals (B : Bl mg) (F : FunAt K mg "need_goals" s_need_goals) (H_need_standing : Has P w K mg base CX0 2 "need_standing" spNS) : Has P w K mg base CX0 3 "need_goals" (spGoals K) := by
  refine F.ok sc_need_goals bo_need_goals (fun vs H Q E h => ?_) (fun f cdv A outer s H vs Q E hr h => ?_)
  · obtain ⟨g, r, p, z, x, l, gs, most, rfl, _⟩ := h
    rfl
  · obtain ⟨g, r, p, z, x, l, gs, most, rfl, G, hz, hs, hl, hm, h1, hg, k⟩ := h
    refine ⟨_, (pss_cons (ps_expr (pe_has H_need_standing hr (by omega) rfl pass0 (pa_cons (pv 0) (pa_cons (pv 1) pa_nil))))
 (pss_one (ps_if (PW.pt (pw_or (pt_cmpR op_gt (pe_callB (kc_len (K := K) rfl) rfl B.len (by decide +kernel) (pa_cons (pv 2) pa_nil)) (pv 3) (nomark _)) (pw_or1 (pt_cmpR (kop_ne (K := K) rfl hr.units) (pe_lc (own := [("goal", 4)]) (g := (gName 4)) rfl sc_need_goals.nd (kpi_list (K := K) rfl (pv 2)) (blkOk_by (N := ["gear", "standing", "goals", "most", "goal"]) (sc := defScope s_need_goals) (own := [("goal", 4)]) (by decide +kernel)) (fun _ _ _ _ _ => (pg_name (i := 4) sc_need_goals.nd rfl (by first | exact Or.inl rfl | exact Or.inr rfl))) (fun _ _ _ _ _ => (pts_one (pt_not (pt_chain op_le op_lt pe_int (pv 4) (pe_ix (kix (K := K) rfl) (pv 0) pe_int (fun _ _ => rfl)))))) (fun _ _ _ _ _ => (pv 4))) (pe_lst pa_nil) (nomark _))))) (pss_one ps_never) pss_nil))), ?_⟩
    refine r_start (σ' := [some (.ref g), some (.ref z), some (.ref l), some (.int most), none]) rfl ?_
    walk_at "go"
    refine spNS_i G hz hs ?_
    walk_at "go"
    rw [List.length_map]
    refine iteDF (by omega) ?_
    walk_at "go"
    refine ⟨_, rfl, ⟨_, hl⟩, fun D nD => lcw_list (K := K) (a := l) (xs := gs.map V.int) (σw := [some (.ref g), some (.ref z), some (.ref l), some (.int most), none])
      (fun n H8 => Same H H8 ∧ H8 D = some (.lst [])) rfl ⟨same_new nD, upd_same⟩ (fun n H8 _ h => h.1.seq hl) (fun n y H8 hn h => ?_) fun H8 h => ?_⟩
    · obtain ⟨h8, hD⟩ := h
      obtain ⟨v, hv, rfl⟩ := map_at hn
      have hb := hg v (List.mem_of_getElem? hv)
      walk_at "go"
      refine ⟨rfl, ?_⟩
      walk_at "go"
      refine iteDT hb.1 ?_
      walk_at "go"
      refine r_ix (.inr (SqT.of (h8 _ _ G.at_))) (v := .int r) rfl ?_
      walk_at "go"
      refine iteNF hb.2 ?_
      walk_at "go"
      exact ⟨h8, hD⟩
    · obtain ⟨h8, hD⟩ := h
      walk_at "go"
      intro t nt
      refine r_neNil (ns := []) (at_new nt hD) upd_same ?_
      walk_at "go"
      refine iteF ?_
      walk_at "go"
      exact k _ (h8.trans (same_new nt))
def spChoices : Sp := fun vs H Q _ => ∃ (g : Addr) (r p : Int) (z : Addr) (x : Int × Int) (goal : Int), vs = [.ref g, .ref z, .int goal] ∧ H g = some (.tup [.int r, .int p]) ∧ 0 < r ∧ H z = some (.tup [.int x.1, .int x.2]) ∧
  ∀ (q : Addr) (H' : Hp), H q = none → Same H H' → H' q = some (.lst ((chs r p x goal).map V.int)) → Q (.ref q) H'
theorem spChoices_i {g z : Addr} {r p goal : Int} {x : Int × Int} {H : Hp} {Q : VK} {E : XK} (hg : H g = some (.tup [.int r, .int p])) (h0 : 0 < r) (hz : H z = some (.tup [.int x.1, .int x.2]))
    (k : ∀ (q : Addr) (H' : Hp), H q = none → Same H H' → H' q = some (.lst ((chs r p x goal).map V.int)) → Q (.ref q) H') : spChoices [.ref g, .ref z, .int goal] H Q E := ⟨g, r, p, z, x, goal, rfl, hg, h0, hz, k⟩
theorem ok_choices (F : FunAt K mg "choices" s_choices) : Has P w K mg base CX0 1 "choices" spChoices := by
  refine F.ok sc_choices bo_choices (fun vs H Q E h => ?_) (fun f cdv A outer s H vs Q E hr h => ?_)
  · obtain ⟨g, r, p, z, x, goal, rfl, _⟩ := h
    rfl
  · obtain ⟨g, r, p, z, x, goal, rfl, hg, h0, hz, k⟩ := h
    refine ⟨_, (pss_cons (ps_asg (pv 0) (kpg_tup (K := K) rfl rfl (pgs_cons (pg_name (i := 3) sc_choices.nd rfl (by first | exact Or.inl rfl | exact Or.inr rfl)) (pgs_cons (pg_name (i := 4) sc_choices.nd rfl (by first | exact Or.inl rfl | exact Or.inr rfl)) pgs_nil))))
 (pss_cons (ps_asg (pv 1) (kpg_tup (K := K) rfl rfl (pgs_cons (pg_name (i := 5) sc_choices.nd rfl (by first | exact Or.inl rfl | exact Or.inr rfl)) (pgs_cons (pg_name (i := 6) sc_choices.nd rfl (by first | exact Or.inl rfl | exact Or.inr rfl)) pgs_nil))))
 (pss_cons (ps_set (i := 7) sc_choices.nd rfl (by first | exact Or.inl rfl | exact Or.inr rfl) (pe_op op_mod (pe_op op_sub (pv 2) (pv 6)) (pv 3)))
 (pss_cons (ps_if (pt_cmpR (kop_eq (K := K) rfl hr.units) (pv 7) pe_int (nomark _)) (pss_one (ps_ret (pe_lst (pa_cons pe_int pa_nil)))) pss_nil)
 (pss_one (ps_ret (pe_lst (pa_cons (pe_op op_sub (pe_op (kop_add (K := K) rfl) (pe_op (kop_add (K := K) rfl) (pv 6) (pv 7)) (pv 4)) (pv 5)) (pa_cons (pe_op op_sub (pe_op op_sub (pe_op (kop_add (K := K) rfl) (pv 6) (pv 7)) (pv 3)) (pv 5)) pa_nil))))))))), ?_⟩
    refine r_start (σ' := [some (.ref g), some (.ref z), some (.int goal), none, none, none, none, none]) rfl ?_
    walk_at "go"
    refine r_I h0 ?_
    walk_at "go"
    refine iteD (fun c => ?_) (fun c => ?_)
    · walk_at "go"
      intro q nq
      walk_at "go"
      refine k q _ nq (same_new nq) ?_
      rw [upd_same, chs, if_pos c]
      rfl
    · walk_at "go"
      intro q nq
      walk_at "go"
      refine k q _ nq (same_new nq) ?_
      rw [upd_same, chs, if_neg c]
      rfl
end
end Rd

namespace Rd
open PySem L2
/-- all (the sizes together, the steps) to goals, one behind the other -/
def rowsOf (r p : Int) : Int × Int → List Int → List (Int × List Int)
  | _, [] => [(0, [])]
  | x, g :: gs => (chs r p x g).flatMap fun k => (rowsOf r p (nx p x k) gs).map fun q => (q.1 + k.natAbs, k :: q.2)
/-- the best of some rows: the least sizes, of these the last steps -/
def BestR (L : List (Int × List Int)) (q : Int × List Int) : Prop := q ∈ L ∧ ∀ z ∈ L, q.1 ≤ z.1 ∧ (z.1 = q.1 → ltL q.2 z.2 = false)
theorem BestR.one {L : List (Int × List Int)} {q z : Int × List Int} (a : BestR L q) (b : BestR L z) : q = z := by
  have h1 := a.2 z b.1
  have h2 := b.2 q a.1
  have e : q.1 = z.1 := by omega
  exact Prod.ext e (ltL_tri _ _ (h1.2 e.symm) (h2.2 e))
/-- a best one behind each of the ways -/
def Behind (r p : Int) (x : Int × Int) (gs : List Int) (ks : List Int) (rws : List (Int × List Int)) : Prop := rws.length = ks.length ∧ ∀ (j : Nat) (k : Int) (q : Int × List Int), ks[j]? = some k → rws[j]? = some q → ∃ z, BestR (rowsOf r p (nx p x k) gs) z ∧ q = ((k.natAbs : Int) + z.1, k :: z.2)
theorem Behind.snoc {r p : Int} {x : Int × Int} {gs ks : List Int} {rws : List (Int × List Int)} {k : Int} {z : Int × List Int} (h : Behind r p x gs ks rws) (b : BestR (rowsOf r p (nx p x k) gs) z) : Behind r p x gs (ks ++ [k]) (rws ++ [((k.natAbs : Int) + z.1, k :: z.2)]) := by
  obtain ⟨h1, h2⟩ := h
  refine ⟨by simp [h1], fun j k' q e1 e2 => ?_⟩
  rcases at_snoc e1 with ⟨f1, g1⟩ | ⟨f1, rfl⟩
  · rcases at_snoc e2 with ⟨f2, g2⟩ | ⟨f2, rfl⟩
    · exact h2 j _ _ f1 f2
    · omega
  · rcases at_snoc e2 with ⟨f2, g2⟩ | ⟨f2, rfl⟩
    · omega
    · exact ⟨z, b, rfl⟩
theorem chs_le (r p : Int) (x : Int × Int) (goal : Int) : (chs r p x goal).length ≤ 2 := by
  unfold chs
  split
  · exact Nat.le_succ 1
  · exact Nat.le_refl 2
theorem best_of {r p : Int} {x : Int × Int} {g : Int} {gs : List Int} {rws : List (Int × List Int)} {q : Int × List Int} (h : Behind r p x gs (chs r p x g) rws) (hq : BestR rws q) : BestR (rowsOf r p x (g :: gs)) q := by
  obtain ⟨hl, hb⟩ := h
  obtain ⟨hm, ho⟩ := hq
  refine ⟨?_, fun z hz => ?_⟩
  · obtain ⟨j, hj⟩ := List.mem_iff_getElem?.mp hm
    have hlt : j < (chs r p x g).length := by
      rw [← hl]
      exact (List.getElem?_eq_some_iff.mp hj).1
    obtain ⟨z, hz, e⟩ := hb j _ q (List.getElem?_eq_getElem hlt) hj
    refine List.mem_flatMap.mpr ⟨_, List.getElem_mem hlt, List.mem_map.mpr ⟨z, hz.1, ?_⟩⟩
    rw [e]
    exact Prod.ext (Int.add_comm _ _) rfl
  · obtain ⟨k, hk, hz⟩ := List.mem_flatMap.mp hz
    obtain ⟨y, hy, e⟩ := List.mem_map.mp hz
    obtain ⟨j, hj⟩ := List.mem_iff_getElem?.mp hk
    have hlt : j < rws.length := by
      rw [hl]
      exact (List.getElem?_eq_some_iff.mp hj).1
    obtain ⟨w, hw, e2⟩ := hb j k _ hj (List.getElem?_eq_getElem hlt)
    have a := ho _ (List.getElem_mem hlt)
    rw [e2] at a
    have b := hw.2 y hy
    subst e
    dsimp only at a ⊢
    refine ⟨by omega, fun c => ?_⟩
    have e3 : y.1 = w.1 := by omega
    have a2 := a.2 (by omega)
    have b2 := b.2 e3
    refine ltL_le_trans (a := k :: y.2) (b := k :: w.2) ?_ a2
    rw [ltL, if_pos rfl]
    exact b2
section
variable {P : Program} {w : World} {K : PySem.W.Frag} {mg : Str → Option Value} {base : Heap}
theorem void_at {x : Str} {st : Stmt} {ps : List Str} (F : FunAt K mg x st) (bo : BindOk x st ps) : Has P w K mg base CX0 0 x (fun _ _ _ _ => False) := by
  obtain ⟨f, fd, F, hm⟩ := F.ex
  exact ⟨f, fd, ps, ⟨fun _ _ _ _ h => h.elim, fun _ _ _ _ _ _ _ _ _ _ _ _ _ h => h.elim⟩, hm, F.kp, F.binds bo⟩
def spBest (K : PySem.W.Frag) : Nat → Sp
  | 0 => fun _ _ _ _ => False
  | n + 1 => fun vs H Q _ => ∃ (g : Addr) (r p : Int) (z : Addr) (x : Int × Int) (l : Addr) (gs : List Int), vs = [.ref g, .ref z, .ref l] ∧ H g = some (.tup [.int r, .int p]) ∧ 0 < r ∧ H z = some (.tup [.int x.1, .int x.2]) ∧ H l = some (.lst (gs.map V.int)) ∧ gs.length ≤ n ∧ n ≤ 100 ∧
    ∀ (t a : Addr) (q : Int × List Int) (H' : Hp), H t = none → H a = none → Same H H' → H' t = some (.tup [.int q.1, .ref a]) → H' a = some (.lst (q.2.map V.int)) → q.2.length ≤ 100 → BestR (rowsOf r p x gs) q → Q (.ref t) H'
theorem spBest_i {n : Nat} {g z l : Addr} {r p : Int} {x : Int × Int} {gs : List Int} {H : Hp} {Q : VK} {E : XK} (hg : H g = some (.tup [.int r, .int p])) (h0 : 0 < r) (hz : H z = some (.tup [.int x.1, .int x.2])) (hl : H l = some (.lst (gs.map V.int))) (hn : gs.length ≤ n) (h1 : n ≤ 100)
    (k : ∀ (t a : Addr) (q : Int × List Int) (H' : Hp), H t = none → H a = none → Same H H' → H' t = some (.tup [.int q.1, .ref a]) → H' a = some (.lst (q.2.map V.int)) → q.2.length ≤ 100 → BestR (rowsOf r p x gs) q → Q (.ref t) H') :
    spBest K (n + 1) [.ref g, .ref z, .ref l] H Q E := ⟨g, r, p, z, x, l, gs, rfl, hg, h0, hz, hl, hn, h1, k⟩
theorem rows_len {r p : Int} : ∀ {gs : List Int} {x : Int × Int} {q : Int × List Int}, q ∈ rowsOf r p x gs → q.2.length = gs.length
  | [], _, q, h => by
    rw [List.mem_singleton.mp h]
  | g :: gs, x, q, h => by
    obtain ⟨k, _, h⟩ := List.mem_flatMap.mp h
    obtain ⟨z, hz, e⟩ := List.mem_map.mp h
    rw [← e]
    show z.2.length + 1 = gs.length + 1
    rw [rows_len hz]
theorem ok_best_path (B : Bl mg) (F : FunAt K mg "best_path" s_best_path) (H_choices : Has P w K mg base CX0 1 "choices" spChoices) (H_behind : Has P w K mg base CX0 1 "behind" spBehind) : ∀ n, Has P w K mg base CX0 (n + 1) "best_path" (spBest K n)
  | 0 => (void_at F bo_best_path).mono (by omega)
  | n + 1 => by
    have H_best_path : Has P w K mg base CX0 (n + 1) "best_path" (spBest K n) := ok_best_path B F H_choices H_behind n
    refine F.ok sc_best_path bo_best_path (fun vs H Q E h => ?_) (fun f cdv A outer s H vs Q E hr h => ?_)
    · obtain ⟨g, r, p, z, x, l, gs, rfl, _⟩ := h
      rfl
    · obtain ⟨g, r, p, z, x, l, gs, rfl, hg, h0, hz, hl, hn, h1, k⟩ := h
      refine ⟨_, (pss_cons (ps_if (pt_cmpR (kop_eq (K := K) rfl hr.units) (pv 2) (pe_lst pa_nil) (nomark _)) (pss_one (ps_ret (pe_tup (pa_cons pe_int (pa_cons (pe_lst pa_nil) pa_nil))))) pss_nil)
 (pss_cons (ps_set (i := 3) sc_best_path.nd rfl (by first | exact Or.inl rfl | exact Or.inr rfl) (pe_lst pa_nil))
 (pss_cons (ps_for PassesOwn.never rfl (kpi_list (K := K) rfl (pe_has H_choices hr (by omega) rfl pass0 (pa_cons (pv 0) (pa_cons (pv 1) (pa_cons (pe_ix (kix (K := K) rfl) (pv 2) pe_int (fun _ _ => rfl)) pa_nil))))) (pg_name (i := 4) sc_best_path.nd rfl (by first | exact Or.inl rfl | exact Or.inr rfl)) (pss_cons (ps_asg (pe_has H_best_path hr (by omega) rfl pass0 (pa_cons (pv 0) (pa_cons (pe_has H_behind hr (by omega) rfl pass0 (pa_cons (pv 0) (pa_cons (pv 1) (pa_cons (pv 4) pa_nil)))) (pa_cons (pe_slice (ksl (K := K) rfl) (pv 2) (po_some pe_int) po_none) pa_nil)))) (kpg_tup (K := K) rfl rfl (pgs_cons (pg_name (i := 5) sc_best_path.nd rfl (by first | exact Or.inl rfl | exact Or.inr rfl)) (pgs_cons (pg_name (i := 6) sc_best_path.nd rfl (by first | exact Or.inl rfl | exact Or.inr rfl)) pgs_nil))))
 (pss_one (ps_expr (kpe_bm (K := K) rfl PySem.F.plainAttrs_list PySem.F.slot_list_append PySem.F.type_list_append mt_append (pv 3) (pa_cons (pe_tup (pa_cons (pe_op (kop_add (K := K) rfl) (pe_callB call_absA rfl B.abs (by decide +kernel) (pa_cons (pv 4) pa_nil)) (pv 5)) (pa_cons (pe_op (kop_add (K := K) rfl) (pe_lst (pa_cons (pv 4) pa_nil)) (pv 6)) pa_nil))) pa_nil))))))
 (pss_cons (ps_set (i := 7) sc_best_path.nd rfl (by first | exact Or.inl rfl | exact Or.inr rfl) (pe_callB (kc_min (K := K) rfl rfl) rfl B.min (by decide +kernel) (pa_cons (pe_lc (own := [("size", 5), ("row", 8)]) (g := (gTup K 2 (gCons (gName 5) (gCons (gName 8) gNil)))) rfl sc_best_path.nd (kpi_list (K := K) rfl (pv 3)) (blkOk_by (N := ["gear", "standing", "goals", "found", "steps", "size", "rest", "least", "row"]) (sc := defScope s_best_path) (own := [("size", 5), ("row", 8)]) (by decide +kernel)) (fun _ _ _ _ _ => (kpg_tup (K := K) rfl rfl (pgs_cons (pg_name (i := 5) sc_best_path.nd rfl (by first | exact Or.inl rfl | exact Or.inr rfl)) (pgs_cons (pg_name (i := 8) sc_best_path.nd rfl (by first | exact Or.inl rfl | exact Or.inr rfl)) pgs_nil)))) (fun _ _ _ _ _ => pts_nil) (fun _ _ _ _ _ => (pv 5))) pa_nil)))
 (pss_one (ps_ret (pe_tup (pa_cons (pv 7) (pa_cons (pe_callB (kc_maxLL (K := K) rfl rfl hr.units) rfl B.max (by decide +kernel) (pa_cons (pe_lc (own := [("size", 5), ("row", 8)]) (g := (gTup K 2 (gCons (gName 5) (gCons (gName 8) gNil)))) rfl sc_best_path.nd (kpi_list (K := K) rfl (pv 3)) (blkOk_by (N := ["gear", "standing", "goals", "found", "steps", "size", "rest", "least", "row"]) (sc := defScope s_best_path) (own := [("size", 5), ("row", 8)]) (by decide +kernel)) (fun _ _ _ _ _ => (kpg_tup (K := K) rfl rfl (pgs_cons (pg_name (i := 5) sc_best_path.nd rfl (by first | exact Or.inl rfl | exact Or.inr rfl)) (pgs_cons (pg_name (i := 8) sc_best_path.nd rfl (by first | exact Or.inl rfl | exact Or.inr rfl)) pgs_nil)))) (fun _ _ _ _ _ => (pts_one (pt_cmpR (kop_eq (K := K) rfl hr.units) (pv 5) (pv 7) (nomark _)))) (fun _ _ _ _ _ => (pv 8))) pa_nil)) pa_nil))))))))), ?_⟩
      refine r_start (σ' := [some (.ref g), some (.ref z), some (.ref l), none, none, none, none, none, none]) rfl ?_
      walk_at "go"
      intro t0 n0
      refine r_eqNil (at_new n0 hl) upd_same ?_
      walk_at "go"
      have s0 : Same H (upd H t0 (.lst [])) := same_new n0
      generalize upd H t0 (.lst []) = H0 at s0
      cases gs with
      | nil =>
        refine iteDT rfl ?_
        walk_at "go"
        intro a na
        walk_at "go"
        intro t nt
        walk_at "go"
        exact k t a (0, []) _ (s0.free (na.symm ▸ (Same.free (same_new na) nt))) (s0.free na) ((s0.trans (same_new na)).trans (same_new nt)) upd_same (at_new nt upd_same) (by decide) ⟨List.mem_singleton.mpr rfl, fun z hz => by
          rw [List.mem_singleton.mp hz]
          exact ⟨Int.le_refl _, fun _ => ltL_irrefl _⟩⟩
      | cons gl gs =>
        refine iteDF (fun e => nomatch e) ?_
        walk_at "go"
        obtain ⟨m, rfl⟩ : ∃ m, n = m + 1 := ⟨n - 1, by rw [List.length_cons] at hn; omega⟩
        have hn' : gs.length ≤ m := by rw [List.length_cons] at hn; omega
        intro fd nfd
        walk_at "go"
        have s1 : Same H (upd H0 fd (.lst [])) := s0.trans (same_new nfd)
        have hfd : upd H0 fd (.lst []) fd = some (.lst []) := upd_same
        have nfH : H fd = none := s0.free nfd
        generalize upd H0 fd (.lst []) = H1 at s1 hfd ⊢
        refine r_ix (v := .int gl) (.inl (SqL.of (s1 _ _ hl))) (at_of (j := 0) rfl rfl) ?_
        walk_at "go"
        refine spChoices_i (s1 _ _ hg) h0 (s1 _ _ hz) fun cl H2 ncl h2 hcl => ?_
        have s2 : Same H H2 := s1.trans h2
        have hfd2 := h2 _ _ hfd
        have ncl' : cl ≠ fd := fun e => by rw [e, hfd] at ncl; cases ncl
        walk_at "go"
        refine ⟨_, rfl, ⟨_, SqL.of hcl⟩, fw_list (K := K) (a := cl) (xs := (chs r p x gl).map V.int) (fun j σ H3 => ∃ (v4 v5 v6 : Option V) (ts as : List Addr) (rws : List (Int × List Int)), σ = [some (.ref g), some (.ref z), some (.ref l), some (.ref fd), v4, v5, v6, none, none] ∧
            Same H H3 ∧ H3 cl = some (.lst ((chs r p x gl).map V.int)) ∧ H3 fd = some (.lst (ts.map V.ref)) ∧ NRows H3 ts as rws ∧ Behind r p x gs ((chs r p x gl).take j) rws ∧ (∀ a ∈ as, H a = none ∧ a ≠ fd) ∧ ∀ t ∈ ts, t ≠ fd)
          ⟨_, _, _, [], [], [], rfl, s2, hcl, hfd2, NRows.nil, ⟨rfl, fun j k q h => by simp at h⟩, fun a h => (by simp at h), fun a h => by simp at h⟩ (fun j σ H3 _ h => ?_) ?_ ?_⟩
        · obtain ⟨_, _, _, _, _, _, _, _, e, _⟩ := h
          exact SqL.of e
        · rintro j y σ H3 hj ⟨v4, v5, v6, ts, as, rws, rfl, s3, hcl3, hfd3, hN, hB, hA, hT⟩
          obtain ⟨kk, hkk, rfl⟩ := map_at hj
          have hjl : j < (chs r p x gl).length := (List.getElem?_eq_some_iff.mp hkk).1
          have hc2 : (chs r p x gl).length ≤ 2 := chs_le r p x gl
          walk_at "go"
          refine spBehind_i (s3 _ _ hg) (s3 _ _ hz) fun bz H4 nbz h4 hbz => ?_
          walk_at "go"
          have s4 : Same H H4 := s3.trans h4
          refine r_slL (SqL.of (s4 _ _ hl)) fun c nc => ?_
          rw [cut_drop V.int (gl :: gs) (by decide)]
          walk_at "go"
          refine spBest_i (gs := gs) (at_new nc (s4 _ _ hg)) h0 (at_new nc hbz) upd_same hn' (by omega) fun t5 a5 q5 H5 nt5 na5 h5 ht5 ha5 hq5 bst => ?_
          have h45 : Same H4 H5 := (same_new nc).trans h5
          walk_at "go"
          have h35 : Same H3 H5 := h4.trans h45
          refine ⟨r_tyL (h35 _ _ hfd3), ?_⟩
          walk_at "go"
          intro d6 nd6
          walk_at "go"
          refine r_addL upd_same (at_new nd6 ha5) (by rw [List.length_map]; show 1 + _ ≤ sizeLine; exact Nat.le_of_lt (small1000 (by omega))) fun c7 nc7 => ?_
          walk_at "go"
          intro t8 nt8
          walk_at "go"
          have h38 : Same H3 (upd (upd (upd H5 d6 (.lst [.int kk])) c7 (.lst ([.int kk] ++ q5.2.map V.int))) t8 (.tup [.int (kk.natAbs + q5.1), .ref c7])) := h35.trans ((same_new nd6).trans ((same_new nc7).trans (same_new nt8)))
          have ht8 : upd (upd (upd H5 d6 (.lst [.int kk])) c7 (.lst ([.int kk] ++ q5.2.map V.int))) t8 (.tup [.int (kk.natAbs + q5.1), .ref c7]) t8 = some (.tup [.int (kk.natAbs + q5.1), .ref c7]) := upd_same
          have hc7 : upd (upd (upd H5 d6 (.lst [.int kk])) c7 (.lst ([.int kk] ++ q5.2.map V.int))) t8 (.tup [.int (kk.natAbs + q5.1), .ref c7]) c7 = some (.lst ((kk :: q5.2).map V.int)) := at_new nt8 upd_same
          have c7H : H c7 = none := (s3.trans (h35.trans (same_new nd6))).free nc7
          have c7fd : c7 ≠ fd := (ne_of_none (at_new (u := .lst [.int kk]) nd6 (h35 _ _ hfd3)) nc7).symm
          have t8fd : t8 ≠ fd := (ne_of_none (at_new (u := .lst ([.int kk] ++ q5.2.map V.int)) nc7 (at_new (u := .lst [.int kk]) nd6 (h35 _ _ hfd3))) nt8).symm
          generalize upd (upd (upd H5 d6 (.lst [.int kk])) c7 (.lst ([.int kk] ++ q5.2.map V.int))) t8 (.tup [.int (kk.natAbs + q5.1), .ref c7]) = H8 at h38 ht8 hc7 ⊢
          have hts : ts.length ≤ 2 := by
            have := hN.1
            have := hB.1
            rw [List.length_take] at this
            omega
          refine r_appA (h38 _ _ hfd3) (by rw [List.length_map]; exact small1000 (by omega)) fun H9 e9 w9 => ?_
          walk_at "go"
          refine ⟨_, _, _, ts ++ [t8], as ++ [c7], rws ++ [((kk.natAbs : Int) + q5.1, kk :: q5.2)], rfl, fun b o e => w9 _ _ (ne_of_none e nfH) (h38 _ _ (s3 _ _ e)), w9 _ _ ncl' (h38 _ _ hcl3), by rw [e9]; simp, ?_, ?_, fun a ha => ?_, fun t ht => ?_⟩
          · refine NRows.snoc ((hN.mono fun b o e _ => h38 _ _ e).mono fun b o e ⟨i, hi⟩ => w9 _ _ ?_ e) (w9 _ _ t8fd ht8) (w9 _ _ c7fd hc7)
            rcases hi with hi | hi
            · exact hT b (List.mem_of_getElem? hi)
            · exact (hA b (List.mem_of_getElem? hi)).2
          · rw [take_snoc hkk]
            exact hB.snoc bst
          · rcases List.mem_append.mp ha with ha | ha
            · exact hA a ha
            · rw [List.mem_singleton.mp ha]
              exact ⟨c7H, c7fd⟩
          · rcases List.mem_append.mp ht with ht | ht
            · exact hT t ht
            · rw [List.mem_singleton.mp ht]
              exact t8fd
        · rintro σ H3 ⟨v4, v5, v6, ts, as, rws, rfl, s3, hcl3, hfd3, hN, hB, hA, hT⟩
          rw [List.length_map, List.take_length] at hB
          have hrl : rws.length = (chs r p x gl).length := hB.1
          have hr0 : 0 < rws.length := by rw [hrl]; exact chs_pos _ _ _ _
          have hr2 : rws.length ≤ 2 := by rw [hrl]; exact chs_le _ _ _ _
          obtain ⟨lt1, lt2, hNat⟩ := id hN
          walk_at "go"
          refine ⟨_, rfl, ⟨_, SqL.of hfd3⟩, fun D nD => lcw_list (K := K) (a := fd) (xs := ts.map V.ref) (σw := [some (.ref g), some (.ref z), some (.ref l), some (.ref fd), v4, none, v6, none, none])
            (fun i H8 => Same H3 H8 ∧ H8 D = some (.lst (((rws.take i).map Prod.fst).map V.int))) rfl ⟨same_new nD, upd_same⟩ (fun i H8 _ h => SqL.of (h.1 _ _ hfd3)) (fun i y H8 hi h => ?_) fun H8 h => ?_⟩
          · obtain ⟨h8, hD⟩ := h
            obtain ⟨t, ht, rfl⟩ := map_at hi
            have hil : i < rws.length := by rw [← lt1]; exact (List.getElem?_eq_some_iff.mp ht).1
            obtain ⟨a, ha⟩ : ∃ a, as[i]? = some a := ⟨_, List.getElem?_eq_getElem (by omega)⟩
            obtain ⟨row, hrow⟩ : ∃ row, rws[i]? = some row := ⟨_, List.getElem?_eq_getElem hil⟩
            have htt := h8 _ _ (hNat i t a row ht ha hrow).1
            walk_at "go"
            refine ⟨rfl, ?_⟩
            walk_at "go"
            refine iteT ?_
            walk_at "go"
            refine ⟨_, hD, by rw [List.length_map, List.length_map, List.length_take]; exact small1000 (by omega), fun b o e => at_wr (ne_of_none e nD) (h8 _ _ e), ?_⟩
            rw [upd_same, take_snoc hrow]
            simp
          obtain ⟨h8, hD⟩ := h
          rw [List.length_map, lt1, List.take_length] at hD
          have hfd8 := h8 _ _ hfd3
          walk_at "go"
          refine r_minL (SqL.of hD) (by rw [List.length_map]; exact hr0) fun least lm ll => ?_
          walk_at "go"
          refine ⟨_, rfl, ⟨_, SqL.of hfd8⟩, fun D2 nD2 => lcw_list (K := K) (a := fd) (xs := ts.map V.ref) (σw := [some (.ref g), some (.ref z), some (.ref l), some (.ref fd), v4, none, v6, some (.int least), none])
            (fun i H9 => Same H8 H9 ∧ ∃ (fs : List Addr) (frs : List (List Int)), H9 D2 = some (.lst (fs.map V.ref)) ∧ fs.length ≤ i ∧ Rows H9 fs frs ∧ (∀ a ∈ fs, H a = none ∧ a ≠ D2) ∧ ∀ q, q ∈ frs ↔ ∃ j, j < i ∧ rws[j]? = some (least, q)) rfl
            ⟨same_new nD2, [], [], upd_same, Nat.le_refl _, ⟨rfl, fun i a row h => by simp at h⟩, fun a h => by simp at h, fun q => ⟨fun h => (by simp at h), fun ⟨j, hj, _⟩ => by omega⟩⟩ (fun i H9 _ h => SqL.of (h.1 _ _ hfd8)) (fun i y H9 hi h => ?_) fun H9 h => ?_⟩
          · obtain ⟨h9, fs, frs, hD2, hle, hR, hF, hiff⟩ := h
            obtain ⟨t, ht, rfl⟩ := map_at hi
            have hil : i < rws.length := by rw [← lt1]; exact (List.getElem?_eq_some_iff.mp ht).1
            obtain ⟨a, ha⟩ : ∃ a, as[i]? = some a := ⟨_, List.getElem?_eq_getElem (by omega)⟩
            obtain ⟨row, hrow⟩ : ∃ row, rws[i]? = some row := ⟨_, List.getElem?_eq_getElem hil⟩
            have htt := h9 _ _ (h8 _ _ (hNat i t a row ht ha hrow).1)
            have haa8 := h8 _ _ (hNat i t a row ht ha hrow).2
            have haa := h9 _ _ haa8
            have aD2 : a ≠ D2 := ne_of_none haa8 nD2
            walk_at "go"
            refine ⟨rfl, ?_⟩
            walk_at "go"
            refine iteD (fun c => ?_) (fun c => ?_)
            · walk_at "go"
              refine ⟨_, hD2, by rw [List.length_map]; exact small1000 (by omega), fun b o e => at_wr (ne_of_none e nD2) (h9 _ _ e), fs ++ [a], frs ++ [row.2], by rw [upd_same]; simp, by rw [List.length_append, List.length_singleton]; omega, ?_, fun b hb => ?_, fun q => ?_⟩
              · refine ⟨by simp [hR.1], fun i' a' row' e1 e2 => ?_⟩
                rcases at_snoc e1 with ⟨f1, g1⟩ | ⟨f1, rfl⟩
                · rcases at_snoc e2 with ⟨f2, g2⟩ | ⟨f2, rfl⟩
                  · exact at_wr (hF a' (List.mem_of_getElem? f1)).2 (hR.2 i' a' row' f1 f2)
                  · have := hR.1
                    omega
                · rcases at_snoc e2 with ⟨f2, g2⟩ | ⟨f2, rfl⟩
                  · have := hR.1
                    omega
                  · exact at_wr aD2 haa
              · rcases List.mem_append.mp hb with hb | hb
                · exact hF b hb
                · rw [List.mem_singleton.mp hb]
                  exact ⟨(hA a (List.mem_of_getElem? ha)).1, aD2⟩
              · rw [List.mem_append, hiff, List.mem_singleton]
                constructor
                · rintro (⟨j, hj, e⟩ | rfl)
                  · exact ⟨j, by omega, e⟩
                  · exact ⟨i, by omega, by rw [hrow, ← c]⟩
                · rintro ⟨j, hj, e⟩
                  by_cases z : j = i
                  · subst z
                    rw [hrow] at e
                    exact .inr (congrArg Prod.snd (Option.some.inj e)).symm
                  · exact .inl ⟨j, by omega, e⟩
            · refine ⟨h9, fs, frs, hD2, by omega, hR, hF, fun q => ?_⟩
              rw [hiff]
              constructor
              · rintro ⟨j, hj, e⟩
                exact ⟨j, by omega, e⟩
              · rintro ⟨j, hj, e⟩
                by_cases z : j = i
                · subst z
                  rw [hrow] at e
                  exact absurd (congrArg Prod.fst (Option.some.inj e)) c
                · exact ⟨j, by omega, e⟩
          · obtain ⟨h9, fs, frs, hD2, hle, hR, hF, hiff⟩ := h
            rw [List.length_map, lt1] at hiff
            walk_at "go"
            have hp : 0 < frs.length := by
              obtain ⟨z, hz, e⟩ := List.mem_map.mp lm
              obtain ⟨j, hj⟩ := List.mem_iff_getElem?.mp hz
              have : z.2 ∈ frs := (hiff z.2).mpr ⟨j, (List.getElem?_eq_some_iff.mp hj).1, by rw [hj, ← e]⟩
              exact List.length_pos_of_mem this
            refine ⟨D2, fs, frs, rfl, SqL.of hD2, hR, hp, fun i a row ha hrow best => ?_⟩
            walk_at "go"
            intro t nt
            walk_at "go"
            have hs : Same H H9 := s3.trans (h8.trans h9)
            obtain ⟨j, hj, hrj⟩ := (hiff row).mp (List.mem_of_getElem? hrow)
            have bb : BestR rws (least, row) := ⟨List.mem_of_getElem? hrj, fun z hz => ⟨ll _ (List.mem_map.mpr ⟨z, hz, rfl⟩), fun e => by
              obtain ⟨j', hj'⟩ := List.mem_iff_getElem?.mp hz
              exact best z.2 ((hiff z.2).mpr ⟨j', (List.getElem?_eq_some_iff.mp hj').1, by rw [hj']; exact congrArg some (Prod.ext e rfl)⟩)⟩⟩
            have bo := best_of hB bb
            have hlen := rows_len bo.1
            exact k t a (least, row) _ (hs.free nt) (hF a (List.mem_of_getElem? ha)).1 (hs.trans (same_new nt)) upd_same (at_new nt (hR.2 i a row ha hrow)) (by rw [hlen]; omega) bo
def spPath (K : PySem.W.Frag) : Sp := fun vs H Q _ => ∃ (g : Addr) (r p : Int) (z : Addr) (x : Int × Int) (l : Addr) (gs : List Int), vs = [.ref g, .ref z, .ref l] ∧ GearAt H g r p ∧ H z = some (.tup [.int x.1, .int x.2]) ∧ Stg p x ∧ SqL K H l (gs.map V.int) ∧ gs.length ≤ 8 ∧ (∀ y ∈ gs, 0 ≤ y ∧ y < r) ∧
  ∀ (a : Addr) (q : Int × List Int) (H' : Hp), H a = none → Same H H' → H' a = some (.lst (q.2.map V.int)) → q.2.length ≤ 100 → BestR (rowsOf r p x gs) q → Q (.ref a) H'
theorem spPath_i {g z l : Addr} {r p : Int} {x : Int × Int} {gs : List Int} {H : Hp} {Q : VK} {E : XK} (G : GearAt H g r p) (hz : H z = some (.tup [.int x.1, .int x.2])) (hs : Stg p x) (hl : SqL K H l (gs.map V.int)) (hn : gs.length ≤ 8) (hg : ∀ y ∈ gs, 0 ≤ y ∧ y < r)
    (k : ∀ (a : Addr) (q : Int × List Int) (H' : Hp), H a = none → Same H H' → H' a = some (.lst (q.2.map V.int)) → q.2.length ≤ 100 → BestR (rowsOf r p x gs) q → Q (.ref a) H') : spPath K [.ref g, .ref z, .ref l] H Q E := ⟨g, r, p, z, x, l, gs, rfl, G, hz, hs, hl, hn, hg, k⟩
theorem ok_path (B : Bl mg) (F : FunAt K mg "path" s_path) (M_MOST_GOALS : Cn mg "MOST_GOALS" 8) (H_need_goals : Has P w K mg base CX0 3 "need_goals" (spGoals K)) (H_best_path : Has P w K mg base CX0 10 "best_path" (spBest K 9)) : Has P w K mg base CX0 11 "path" (spPath K) := by
  refine F.ok sc_path bo_path (fun vs H Q E h => ?_) (fun f cdv A outer s H vs Q E hr h => ?_)
  · obtain ⟨g, r, p, z, x, l, gs, rfl, _⟩ := h
    rfl
  · obtain ⟨g, r, p, z, x, l, gs, rfl, G, hz, hs, hl, hn, hg, k⟩ := h
    refine ⟨_, (pss_cons (ps_expr (pe_has H_need_goals hr (by omega) rfl pass0 (pa_cons (pv 0) (pa_cons (pv 1) (pa_cons (pv 2) (pa_cons (pe_cn M_MOST_GOALS rfl) pa_nil))))))
 (pss_one (ps_ret (pe_ix (kix (K := K) rfl) (pe_has H_best_path hr (by omega) rfl pass0 (pa_cons (pv 0) (pa_cons (pv 1) (pa_cons (pe_callTy (kc_list (K := K) rfl) rfl B.list (by decide +kernel) (pa_cons (pv 2) pa_nil)) pa_nil)))) pe_int (fun _ _ => rfl))))), ?_⟩
    refine r_start (σ' := [some (.ref g), some (.ref z), some (.ref l)]) rfl ?_
    walk_at "go"
    refine spGoals_i G hz hs hl (by omega) (by omega) hg fun H2 h2 => ?_
    walk_at "go"
    refine r_listOf (.inl (h2.seq hl)) fun c nc => ?_
    walk_at "go"
    have h3 : Same H (upd H2 c (.lst (gs.map V.int))) := h2.trans (same_new nc)
    refine spBest_i (h3 _ _ G.at_) (by have := G.r2; omega) (h3 _ _ hz) upd_same hn (by decide) fun t a q H4 nt na h4 ht ha hq bst => ?_
    walk_at "go"
    exact k a q H4 (h3.free na) (h3.trans h4) ha hq bst
/-- all orders of some places; n: at least their number -/
def perms : Nat → List Int → List (List Int)
  | 0, _ => [[]]
  | n + 1, ps => if ps = [] then [[]] else (List.range ps.length).flatMap fun k => (perms n (ps.take k ++ ps.drop (k + 1))).map (ps.getD k 0 :: ·)
def fac : Nat → Nat
  | 0 => 1
  | n + 1 => (n + 1) * fac n
theorem fac_pos : ∀ n, 0 < fac n
  | 0 => Nat.zero_lt_one
  | n + 1 => Nat.mul_pos (Nat.succ_pos n) (fac_pos n)
theorem perms_len : ∀ (n : Nat) (ps : List Int), ps.length ≤ n → (perms n ps).length ≤ fac n
  | 0, _, _ => Nat.le_refl 1
  | n + 1, ps, h => by
    rw [perms]
    split
    · exact fac_pos (n + 1)
    · have part : ∀ m, m ≤ ps.length → ((List.range m).flatMap fun k => (perms n (ps.take k ++ ps.drop (k + 1))).map (ps.getD k 0 :: ·)).length ≤ m * fac n := by
        intro m
        induction m with
        | zero => intro _; exact Nat.zero_le _
        | succ m ih =>
          intro hm
          rw [List.range_succ, List.flatMap_append, List.length_append]
          have a := ih (by omega)
          have b : ((List.flatMap (fun k => (perms n (ps.take k ++ ps.drop (k + 1))).map (ps.getD k 0 :: ·)) [m])).length ≤ fac n := by
            rw [List.flatMap_cons, List.flatMap_nil, List.append_nil, List.length_map]
            exact perms_len n _ (by rw [List.length_append, List.length_take, List.length_drop]; omega)
          rw [Nat.succ_mul]
          omega
      exact Nat.le_trans (part _ (Nat.le_refl _)) (Nat.mul_le_mul_right _ h)
theorem perms_row : ∀ (n : Nat) (ps row : List Int), row ∈ perms n ps → row.length ≤ n
  | 0, _, row, h => by
    rw [List.mem_singleton.mp h]
    exact Nat.le_refl 0
  | n + 1, ps, row, h => by
    rw [perms] at h
    split at h
    · rw [List.mem_singleton.mp h]
      exact Nat.zero_le _
    · obtain ⟨k, _, h⟩ := List.mem_flatMap.mp h
      obtain ⟨z, hz, e⟩ := List.mem_map.mp h
      rw [← e]
      exact Nat.succ_le_succ (perms_row n _ z hz)
theorem Rows.mono {H H' : Hp} {as : List Addr} {rows : List (List Int)} (h : Rows H as rows) (R : ∀ b o, H b = some o → b ∈ as → H' b = some o) : Rows H' as rows :=
  ⟨h.1, fun i a row h1 h2 => R _ _ (h.2 i a row h1 h2) (List.mem_of_getElem? h1)⟩
theorem Rows.nil {H : Hp} : Rows H [] [] := ⟨rfl, fun i a row h => by simp at h⟩
theorem Rows.snoc {H : Hp} {as : List Addr} {rows : List (List Int)} {a : Addr} {row : List Int} (h : Rows H as rows) (h2 : H a = some (.lst (row.map V.int))) : Rows H (as ++ [a]) (rows ++ [row]) := by
  refine ⟨by simp [h.1], fun i a' row' e1 e2 => ?_⟩
  rcases at_snoc e1 with ⟨f1, g1⟩ | ⟨f1, rfl⟩
  · rcases at_snoc e2 with ⟨f2, g2⟩ | ⟨f2, rfl⟩
    · exact h.2 i a' row' f1 f2
    · have := h.1
      omega
  · rcases at_snoc e2 with ⟨f2, g2⟩ | ⟨f2, rfl⟩
    · have := h.1
      omega
    · exact h2
theorem Rows.app {H : Hp} {as : List Addr} {rows : List (List Int)} (h : Rows H as rows) : ∀ {bs : List Addr} {rows2 : List (List Int)}, Rows H bs rows2 → Rows H (as ++ bs) (rows ++ rows2) := fun {bs rows2} h2 => by
  refine ⟨by rw [List.length_append, List.length_append, h.1, h2.1], fun i a row e1 e2 => ?_⟩
  rw [List.getElem?_append] at e1 e2
  rw [h.1] at e1
  by_cases c : i < rows.length
  · rw [if_pos c] at e1 e2
    exact h.2 i a row e1 e2
  · rw [if_neg c] at e1 e2
    exact h2.2 _ a row e1 e2
/-- lists at addresses that weren't there -/
def spAO (K : PySem.W.Frag) : Nat → Sp
  | 0 => fun _ _ _ _ => False
  | n + 1 => fun vs H Q _ => ∃ (l : Addr) (ps : List Int), vs = [.ref l] ∧ H l = some (.lst (ps.map V.int)) ∧ ps.length ≤ n ∧ n ≤ 5 ∧
    ∀ (q : Addr) (as : List Addr) (H' : Hp), H q = none → Same H H' → H' q = some (.lst (as.map V.ref)) → Rows H' as (perms n ps) → (∀ a ∈ as, H a = none ∧ a ≠ q) → Q (.ref q) H'
theorem spAO_i {n : Nat} {l : Addr} {ps : List Int} {H : Hp} {Q : VK} {E : XK} (hl : H l = some (.lst (ps.map V.int))) (hn : ps.length ≤ n) (h5 : n ≤ 5)
    (k : ∀ (q : Addr) (as : List Addr) (H' : Hp), H q = none → Same H H' → H' q = some (.lst (as.map V.ref)) → Rows H' as (perms n ps) → (∀ a ∈ as, H a = none ∧ a ≠ q) → Q (.ref q) H') : spAO K (n + 1) [.ref l] H Q E := ⟨l, ps, rfl, hl, hn, h5, k⟩
theorem fac_5 {n : Nat} (h : n ≤ 5) : fac n ≤ 120 := by
  match n, h with
  | 0, _ => decide
  | 1, _ => decide
  | 2, _ => decide
  | 3, _ => decide
  | 4, _ => decide
  | 5, _ => decide
theorem ok_all_orders (B : Bl mg) (F : FunAt K mg "all_orders" s_all_orders) : ∀ n, Has P w K mg base CX0 n "all_orders" (spAO K n)
  | 0 => void_at F bo_all_orders
  | n + 1 => by
    have H_all_orders : Has P w K mg base CX0 n "all_orders" (spAO K n) := ok_all_orders B F n
    refine F.ok sc_all_orders bo_all_orders (fun vs H Q E h => ?_) (fun f cdv A outer s H vs Q E hr h => ?_)
    · obtain ⟨l, ps, rfl, _⟩ := h
      rfl
    · obtain ⟨l, ps, rfl, hl, hn, h5, k⟩ := h
      refine ⟨_, (pss_cons (ps_if (pt_cmpR (kop_eq (K := K) rfl hr.units) (pv 0) (pe_lst pa_nil) (nomark _)) (pss_one (ps_ret (pe_lst (pa_cons (pe_lst pa_nil) pa_nil)))) pss_nil)
 (pss_cons (ps_set (i := 1) sc_all_orders.nd rfl (by first | exact Or.inl rfl | exact Or.inr rfl) (pe_lst pa_nil))
 (pss_cons (ps_for PassesOwn.never rfl (pi_range1 rfl B.range (pa_cons (pe_callB (kc_len (K := K) rfl) rfl B.len (by decide +kernel) (pa_cons (pv 0) pa_nil)) pa_nil)) (pg_name (i := 2) sc_all_orders.nd rfl (by first | exact Or.inl rfl | exact Or.inr rfl)) (pss_one (ps_expr (kpe_bm (K := K) rfl PySem.F.plainAttrs_list PySem.F.slot_list_extend PySem.F.type_list_extend mt_extend (pv 1) (pa_cons (pe_lc (own := [("rest", 3)]) (g := (gName 3)) rfl sc_all_orders.nd (kpi_list (K := K) rfl (pe_has H_all_orders hr (by omega) rfl pass0 (pa_cons (pe_op (kop_add (K := K) rfl) (pe_slice (ksl (K := K) rfl) (pv 0) po_none (po_some (pv 2))) (pe_slice (ksl (K := K) rfl) (pv 0) (po_some (pe_op (kop_add (K := K) rfl) (pv 2) pe_int)) po_none)) pa_nil))) (blkOk_by (N := ["places", "found", "k", "rest"]) (sc := defScope s_all_orders) (own := [("rest", 3)]) (by decide +kernel)) (fun _ _ _ _ _ => (pg_name (i := 3) sc_all_orders.nd rfl (by first | exact Or.inl rfl | exact Or.inr rfl))) (fun _ _ _ _ _ => pts_nil) (fun _ _ _ _ _ => (pe_op (kop_add (K := K) rfl) (pe_lst (pa_cons (pe_ix (kix (K := K) rfl) (pv 0) (pv 2) (fun _ _ => rfl)) pa_nil)) (pv 3)))) pa_nil)))))
 (pss_one (ps_ret (pv 1)))))), ?_⟩
      refine r_start (σ' := [some (.ref l), none, none, none]) rfl ?_
      walk_at "go"
      intro t0 n0
      walk_at "go"
      refine r_eqNil (at_new n0 hl) upd_same ?_
      walk_at "go"
      have s0 : Same H (upd H t0 (.lst [])) := same_new n0
      generalize upd H t0 (.lst []) = H0 at s0
      refine iteD (fun c => ?_) (fun c => ?_)
      · walk_at "go"
        intro a na
        walk_at "go"
        intro q nq
        refine k q [a] _ ((s0.trans (same_new na)).free nq) ((s0.trans (same_new na)).trans (same_new nq)) upd_same ?_ fun b hb => ?_
        · have e : perms n ps = [[]] := by
            rw [c]
            cases n with
            | zero => rfl
            | succ n => rw [perms, if_pos rfl]
          rw [e]
          exact Rows.snoc Rows.nil (at_new nq upd_same)
        · rw [List.mem_singleton.mp hb]
          exact ⟨s0.free na, ne_of_none upd_same nq⟩
      · walk_at "go"
        intro fd nfd
        walk_at "go"
        have hps : 0 < ps.length := List.length_pos_iff.mpr c
        obtain ⟨m, rfl⟩ : ∃ m, n = m + 1 := ⟨n - 1, by omega⟩
        have nfH : H fd = none := s0.free nfd
        rw [List.length_map]
        refine ⟨_, rfl, by omega, by omega, fw_range (fun j σ H3 => ∃ (v2 v3 : Option V) (as : List Addr), σ = [some (.ref l), some (.ref fd), v2, v3] ∧ Same H H3 ∧ H3 fd = some (.lst (as.map V.ref)) ∧
            Rows H3 as ((List.range j).flatMap fun k => (perms m (ps.take k ++ ps.drop (k + 1))).map (ps.getD k 0 :: ·)) ∧ ∀ a ∈ as, H a = none ∧ a ≠ fd)
          ⟨_, _, [], rfl, s0.trans (same_new nfd), upd_same, Rows.nil, fun a h => by simp at h⟩ ?_ ?_⟩
        · rintro j σ H3 hj ⟨v2, v3, as, rfl, s3, hfd3, hR, hA⟩
          have hjl : j < ps.length := hj
          have ej : (0 + (j : Int)).toNat = j := by omega
          have ej1 : (0 + (j : Int) + 1).toNat = j + 1 := by omega
          walk_at "go"
          refine ⟨r_tyL hfd3, ?_⟩
          walk_at "go"
          refine r_slL (SqL.of (s3 _ _ hl)) fun c1 nc1 => ?_
          rw [cut_take V.int ps (by omega), ej]
          walk_at "go"
          refine r_slL (SqL.of (at_new nc1 (s3 _ _ hl))) fun c2 nc2 => ?_
          rw [cut_drop V.int ps (by omega), ej1]
          walk_at "go"
          refine r_addL (at_new nc2 upd_same) upd_same (by rw [List.length_map, List.length_map, List.length_take, List.length_drop]; exact Nat.le_of_lt (small1000 (by omega))) fun c3 nc3 => ?_
          walk_at "go"
          have hc3 : upd (upd (upd H3 c1 (.lst ((ps.take j).map V.int))) c2 (.lst ((ps.drop (j + 1)).map V.int))) c3 (.lst ((ps.take j).map V.int ++ (ps.drop (j + 1)).map V.int)) c3 = some (.lst ((ps.take j ++ ps.drop (j + 1)).map V.int)) := by rw [upd_same, List.map_append]
          have s34 : Same H3 (upd (upd (upd H3 c1 (.lst ((ps.take j).map V.int))) c2 (.lst ((ps.drop (j + 1)).map V.int))) c3 (.lst ((ps.take j).map V.int ++ (ps.drop (j + 1)).map V.int))) := (same_new nc1).trans ((same_new nc2).trans (same_new nc3))
          generalize upd (upd (upd H3 c1 (.lst ((ps.take j).map V.int))) c2 (.lst ((ps.drop (j + 1)).map V.int))) c3 (.lst ((ps.take j).map V.int ++ (ps.drop (j + 1)).map V.int)) = H4 at hc3 s34
          refine spAO_i hc3 (by rw [List.length_append, List.length_take, List.length_drop]; omega) (by omega) fun q5 bs H5 nq5 h45 hq5 hR5 hF5 => ?_
          have s35 : Same H3 H5 := s34.trans h45
          walk_at "go"
          have hrl : bs.length = (perms m (ps.take j ++ ps.drop (j + 1))).length := hR5.1
          have hpl : (perms m (ps.take j ++ ps.drop (j + 1))).length ≤ 120 := Nat.le_trans (perms_len m _ (by rw [List.length_append, List.length_take, List.length_drop]; omega)) (fac_5 (by omega))
          generalize hX : perms m (ps.take j ++ ps.drop (j + 1)) = rws at hR5 hrl hpl
          have hrw : ∀ row ∈ rws, row.length ≤ m := fun row h => perms_row m _ row (by rw [hX]; exact h)
          refine ⟨q5, rfl, ⟨_, SqL.of hq5⟩, fun D nD => lcw_list (K := K) (a := q5) (xs := bs.map V.ref) (σw := [some (.ref l), some (.ref fd), some (.int (0 + j)), none])
            (fun i H8 => Same H5 H8 ∧ ∃ ds : List Addr, H8 D = some (.lst (ds.map V.ref)) ∧ Rows H8 ds ((rws.take i).map (ps.getD j 0 :: ·)) ∧ ∀ a ∈ ds, H5 a = none ∧ a ≠ D) rfl
            ⟨same_new nD, [], upd_same, Rows.nil, fun a h => by simp at h⟩ (fun i H8 _ h => SqL.of (h.1 _ _ hq5)) (fun i y H8 hi h => ?_) fun H8 h => ?_⟩
          · obtain ⟨h8, ds, hD, hR8, hF8⟩ := h
            obtain ⟨b, hb, rfl⟩ := map_at hi
            have hil : i < rws.length := by rw [← hrl]; exact (List.getElem?_eq_some_iff.mp hb).1
            obtain ⟨row, hrow⟩ : ∃ row, rws[i]? = some row := ⟨_, List.getElem?_eq_getElem hil⟩
            have hbb := h8 _ _ (hR5.2 i b row hb hrow)
            have hll := h8 _ _ (s35 _ _ (s3 _ _ hl))
            have hrlen := hrw row (List.mem_of_getElem? hrow)
            walk_at "go"
            refine ⟨rfl, ?_⟩
            walk_at "go"
            refine iteT ?_
            walk_at "go"
            refine r_ix (v := .int (ps.getD j 0)) (.inl (SqL.of hll)) (at_of (j := j) (by omega) (by rw [List.getElem?_map, List.getElem?_eq_getElem hjl, List.getD_eq_getElem?_getD, List.getElem?_eq_getElem hjl] <;> rfl)) ?_
            walk_at "go"
            intro d nd
            walk_at "go"
            refine r_addL upd_same (at_new nd hbb) (by rw [List.length_map]; show 1 + _ ≤ sizeLine; exact Nat.le_of_lt (small1000 (by omega))) fun c7 nc7 => ?_
            walk_at "go"
            have hds : ds.length ≤ 120 := by
              have := hR8.1
              rw [List.length_map, List.length_take] at this
              omega
            have h8c : Same H8 (upd (upd H8 d (.lst [.int (ps.getD j 0)])) c7 (.lst ([.int (ps.getD j 0)] ++ row.map V.int))) := (same_new nd).trans (same_new nc7)
            have hc7 : upd (upd H8 d (.lst [.int (ps.getD j 0)])) c7 (.lst ([.int (ps.getD j 0)] ++ row.map V.int)) c7 = some (.lst ((ps.getD j 0 :: row).map V.int)) := upd_same
            have c7D : c7 ≠ D := (ne_of_none (at_new (u := .lst [.int (ps.getD j 0)]) nd hD) nc7).symm
            refine ⟨_, h8c _ _ hD, by rw [List.length_map]; exact small1000 (by omega), fun b' o e => at_wr (ne_of_none e nD) (h8c _ _ (h8 _ _ e)), ds ++ [c7], by rw [upd_same]; simp, ?_, fun a ha => ?_⟩
            · rw [take_snoc hrow, List.map_append]
              exact Rows.snoc ((hR8.mono fun b' o e _ => h8c _ _ e).mono fun b' o e hb' => at_wr (hF8 b' hb').2 e) (at_wr c7D hc7)
            · rcases List.mem_append.mp ha with ha | ha
              · exact hF8 a ha
              · rw [List.mem_singleton.mp ha]
                exact ⟨(h8.trans (same_new nd)).free nc7, c7D⟩
          · obtain ⟨h8, ds, hD, hR8, hF8⟩ := h
            rw [List.length_map, hrl, List.take_length] at hR8
            walk_at "go"
            have hfd8 := h8 _ _ (s35 _ _ hfd3)
            have hds : ds.length ≤ 120 := by
              have := hR8.1
              rw [List.length_map] at this
              omega
            have has : as.length ≤ 600 := by
              have e := hR.1
              have part : ∀ q, q ≤ j → ((List.range q).flatMap fun k => (perms m (ps.take k ++ ps.drop (k + 1))).map (ps.getD k 0 :: ·)).length ≤ q * 120 := by
                intro q
                induction q with
                | zero => intro _; exact Nat.zero_le _
                | succ q ih =>
                  intro hq
                  rw [List.range_succ, List.flatMap_append, List.length_append]
                  have a := ih (by omega)
                  have b : ((List.flatMap (fun k => (perms m (ps.take k ++ ps.drop (k + 1))).map (ps.getD k 0 :: ·)) [q])).length ≤ 120 := by
                    rw [List.flatMap_cons, List.flatMap_nil, List.append_nil, List.length_map]
                    exact Nat.le_trans (perms_len m _ (by rw [List.length_append, List.length_take, List.length_drop]; omega)) (fac_5 (by omega))
                  rw [Nat.succ_mul]
                  omega
              have := part j (Nat.le_refl _)
              omega
            have Dfd : D ≠ fd := fun e => by
              rw [e] at nD
              rw [s35 _ _ hfd3] at nD
              cases nD
            refine r_extend hfd8 hD (by rw [List.length_map, List.length_map]; exact Nat.le_of_lt (small1000 (by omega))) fun H9 e9 w9 => ?_
            walk_at "go"
            have s38 : Same H3 H8 := s35.trans h8
            refine ⟨_, _, as ++ ds, rfl, fun b o e => w9 _ _ (ne_of_none e nfH) (s38 _ _ (s3 _ _ e)), by rw [e9]; simp, ?_, fun a ha => ?_⟩
            · rw [List.range_succ, List.flatMap_append, List.flatMap_cons, List.flatMap_nil, List.append_nil, hX]
              refine Rows.app ((hR.mono fun b o e _ => s38 _ _ e).mono fun b o e hb => w9 _ _ (hA b hb).2 e) (hR8.mono fun b o e hb => w9 _ _ ?_ e)
              exact fun z => by
                have := (hF8 b hb).1
                rw [z, s35 _ _ hfd3] at this
                cases this
            · rcases List.mem_append.mp ha with ha | ha
              · exact hA a ha
              · refine ⟨(s3.trans s35).free (hF8 a ha).1, fun z => ?_⟩
                have := (hF8 a ha).1
                rw [z, s35 _ _ hfd3] at this
                cases this
        · rintro σ H3 ⟨v2, v3, as, rfl, s3, hfd3, hR, hA⟩
          walk_at "go"
          refine k fd as H3 nfH s3 hfd3 ?_ hA
          rw [perms, if_neg c]
          exact hR
theorem perms_mem : ∀ (n : Nat) (ps row : List Int), row ∈ perms n ps → ∀ k ∈ row, k ∈ ps
  | 0, _, row, h, k, hk => by
    rw [List.mem_singleton.mp h] at hk
    cases hk
  | n + 1, ps, row, h, k, hk => by
    rw [perms] at h
    split at h
    · rw [List.mem_singleton.mp h] at hk
      cases hk
    · obtain ⟨i, hi, h⟩ := List.mem_flatMap.mp h
      obtain ⟨z, hz, e⟩ := List.mem_map.mp h
      rw [List.mem_range] at hi
      rw [← e] at hk
      rcases List.mem_cons.mp hk with e | hk
      · rw [e, List.getD_eq_getElem?_getD, List.getElem?_eq_getElem hi]
        exact List.getElem_mem hi
      · rcases List.mem_append.mp (perms_mem n _ z hz k hk) with m | m
        · exact List.mem_of_mem_take m
        · exact List.mem_of_mem_drop m
theorem perms_pos : ∀ (n : Nat) (ps : List Int), ps.length ≤ n → 0 < (perms n ps).length
  | 0, _, _ => Nat.zero_lt_one
  | n + 1, ps, h => by
    rw [perms]
    split
    · exact Nat.zero_lt_one
    · rename_i c
      have hp : 0 < ps.length := List.length_pos_iff.mpr c
      have a := perms_pos n (ps.take 0 ++ ps.drop (0 + 1)) (by rw [List.length_append, List.length_take, List.length_drop]; omega)
      obtain ⟨z, hz⟩ := List.exists_mem_of_length_pos a
      exact List.length_pos_of_mem (List.mem_flatMap.mpr ⟨0, List.mem_range.mpr hp, List.mem_map.mpr ⟨z, hz, rfl⟩⟩)
/-- the places 0, 1, .. -/
def idx (n : Nat) : List Int := (List.range n).map fun i : Nat => (i : Int)
theorem idx_rg (n : Nat) : rgV 0 (n : Int) = (idx n).map V.int := by
  unfold rgV idx
  rw [List.map_map, show ((n : Int) - 0).toNat = n by omega]
  refine List.map_congr_left fun i _ => ?_
  show V.int (0 + (i : Int)) = V.int (i : Int)
  congr 1
  omega
theorem idx_len (n : Nat) : (idx n).length = n := by
  unfold idx
  rw [List.length_map, List.length_range]
def pick (gs o : List Int) : List Int := o.map fun k => gs.getD k.toNat 0
/-- what tour tells: the least sum and the first order that has it -/
def TourR (r p : Int) (x : Int × Int) (gs : List Int) (q : Int × List Int) : Prop := q.2 ∈ perms 5 (idx gs.length) ∧ (∃ row, BestR (rowsOf r p x (pick gs q.2)) (q.1, row)) ∧
  ∀ o ∈ perms 5 (idx gs.length), ∀ (s : Int) (row : List Int), BestR (rowsOf r p x (pick gs o)) (s, row) → ltL (s :: o) (q.1 :: q.2) = false
def spTour (K : PySem.W.Frag) : Sp := fun vs H Q _ => ∃ (g : Addr) (r p : Int) (z : Addr) (x : Int × Int) (l : Addr) (gs : List Int), vs = [.ref g, .ref z, .ref l] ∧ GearAt H g r p ∧ H z = some (.tup [.int x.1, .int x.2]) ∧ Stg p x ∧ SqL K H l (gs.map V.int) ∧ gs.length ≤ 5 ∧ (∀ y ∈ gs, 0 ≤ y ∧ y < r) ∧
  ∀ (t a : Addr) (q : Int × List Int) (H' : Hp), H t = none → H a = none → Same H H' → H' t = some (.tup [.int q.1, .ref a]) → H' a = some (.lst (q.2.map V.int)) → q.2.length ≤ 100 → TourR r p x gs q → Q (.ref t) H'
theorem spTour_i {g z l : Addr} {r p : Int} {x : Int × Int} {gs : List Int} {H : Hp} {Q : VK} {E : XK} (G : GearAt H g r p) (hz : H z = some (.tup [.int x.1, .int x.2])) (hs : Stg p x) (hl : SqL K H l (gs.map V.int)) (hn : gs.length ≤ 5) (hg : ∀ y ∈ gs, 0 ≤ y ∧ y < r)
    (k : ∀ (t a : Addr) (q : Int × List Int) (H' : Hp), H t = none → H a = none → Same H H' → H' t = some (.tup [.int q.1, .ref a]) → H' a = some (.lst (q.2.map V.int)) → q.2.length ≤ 100 → TourR r p x gs q → Q (.ref t) H') : spTour K [.ref g, .ref z, .ref l] H Q E := ⟨g, r, p, z, x, l, gs, rfl, G, hz, hs, hl, hn, hg, k⟩
theorem r_lstRg1 {ta : TE} {σ : L2.St} {H : Hp} {Q : VK} (k : ta σ H fun x H1 => ∃ i, x = .int i ∧ RgOk 0 i ∧ ∀ q, H1 q = none → Q (.ref q) (upd H1 q (.lst (rgV 0 i)))) : tLstRg (tRg1 ta) σ H Q := k
theorem ok_tour (B : Bl mg) (F : FunAt K mg "tour" s_tour) (M_MOST_TOUR : Cn mg "MOST_TOUR" 5) (H_need_goals : Has P w K mg base CX0 3 "need_goals" (spGoals K)) (H_best_path : Has P w K mg base CX0 10 "best_path" (spBest K 9)) (H_all_orders : Has P w K mg base CX0 6 "all_orders" (spAO K 6)) : Has P w K mg base CX0 11 "tour" (spTour K) := by
  refine F.ok sc_tour bo_tour (fun vs H Q E h => ?_) (fun f cdv A outer s H vs Q E hr h => ?_)
  · obtain ⟨g, r, p, z, x, l, gs, rfl, _⟩ := h
    rfl
  · obtain ⟨g, r, p, z, x, l, gs, rfl, G, hz, hs, hl, hn, hg, k⟩ := h
    refine ⟨_, (pss_cons (ps_expr (pe_has H_need_goals hr (by omega) rfl pass0 (pa_cons (pv 0) (pa_cons (pv 1) (pa_cons (pv 2) (pa_cons (pe_cn M_MOST_TOUR rfl) pa_nil))))))
 (pss_cons (ps_set (i := 3) sc_tour.nd rfl (by first | exact Or.inl rfl | exact Or.inr rfl) (pe_lst pa_nil))
 (pss_cons (ps_for PassesOwn.never rfl (kpi_list (K := K) rfl (pe_has H_all_orders hr (by omega) rfl pass0 (pa_cons (pe_listRg rfl rfl B.list (prg_1 rfl B.range (pe_callB (kc_len (K := K) rfl) rfl B.len (by decide +kernel) (pa_cons (pv 2) pa_nil)))) pa_nil))) (pg_name (i := 4) sc_tour.nd rfl (by first | exact Or.inl rfl | exact Or.inr rfl)) (pss_one (ps_expr (kpe_bm (K := K) rfl PySem.F.plainAttrs_list PySem.F.slot_list_append PySem.F.type_list_append mt_append (pv 3) (pa_cons (pe_tup (pa_cons (pe_ix (kix (K := K) rfl) (pe_has H_best_path hr (by omega) rfl pass0 (pa_cons (pv 0) (pa_cons (pv 1) (pa_cons (pe_lc (own := [("k", 5)]) (g := (gName 5)) rfl sc_tour.nd (kpi_list (K := K) rfl (pv 4)) (blkOk_by (N := ["gear", "standing", "goals", "found", "order", "k"]) (sc := defScope s_tour) (own := [("k", 5)]) (by decide +kernel)) (fun _ _ _ _ _ => (pg_name (i := 5) sc_tour.nd rfl (by first | exact Or.inl rfl | exact Or.inr rfl))) (fun _ _ _ _ _ => pts_nil) (fun _ _ _ _ _ => (pe_ix (kix (K := K) rfl) (pv 2) (pv 5) (fun _ _ => rfl)))) pa_nil)))) pe_int (fun _ _ => rfl)) (pa_cons (pv 4) pa_nil))) pa_nil)))))
 (pss_one (ps_ret (pe_callB (kc_minTL (K := K) rfl rfl hr.units) rfl B.min (by decide +kernel) (pa_cons (pv 3) pa_nil))))))), ?_⟩
    refine r_start (σ' := [some (.ref g), some (.ref z), some (.ref l), none, none, none]) rfl ?_
    walk_at "go"
    refine spGoals_i G hz hs hl (by omega) (by omega) hg fun H2 h2 => ?_
    walk_at "go"
    intro fd nfd
    walk_at "go"
    have s3 : Same H (upd H2 fd (.lst [])) := h2.trans (same_new nfd)
    have hfd : upd H2 fd (.lst []) fd = some (.lst []) := upd_same
    have nfH : H fd = none := h2.free nfd
    generalize upd H2 fd (.lst []) = H3 at s3 hfd ⊢
    refine r_lstRg1 ?_
    have hl3 := s3.seq hl
    walk_at "go"
    rw [List.length_map]
    refine ⟨⟨by omega, by omega, by omega, by omega, by omega⟩, fun q4 nq4 => ?_⟩
    rw [idx_rg]
    walk_at "go"
    refine spAO_i upd_same (by rw [idx_len]; exact hn) (by decide) fun q5 as H5 nq5 h5 hq5 hR5 hF5 => ?_
    have h35 : Same H3 H5 := (same_new nq4).trans h5
    have s5 : Same H H5 := s3.trans h35
    have hfd5 := h35 _ _ hfd
    have q5fd : q5 ≠ fd := fun e => by
      rw [e, at_new (u := .lst ((idx gs.length).map V.int)) nq4 hfd] at nq5
      cases nq5
    have hAfd : ∀ a ∈ as, H a = none ∧ a ≠ fd := fun a ha => by
      refine ⟨(s3.trans (same_new nq4)).free (hF5 a ha).1, fun e => ?_⟩
      have := (hF5 a ha).1
      rw [e, at_new (u := .lst ((idx gs.length).map V.int)) nq4 hfd] at this
      cases this
    have hpos := perms_pos 5 (idx gs.length) (by rw [idx_len]; exact hn)
    have hle : (perms 5 (idx gs.length)).length ≤ 120 := perms_len 5 _ (by rw [idx_len]; exact hn)
    have hro : ∀ o ∈ perms 5 (idx gs.length), o.length ≤ 5 ∧ ∀ k ∈ o, ∃ n : Nat, k = n ∧ n < gs.length := fun o ho => ⟨perms_row 5 _ o ho, fun k hk => by
      obtain ⟨n, hn, e⟩ := List.mem_map.mp (perms_mem 5 _ o ho k hk)
      exact ⟨n, e.symm, List.mem_range.mp hn⟩⟩
    have hlen5 : as.length = (perms 5 (idx gs.length)).length := hR5.1
    walk_at "go"
    refine ⟨q5, rfl, ⟨_, SqL.of hq5⟩, fw_list (K := K) (a := q5) (xs := as.map V.ref) (fun j σ H6 => ∃ (v4 v5 : Option V) (ts : List Addr) (rws : List (Int × List Int)), σ = [some (.ref g), some (.ref z), some (.ref l), some (.ref fd), v4, v5] ∧ Same H H6 ∧ H6 q5 = some (.lst (as.map V.ref)) ∧
        H6 fd = some (.lst (ts.map V.ref)) ∧ Rows H6 as (perms 5 (idx gs.length)) ∧ NRows H6 ts (as.take j) rws ∧ (∀ t ∈ ts, H t = none ∧ t ≠ fd) ∧ ∀ (i : Nat) (q : Int × List Int), rws[i]? = some q → (perms 5 (idx gs.length))[i]? = some q.2 ∧ ∃ row, BestR (rowsOf r p x (pick gs q.2)) (q.1, row))
      ⟨_, _, [], [], rfl, s5, hq5, hfd5, hR5, NRows.nil, fun t h => (by simp at h), fun i q h => by simp at h⟩ (fun j σ H6 _ h => ?_) ?_ ?_⟩
    · obtain ⟨_, _, _, _, _, _, e, _⟩ := h
      exact SqL.of e
    · rintro j y σ H6 hj ⟨v4, v5, ts, rws, rfl, s6, hq6, hfd6, hR6, hN, hT, hB⟩
      obtain ⟨a, ha, rfl⟩ := map_at hj
      have hjl : j < as.length := (List.getElem?_eq_some_iff.mp ha).1
      obtain ⟨o, ho⟩ : ∃ o, (perms 5 (idx gs.length))[j]? = some o := ⟨_, List.getElem?_eq_getElem (by omega)⟩
      have hom := List.mem_of_getElem? ho
      obtain ⟨ho5, hok⟩ := hro o hom
      have hao := hR6.2 j a o ha ho
      walk_at "go"
      refine ⟨r_tyL hfd6, ?_⟩
      walk_at "go"
      refine ⟨a, rfl, ⟨_, SqL.of hao⟩, fun D nD => lcw_list (K := K) (a := a) (xs := o.map V.int) (σw := [some (.ref g), some (.ref z), some (.ref l), some (.ref fd), some (.ref a), none])
        (fun i H8 => Same H6 H8 ∧ H8 D = some (.lst (((o.take i).map fun k => gs.getD k.toNat 0).map V.int))) rfl ⟨same_new nD, upd_same⟩ (fun i H8 _ h => SqL.of (h.1 _ _ hao)) (fun i y H8 hi h => ?_) fun H8 h => ?_⟩
      · obtain ⟨h8, hD⟩ := h
        obtain ⟨kk, hk, rfl⟩ := map_at hi
        obtain ⟨n, rfl, hnl⟩ := hok kk (List.mem_of_getElem? hk)
        have hl8 : SqL K H8 l (gs.map V.int) := (s6.trans h8).seq hl
        walk_at "go"
        refine ⟨rfl, ?_⟩
        walk_at "go"
        refine iteT ?_
        walk_at "go"
        refine r_ix (v := .int (gs.getD n 0)) (.inl hl8) (at_of (j := n) rfl (by rw [List.getElem?_map, List.getElem?_eq_getElem hnl, List.getD_eq_getElem?_getD, List.getElem?_eq_getElem hnl] <;> rfl)) ?_
        refine ⟨_, hD, by rw [List.length_map, List.length_map, List.length_take]; exact small1000 (by omega), fun b' o' e => at_wr (ne_of_none e nD) (h8 _ _ e), ?_⟩
        rw [upd_same, take_snoc hk]
        simp
      · obtain ⟨h8, hD⟩ := h
        rw [List.length_map, List.take_length] at hD
        have s8 : Same H H8 := s6.trans h8
        walk_at "go"
        refine spBest_i (gs := pick gs o) (s8 _ _ G.at_) (by have := G.r2; omega) (s8 _ _ hz) hD (by unfold pick; rw [List.length_map]; omega) (by decide) fun t9 a9 q9 H9 nt9 na9 h9 ht9 ha9 hq9 bst => ?_
        walk_at "go"
        have h69 : Same H6 H9 := h8.trans h9
        intro t nt
        walk_at "go"
        have h6t : Same H6 (upd H9 t (.tup [.int q9.1, .ref a])) := h69.trans (same_new nt)
        have ht : upd H9 t (.tup [.int q9.1, .ref a]) t = some (.tup [.int q9.1, .ref a]) := upd_same
        have tfd : t ≠ fd := (ne_of_none (h69 _ _ hfd6) nt).symm
        have tH : H t = none := (s6.trans h69).free nt
        generalize upd H9 t (.tup [.int q9.1, .ref a]) = H10 at h6t ht ⊢
        have hts : ts.length ≤ 120 := by
          have e1 := hN.1
          have e2 := hN.2.1
          rw [List.length_take] at e2
          omega
        refine r_appA (h6t _ _ hfd6) (by rw [List.length_map]; exact small1000 (by omega)) fun H11 e11 w11 => ?_
        walk_at "go"
        have amem := List.mem_of_getElem? ha
        have hrl : rws.length = j := by
          have e2 := hN.2.1
          rw [List.length_take] at e2
          omega
        refine ⟨_, _, ts ++ [t], rws ++ [(q9.1, o)], rfl, fun b o' e => w11 _ _ (ne_of_none e nfH) (h6t _ _ (s6 _ _ e)), w11 _ _ q5fd (h6t _ _ hq6), by rw [e11]; simp, ?_, ?_, fun b hb => ?_, fun i q e => ?_⟩
        · exact (hR6.mono fun b o' e _ => h6t _ _ e).mono fun b o' e hb => w11 _ _ (hAfd b hb).2 e
        · rw [take_snoc ha]
          refine NRows.snoc ((hN.mono fun b o' e _ => h6t _ _ e).mono fun b o' e ⟨i, hi⟩ => w11 _ _ ?_ e) (w11 _ _ tfd ht) (w11 _ _ (hAfd a amem).2 (h6t _ _ hao))
          rcases hi with hi | hi
          · exact (hT b (List.mem_of_getElem? hi)).2
          · exact (hAfd b (List.mem_of_mem_take (List.mem_of_getElem? hi))).2
        · rcases List.mem_append.mp hb with hb | hb
          · exact hT b hb
          · rw [List.mem_singleton.mp hb]
            exact ⟨tH, tfd⟩
        · rcases at_snoc e with ⟨f1, _⟩ | ⟨f1, rfl⟩
          · exact hB i q f1
          · rw [f1, hrl]
            exact ⟨ho, q9.2, bst⟩
    · rintro σ H6 ⟨v4, v5, ts, rws, rfl, s6, hq6, hfd6, hR6, hN, hT, hB⟩
      rw [List.length_map, List.take_length] at hN
      have hrl : rws.length = (perms 5 (idx gs.length)).length := by
        have := hN.2.1
        omega
      walk_at "go"
      refine ⟨fd, ts, as, rws, rfl, SqL.of hfd6, hN, by omega, fun i t row ht hrow best => ?_⟩
      obtain ⟨a, ha⟩ : ∃ a, as[i]? = some a := ⟨_, List.getElem?_eq_getElem (by
        have := (List.getElem?_eq_some_iff.mp hrow).1
        have := hN.2.1
        omega)⟩
      obtain ⟨e1, e2⟩ := hN.2.2 i t a row ht ha hrow
      obtain ⟨b1, b2⟩ := hB i row hrow
      have hm := List.mem_of_getElem? b1
      refine k t a row H6 (hT t (List.mem_of_getElem? ht)).1 (hAfd a (List.mem_of_getElem? ha)).1 s6 e1 e2 (by have := (hro _ hm).1; omega) ⟨hm, b2, fun o' ho' s' row' bb => ?_⟩
      obtain ⟨j, hj⟩ := List.mem_iff_getElem?.mp ho'
      have hjl : j < rws.length := by
        rw [hrl]
        exact (List.getElem?_eq_some_iff.mp hj).1
      obtain ⟨c1, row2, c2⟩ := hB j _ (List.getElem?_eq_getElem hjl)
      rw [hj] at c1
      have e3 := Option.some.inj c1
      rw [← e3] at c2
      have e4 := bb.one c2
      have e5 : s' = (rws[j]'hjl).1 := congrArg Prod.fst e4
      rw [e5, e3]
      exact best _ (List.getElem_mem hjl)
end
end Rd

namespace Rd
open PySem L2
theorem TourR.one {r p : Int} {x : Int × Int} {gs : List Int} {q z : Int × List Int} (a : TourR r p x gs q) (b : TourR r p x gs z) : q = z := by
  obtain ⟨a1, ⟨ra, a2⟩, a3⟩ := a
  obtain ⟨b1, ⟨rb, b2⟩, b3⟩ := b
  have h1 := a3 z.2 b1 z.1 rb b2
  have h2 := b3 q.2 a1 q.1 ra a2
  have e := ltL_tri _ _ h2 h1
  injection e with e1 e2
  exact Prod.ext e1 e2
theorem perms_sorted {n : Nat} (h : n ≤ 5) : (perms 5 (idx n)).Pairwise fun a b => ltL a b = true := by
  match n, h with
  | 0, _ => decide +kernel
  | 1, _ => decide +kernel
  | 2, _ => decide +kernel
  | 3, _ => decide +kernel
  | 4, _ => decide +kernel
  | 5, _ => decide +kernel
theorem first_tour {r p : Int} {x : Int × Int} {gs : List Int} {s : Int} {o row : List Int} {jo : Nat} (hn : gs.length ≤ 5) (h1 : (perms 5 (idx gs.length))[jo]? = some o) (h2 : BestR (rowsOf r p x (pick gs o)) (s, row))
    (h3 : ∀ (i : Nat) (o' : List Int) (s' : Int) (row' : List Int), (perms 5 (idx gs.length))[i]? = some o' → BestR (rowsOf r p x (pick gs o')) (s', row') → s ≤ s' ∧ (s' = s → jo ≤ i)) : TourR r p x gs (s, o) := by
  refine ⟨List.mem_of_getElem? h1, ⟨row, h2⟩, fun o' ho' s' row' bb => ?_⟩
  obtain ⟨i, hi⟩ := List.mem_iff_getElem?.mp ho'
  obtain ⟨a, b⟩ := h3 i o' s' row' hi bb
  dsimp only
  rw [ltL]
  by_cases c : s' = s
  · rw [if_pos c]
    have d := b c
    by_cases e : jo = i
    · rw [← e, h1] at hi
      rw [Option.some.inj hi]
      exact ltL_irrefl _
    · obtain ⟨l1, g1⟩ := List.getElem?_eq_some_iff.mp h1
      obtain ⟨l2, g2⟩ := List.getElem?_eq_some_iff.mp hi
      have := List.pairwise_iff_getElem.mp (perms_sorted hn) jo i l1 l2 (by omega)
      rw [g1, g2] at this
      exact ltL_asym _ _ this
  · rw [if_neg c]
    exact decide_eq_false (by omega)
end Rd

namespace Rd
open PySem L2
/-! ## what the shaft's way to several goals costs, plain -/
theorem far_q7 (r goal s : Int) : ∃ q, goal - s = (goal - s) % r + r * q := ⟨(goal - s) / r, (Int.emod_add_mul_ediv _ _).symm⟩
def cost (r p : Int) : Int × Int → List Int → Int
  | _, [] => 0
  | x, g :: gs => if (g - x.2) % r = 0 then cost r p x gs else
    min ((x.2 + (g - x.2) % r + p - x.1) + cost r p (x.2 + (g - x.2) % r + p, x.2 + (g - x.2) % r) gs) ((x.1 - (x.2 + (g - x.2) % r - r)) + cost r p (x.2 + (g - x.2) % r - r, x.2 + (g - x.2) % r - r) gs)
theorem nx_zero {p : Int} {x : Int × Int} (h : Stg p x) : nx p x 0 = x := by
  obtain ⟨a, b⟩ := h
  unfold nx pb
  refine Prod.ext (by dsimp only; omega) ?_
  dsimp only
  omega
theorem nx_up {p f : Int} {x : Int × Int} (h : Stg p x) (hp : 0 ≤ p) (hf : 0 < f) : nx p x (x.2 + f + p - x.1) = (x.2 + f + p, x.2 + f) := by
  obtain ⟨a, b⟩ := h
  unfold nx pb
  refine Prod.ext (by dsimp only; omega) ?_
  dsimp only
  omega
theorem nx_dn {p f : Int} {x : Int × Int} (h : Stg p x) (hp : 0 ≤ p) (hf : f < 0) : nx p x (x.2 + f - x.1) = (x.2 + f, x.2 + f) := by
  obtain ⟨a, b⟩ := h
  unfold nx pb
  refine Prod.ext (by dsimp only; omega) ?_
  dsimp only
  omega
theorem stg_up {p u : Int} (hp : 0 ≤ p) : Stg p (u + p, u) := ⟨by dsimp only; omega, by dsimp only; omega⟩
theorem stg_dn {p u : Int} (hp : 0 ≤ p) : Stg p (u, u) := ⟨by dsimp only; omega, by dsimp only; omega⟩
theorem cost_nn {r p : Int} (hr : 0 < r) (hp : 0 ≤ p) : ∀ (gs : List Int) (x : Int × Int), Stg p x → 0 ≤ cost r p x gs
  | [], _, _ => Int.le_refl 0
  | g :: gs, x, h => by
    have f0 := Int.emod_nonneg (g - x.2) (show r ≠ 0 by omega)
    have f1 := Int.emod_lt_of_pos (g - x.2) hr
    rw [cost]
    split
    · exact cost_nn hr hp gs x h
    · rename_i c
      have a := cost_nn hr hp gs (x.2 + (g - x.2) % r + p, x.2 + (g - x.2) % r) (stg_up hp)
      have b := cost_nn hr hp gs (x.2 + (g - x.2) % r - r, x.2 + (g - x.2) % r - r) (stg_dn hp)
      obtain ⟨h1, h2⟩ := h
      omega
def adk (k : Int) (q : Int × List Int) : Int × List Int := (q.1 + k.natAbs, k :: q.2)
/-- one way of the two, and the other -/
theorem rows_cost {r p : Int} (hr : 0 < r) (hp : 0 ≤ p) : ∀ (gs : List Int) (x : Int × Int), Stg p x → (∀ q ∈ rowsOf r p x gs, cost r p x gs ≤ q.1) ∧ ∃ q ∈ rowsOf r p x gs, q.1 = cost r p x gs
  | [], x, _ => ⟨fun q h => by rw [List.mem_singleton.mp h]; exact Int.le_refl 0, (0, []), List.mem_singleton.mpr rfl, rfl⟩
  | g :: gs, x, h => by
    have f0 := Int.emod_nonneg (g - x.2) (show r ≠ 0 by omega)
    have f1 := Int.emod_lt_of_pos (g - x.2) hr
    have h' := h
    obtain ⟨h1, h2⟩ := h'
    rw [cost]
    by_cases c : (g - x.2) % r = 0
    · rw [if_pos c]
      obtain ⟨a, q, hq, e⟩ := rows_cost hr hp gs x h
      have ec : chs r p x g = [0] := by rw [chs, if_pos c]
      refine ⟨fun z hz => ?_, ⟨(q.1 + (0 : Int).natAbs, 0 :: q.2), ?_, ?_⟩⟩
      · rw [rowsOf, ec, List.flatMap_cons, List.flatMap_nil, List.append_nil, nx_zero h] at hz
        obtain ⟨y, hy, rfl⟩ := List.mem_map.mp hz
        have := a y hy
        dsimp only
        omega
      · rw [rowsOf, ec, List.flatMap_cons, List.flatMap_nil, List.append_nil, nx_zero h]
        exact List.mem_map.mpr ⟨q, hq, rfl⟩
      · dsimp only
        omega
    · rw [if_neg c]
      have ec : chs r p x g = [x.2 + (g - x.2) % r + p - x.1, x.2 + (g - x.2) % r - r - x.1] := by rw [chs, if_neg c]
      generalize hf : (g - x.2) % r = f at *
      have eu := nx_up h hp (show 0 < f by omega)
      have ed : nx p x (x.2 + f - r - x.1) = (x.2 + f - r, x.2 + f - r) := by
        have := nx_dn (f := f - r) h hp (by omega)
        have e1 : x.2 + (f - r) = x.2 + f - r := by omega
        rw [e1] at this
        exact this
      obtain ⟨a, q, hq, e⟩ := rows_cost hr hp gs _ (stg_up (u := x.2 + f) hp)
      obtain ⟨b, z, hz, e2⟩ := rows_cost hr hp gs _ (stg_dn (u := x.2 + f - r) hp)
      have er : rowsOf r p x (g :: gs) = (rowsOf r p (x.2 + f + p, x.2 + f) gs).map (adk (x.2 + f + p - x.1)) ++ (rowsOf r p (x.2 + f - r, x.2 + f - r) gs).map (adk (x.2 + f - r - x.1)) := by
        rw [rowsOf, ec, List.flatMap_cons, List.flatMap_cons, List.flatMap_nil, List.append_nil, eu, ed]
        rfl
      rw [er]
      refine ⟨fun y hy => ?_, ?_⟩
      · rcases List.mem_append.mp hy with hy | hy
        · obtain ⟨y, hy', rfl⟩ := List.mem_map.mp hy
          have := a y hy'
          unfold adk
          dsimp only
          omega
        · obtain ⟨y, hy', rfl⟩ := List.mem_map.mp hy
          have := b y hy'
          unfold adk
          dsimp only
          omega
      · by_cases m : (x.2 + f + p - x.1) + cost r p (x.2 + f + p, x.2 + f) gs ≤ (x.1 - (x.2 + f - r)) + cost r p (x.2 + f - r, x.2 + f - r) gs
        · refine ⟨_, List.mem_append_left _ (List.mem_map.mpr ⟨q, hq, rfl⟩), ?_⟩
          unfold adk
          dsimp only
          omega
        · refine ⟨_, List.mem_append_right _ (List.mem_map.mpr ⟨z, hz, rfl⟩), ?_⟩
          unfold adk
          dsimp only
          omega
theorem best_cost {r p : Int} (hr : 0 < r) (hp : 0 ≤ p) {gs : List Int} {x : Int × Int} (h : Stg p x) {q : Int × List Int} (b : BestR (rowsOf r p x gs) q) : q.1 = cost r p x gs := by
  obtain ⟨a, z, hz, e⟩ := rows_cost hr hp gs x h
  have h1 := a q b.1
  have h2 := (b.2 z hz).1
  omega
/-- where a round's place lies, one step on -/
theorem far_step {r g s e : Int} (hr : 0 < r) (he : e = -1 ∨ e = 0 ∨ e = 1) (c : ¬ (g - s) % r = 0) :
    (g - (s + e)) % r = (g - s) % r - e ∧ (¬ (g - (s + e)) % r = 0 → True) ∨ ((g - (s + e)) % r = 0 ∧ (g - s) % r - e = r) := by
  have f0 := Int.emod_nonneg (g - s) (show r ≠ 0 by omega)
  have f1 := Int.emod_lt_of_pos (g - s) hr
  obtain ⟨q, hq⟩ := far_q7 r g s
  generalize hf : (g - s) % r = f at *
  by_cases z : f - e = r
  · refine .inr ⟨?_, z⟩
    have : g - (s + e) = r * (q + 1) := by rw [Int.mul_add, Int.mul_one]; omega
    rw [this]
    exact Int.mul_emod_right r (q + 1)
  · refine .inl ⟨?_, fun _ => trivial⟩
    have : g - (s + e) = (f - e) + r * q := by omega
    rw [this, Int.add_mul_emod_self_left]
    exact Int.emod_eq_of_lt (by omega) (by omega)
theorem nx_one {p : Int} {x : Int × Int} (h : Stg p x) (hp : 0 ≤ p) : ∃ e, (nx p x 1).2 = x.2 + e ∧ ((e = 0 ∧ x.1 < x.2 + p) ∨ (e = 1 ∧ x.1 = x.2 + p)) := by
  obtain ⟨a, b⟩ := h
  unfold nx pb
  dsimp only
  by_cases c : x.1 < x.2 + p
  · exact ⟨0, by omega, .inl ⟨rfl, c⟩⟩
  · exact ⟨1, by omega, .inr ⟨rfl, by omega⟩⟩
theorem nx_mone {p : Int} {x : Int × Int} (h : Stg p x) (hp : 0 ≤ p) : ∃ e, (nx p x (-1)).2 = x.2 + e ∧ ((e = 0 ∧ x.2 < x.1) ∨ (e = -1 ∧ x.1 = x.2)) := by
  obtain ⟨a, b⟩ := h
  unfold nx pb
  dsimp only
  by_cases c : x.2 < x.1
  · exact ⟨0, by omega, .inl ⟨rfl, c⟩⟩
  · exact ⟨-1, by omega, .inr ⟨rfl, by omega⟩⟩
theorem nx_fst (p : Int) (x : Int × Int) (k : Int) : (nx p x k).1 = x.1 + k := rfl
def Lip (r p : Int) (gs : List Int) : Prop := ∀ (x : Int × Int) (k : Int), Stg p x → cost r p x gs ≤ k.natAbs + cost r p (nx p x k) gs
def Lip1 (r p : Int) (gs : List Int) : Prop := ∀ (x : Int × Int), Stg p x → cost r p x gs ≤ 1 + cost r p (nx p x 1) gs ∧ cost r p x gs ≤ 1 + cost r p (nx p x (-1)) gs
theorem nx_succ {p : Int} {x : Int × Int} (h : Stg p x) (hp : 0 ≤ p) (n : Nat) : nx p x ((n : Int) + 1) = nx p (nx p x n) 1 := by
  obtain ⟨a, b⟩ := h
  unfold nx pb
  refine Prod.ext (by dsimp only; omega) ?_
  dsimp only
  omega
theorem nx_pred {p : Int} {x : Int × Int} (h : Stg p x) (hp : 0 ≤ p) (n : Nat) : nx p x (-(n : Int) - 1) = nx p (nx p x (-(n : Int))) (-1) := by
  obtain ⟨a, b⟩ := h
  unfold nx pb
  refine Prod.ext (by dsimp only; omega) ?_
  dsimp only
  omega
theorem Lip1.all {r p : Int} {gs : List Int} (hp : 0 ≤ p) (h : Lip1 r p gs) : Lip r p gs := by
  have up : ∀ (n : Nat) (x : Int × Int), Stg p x → cost r p x gs ≤ n + cost r p (nx p x n) gs := by
    intro n
    induction n with
    | zero =>
      intro x hs
      show _ ≤ (0 : Int) + cost r p (nx p x 0) gs
      rw [nx_zero hs]
      omega
    | succ n ih =>
      intro x hs
      have a := ih x hs
      have b := (h _ (hs.nx hp n)).1
      rw [← nx_succ hs hp n] at b
      show _ ≤ ((n + 1 : Nat) : Int) + cost r p (nx p x ((n : Int) + 1)) gs
      omega
  have dn : ∀ (n : Nat) (x : Int × Int), Stg p x → cost r p x gs ≤ n + cost r p (nx p x (-(n : Int))) gs := by
    intro n
    induction n with
    | zero =>
      intro x hs
      show _ ≤ (0 : Int) + cost r p (nx p x (-0)) gs
      rw [Int.neg_zero, nx_zero hs]
      omega
    | succ n ih =>
      intro x hs
      have a := ih x hs
      have b := (h _ (hs.nx hp (-(n : Int)))).2
      rw [← nx_pred hs hp n] at b
      have e : -((n + 1 : Nat) : Int) = -(n : Int) - 1 := by omega
      rw [e]
      omega
  intro x k hs
  by_cases c : 0 ≤ k
  · have := up k.toNat x hs
    have e : ((k.toNat : Nat) : Int) = k := by omega
    rw [e] at this
    omega
  · have := dn k.natAbs x hs
    have e : -((k.natAbs : Nat) : Int) = k := by omega
    rw [e] at this
    omega
theorem cost_at {r p : Int} {x : Int × Int} {g : Int} {gs : List Int} (c : (g - x.2) % r = 0) : cost r p x (g :: gs) = cost r p x gs := by rw [cost, if_pos c]
theorem cost_le {r p : Int} {x : Int × Int} {g : Int} {gs : List Int} (c : ¬ (g - x.2) % r = 0) :
    cost r p x (g :: gs) = min ((x.2 + (g - x.2) % r + p - x.1) + cost r p (x.2 + (g - x.2) % r + p, x.2 + (g - x.2) % r) gs) ((x.1 - (x.2 + (g - x.2) % r - r)) + cost r p (x.2 + (g - x.2) % r - r, x.2 + (g - x.2) % r - r) gs) := by rw [cost, if_neg c]
/-- a single step, from beside the goal -/
theorem cost_step {r p : Int} (hr : 2 ≤ r) (hp : 0 ≤ p) {x : Int × Int} (hs : Stg p x) {g : Int} {gs : List Int} (c : ¬ (g - x.2) % r = 0) :
    (cost r p x (g :: gs) ≤ 1 + cost r p (nx p x 1) (g :: gs) ∧ cost r p x (g :: gs) ≤ 1 + cost r p (nx p x (-1)) (g :: gs)) ∧
    (cost r p (nx p x 1) (g :: gs) + 1 ≤ cost r p x (g :: gs) ∨ cost r p (nx p x (-1)) (g :: gs) + 1 ≤ cost r p x (g :: gs)) := by
  have f0 := Int.emod_nonneg (g - x.2) (show r ≠ 0 by omega)
  have f1 := Int.emod_lt_of_pos (g - x.2) (show 0 < r by omega)
  obtain ⟨h1, h2⟩ := id hs
  obtain ⟨e, ee, he⟩ := nx_one hs hp
  obtain ⟨d, ed, hd⟩ := nx_mone hs hp
  have fe := far_step (g := g) (s := x.2) (e := e) (show 0 < r by omega) (by omega) c
  have fd := far_step (g := g) (s := x.2) (e := d) (show 0 < r by omega) (by omega) c
  have cx := cost_le (p := p) (gs := gs) c
  generalize hf : (g - x.2) % r = f at *
  have hU : ∃ u, u = cost r p (x.2 + f + p, x.2 + f) gs := ⟨_, rfl⟩
  have hW : ∃ v, v = cost r p (x.2 + f - r, x.2 + f - r) gs := ⟨_, rfl⟩
  obtain ⟨u, hu⟩ := hU
  obtain ⟨v, hv⟩ := hW
  rw [← hu, ← hv] at cx
  -- up
  have up : (f = e ∧ cost r p (nx p x 1) (g :: gs) = u ∧ x.2 + f + p - x.1 = 1) ∨ cost r p (nx p x 1) (g :: gs) = min ((x.2 + f + p - x.1 - 1) + u) ((x.1 + 1 - (x.2 + f - r)) + v) := by
    have z : (g - (nx p x 1).2) % r = f - e := by
      rw [ee]
      rcases fe with ⟨a, _⟩ | ⟨a, b⟩
      · exact a
      · omega
    by_cases y : f - e = 0
    · left
      have e1 : e = 1 := by omega
      have ex : nx p x 1 = (x.2 + f + p, x.2 + f) := Prod.ext (by rw [nx_fst]; dsimp only; omega) (by rw [ee]; dsimp only; omega)
      refine ⟨by omega, ?_, by omega⟩
      rw [cost_at (by rw [z]; exact y), ex, hu]
    · right
      have y' : ¬ (g - (nx p x 1).2) % r = 0 := by rw [z]; exact y
      rw [cost_le y', z, ee, nx_fst]
      have e1 : x.2 + e + (f - e) = x.2 + f := by omega
      rw [e1, ← hu, ← hv]
      omega
  have dn : (cost r p (nx p x (-1)) (g :: gs) = v ∧ x.1 - (x.2 + f - r) = 1) ∨ cost r p (nx p x (-1)) (g :: gs) = min ((x.2 + f + p - x.1 + 1) + u) ((x.1 - 1 - (x.2 + f - r)) + v) := by
    rcases fd with ⟨z, _⟩ | ⟨z, y⟩
    · right
      have y' : ¬ (g - (nx p x (-1)).2) % r = 0 := by rw [ed, z]; omega
      rw [cost_le y', ed, z, nx_fst]
      have e1 : x.2 + d + (f - d) = x.2 + f := by omega
      rw [e1, ← hu, ← hv]
      omega
    · left
      have ex : nx p x (-1) = (x.2 + f - r, x.2 + f - r) := Prod.ext (by rw [nx_fst]; dsimp only; omega) (by rw [ed]; dsimp only; omega)
      refine ⟨?_, by omega⟩
      rw [cost_at (by rw [ed]; exact z), ex, hv]
  omega
theorem lip {r p : Int} (hr : 2 ≤ r) (hp : 0 ≤ p) : ∀ gs : List Int, Lip1 r p gs
  | [] => fun x _ => ⟨by show (0 : Int) ≤ 1 + 0; decide, by show (0 : Int) ≤ 1 + 0; decide⟩
  | g :: gs => by
    have ih := lip hr hp gs
    have all := ih.all hp
    intro x hs
    have key : ∀ y : Int × Int, Stg p y → cost r p x gs ≤ 1 + cost r p y gs → cost r p x gs ≤ 1 + cost r p y (g :: gs) := by
      intro y hy h
      by_cases c : (g - y.2) % r = 0
      · rw [cost_at c]
        exact h
      · have f0 := Int.emod_nonneg (g - y.2) (show r ≠ 0 by omega)
        have f1 := Int.emod_lt_of_pos (g - y.2) (show 0 < r by omega)
        rw [cost_le c]
        generalize (g - y.2) % r = f at *
        have a := all y (y.2 + f + p - y.1) hy
        have b := all y (y.2 + (f - r) - y.1) hy
        rw [nx_up hy hp (by omega)] at a
        rw [nx_dn hy hp (by omega)] at b
        have e1 : y.2 + (f - r) = y.2 + f - r := by omega
        rw [e1] at b
        obtain ⟨h1, h2⟩ := hy
        omega
    by_cases c : (g - x.2) % r = 0
    · rw [cost_at c]
      exact ⟨key _ (hs.nx hp 1) (ih x hs).1, key _ (hs.nx hp (-1)) (ih x hs).2⟩
    · exact (cost_step hr hp hs c).1
theorem cost_bound {r p : Int} (hr : 2 ≤ r) (hr7 : r ≤ 7) (hp : 0 ≤ p) (hp4 : p ≤ 4) : ∀ (gs : List Int) (x : Int × Int), Stg p x → cost r p x gs ≤ 5 * gs.length
  | [], _, _ => Int.le_refl 0
  | g :: gs, x, h => by
    have f0 := Int.emod_nonneg (g - x.2) (show r ≠ 0 by omega)
    have f1 := Int.emod_lt_of_pos (g - x.2) (show 0 < r by omega)
    rw [cost, List.length_cons]
    split
    · have := cost_bound hr hr7 hp hp4 gs x h
      omega
    · rename_i c
      have a := cost_bound hr hr7 hp hp4 gs (x.2 + (g - x.2) % r + p, x.2 + (g - x.2) % r) (stg_up hp)
      have b := cost_bound hr hr7 hp hp4 gs (x.2 + (g - x.2) % r - r, x.2 + (g - x.2) % r - r) (stg_dn hp)
      obtain ⟨h1, h2⟩ := h
      omega
/-- a way's places, one behind the other -/
theorem rows_hit {r p : Int} (hr : 0 < r) (hp : 0 ≤ p) : ∀ (gs : List Int) (x : Int × Int), Stg p x → ∀ q ∈ rowsOf r p x gs, q.1 = (q.2.map fun k => ((k.natAbs : Nat) : Int)).sum ∧ ∀ (k : Nat) (g : Int), gs[k]? = some g → (g - (pos p x (q.2.take (k + 1))).2) % r = 0
  | [], x, _, q, h => by
    rw [List.mem_singleton.mp h]
    exact ⟨rfl, fun k g h => by simp at h⟩
  | g :: gs, x, hs, q, h => by
    obtain ⟨k, hk, h⟩ := List.mem_flatMap.mp h
    obtain ⟨z, hz, rfl⟩ := List.mem_map.mp h
    obtain ⟨a, b⟩ := rows_hit hr hp gs _ (hs.nx hp k) z hz
    refine ⟨?_, fun j g' hj => ?_⟩
    · dsimp only
      rw [List.map_cons, List.sum_cons, a]
      omega
    · cases j with
      | zero =>
        cases hj
        show (g - (nx p x k).2) % r = 0
        have f0 := Int.emod_nonneg (g - x.2) (show r ≠ 0 by omega)
        have f1 := Int.emod_lt_of_pos (g - x.2) hr
        obtain ⟨w, hw⟩ := far_q7 r g x.2
        unfold chs at hk
        split at hk
        · rename_i c
          rw [List.mem_singleton.mp hk, nx_zero hs]
          exact c
        · rename_i c
          rcases List.mem_cons.mp hk with e | hk
          · rw [e, nx_up hs hp (by omega)]
            dsimp only
            have : g - (x.2 + (g - x.2) % r) = r * w := by omega
            rw [this]
            exact Int.mul_emod_right r w
          · have e := List.mem_singleton.mp hk
            have e1 : x.2 + (g - x.2) % r - r - x.1 = x.2 + ((g - x.2) % r - r) - x.1 := by omega
            rw [e, e1, nx_dn hs hp (by omega)]
            dsimp only
            have : g - (x.2 + ((g - x.2) % r - r)) = r * (w + 1) := by rw [Int.mul_add, Int.mul_one]; omega
            rw [this]
            exact Int.mul_emod_right r _
      | succ j => exact b j g' (by simpa using hj)
end Rd

namespace Rd
open PySem L2
/-- a state of the search: the motor, the shaft, how many goals are behind -/
abbrev T3 := Int × Int × Nat
def k3 (t : T3) : List Key := [Sum.inl t.1, Sum.inl t.2.1, Sum.inl (t.2.2 : Int)]
def v3 (t : T3) : List V := [.int t.1, .int t.2.1, .int t.2.2]
theorem k3_v3 (t : T3) : (k3 t).map kV = v3 t := rfl
theorem k3_inj {t u : T3} (h : k3 t = k3 u) : t = u := by
  obtain ⟨a, b, c⟩ := t
  obtain ⟨a', b', c'⟩ := u
  unfold k3 at h
  injection h with h1 h
  injection h with h2 h
  injection h with h3 _
  have e1 : a = a' := Sum.inl.inj h1
  have e2 : b = b' := Sum.inl.inj h2
  have e3 : (c : Int) = c' := Sum.inl.inj h3
  rw [e1, e2, Int.ofNat.inj e3]
def c3 (r p : Int) (gs : List Int) (t : T3) : Int := cost r p (t.1, t.2.1) (gs.drop t.2.2)
/-- no state that is reached by n single steps is too near -/
def Good (r p : Int) (gs : List Int) (S : Int) (n : Nat) (t : T3) : Prop := Stg p (t.1, t.2.1) ∧ t.2.2 ≤ gs.length ∧ S ≤ n + c3 r p gs t
theorem Good.up {r p : Int} {gs : List Int} {S : Int} {n : Nat} {t : T3} (h : Good r p gs S n t) : Good r p gs S (n + 1) t := ⟨h.1, h.2.1, by have := h.2.2; omega⟩
def st3 (p : Int) (t : T3) (d : Int) : T3 := ((nx p (t.1, t.2.1) d).1, (nx p (t.1, t.2.1) d).2, t.2.2)
/-- tuples of states at the addresses as -/
def Tr3 (H : Hp) (as : List Addr) (xs : List T3) : Prop := as.length = xs.length ∧ ∀ (i : Nat) (a : Addr) (x : T3), as[i]? = some a → xs[i]? = some x → H a = some (.tup (v3 x))
theorem Tr3.nil {H : Hp} : Tr3 H [] [] := ⟨rfl, fun i a x h => by simp at h⟩
theorem Tr3.mono {H H' : Hp} {as : List Addr} {xs : List T3} (t : Tr3 H as xs) (R : ∀ b xs, H b = some (.tup xs) → H' b = some (.tup xs)) : Tr3 H' as xs := ⟨t.1, fun i a x h1 h2 => R _ _ (t.2 i a x h1 h2)⟩
theorem Tr3.snoc {H : Hp} {as : List Addr} {xs : List T3} {a : Addr} {x : T3} (t : Tr3 H as xs) (h : H a = some (.tup (v3 x))) : Tr3 H (as ++ [a]) (xs ++ [x]) := by
  refine ⟨by simp [t.1], fun i b y h1 h2 => ?_⟩
  rcases at_snoc h1 with ⟨f1, g1⟩ | ⟨f1, rfl⟩
  · rcases at_snoc h2 with ⟨f2, g2⟩ | ⟨f2, rfl⟩
    · exact t.2 i b y f1 f2
    · have := t.1
      omega
  · rcases at_snoc h2 with ⟨f2, g2⟩ | ⟨f2, rfl⟩
    · have := t.1
      omega
    · exact h
/-- the states whose keys a dict holds -/
theorem tr3_of {H : Hp} : ∀ {kvs : List (List Key × V)} {bs : List Addr}, IsKeys H kvs bs → (∀ k ∈ kvs.map (·.1), ∃ t : T3, k = k3 t) → ∃ xs : List T3, Tr3 H bs xs ∧ kvs.map (·.1) = xs.map k3
  | [], [], _, _ => ⟨[], Tr3.nil, rfl⟩
  | p :: kvs, b :: bs, .cons h t, hk => by
    obtain ⟨xs, h1, h2⟩ := tr3_of t fun k hm => hk k (List.mem_cons_of_mem _ hm)
    obtain ⟨x, hx⟩ := hk p.1 List.mem_cons_self
    refine ⟨x :: xs, ⟨congrArg (· + 1) h1.1, fun i a y e1 e2 => ?_⟩, by rw [List.map_cons, List.map_cons, hx, h2]⟩
    cases i with
    | zero =>
      cases e1
      cases e2
      rw [h, hx, k3_v3]
    | succ i => exact h1.2 i a y (by simpa using e1) (by simpa using e2)
section
variable {P : Program} {w : World} {K : PySem.W.Frag} {mg : Str → Option Value} {base : Heap}
def spFewest (K : PySem.W.Frag) : Sp := fun vs H Q _ => ∃ (g : Addr) (r p : Int) (z : Addr) (x : Int × Int) (l : Addr) (gs : List Int), vs = [.ref g, .ref z, .ref l] ∧ H g = some (.tup [.int r, .int p]) ∧ 2 ≤ r ∧ r ≤ 7 ∧ 0 ≤ p ∧ p ≤ 4 ∧ H z = some (.tup [.int x.1, .int x.2]) ∧ Stg p x ∧ H l = some (.lst (gs.map V.int)) ∧ gs.length ≤ 4 ∧
  ∀ H', Same H H' → Q (.int (cost r p x gs)) H'
theorem spFewest_i {g z l : Addr} {r p : Int} {x : Int × Int} {gs : List Int} {H : Hp} {Q : VK} {E : XK} (hg : H g = some (.tup [.int r, .int p])) (r2 : 2 ≤ r) (r7 : r ≤ 7) (p0 : 0 ≤ p) (p4 : p ≤ 4) (hz : H z = some (.tup [.int x.1, .int x.2])) (hs : Stg p x) (hl : H l = some (.lst (gs.map V.int))) (hn : gs.length ≤ 4)
    (k : ∀ H', Same H H' → Q (.int (cost r p x gs)) H') : spFewest K [.ref g, .ref z, .ref l] H Q E := ⟨g, r, p, z, x, l, gs, rfl, hg, r2, r7, p0, p4, hz, hs, hl, hn, k⟩
theorem two_pow {n : Nat} (h : n ≤ 20) : 2 ^ (n + 3) ≤ 8388608 := by
  have : 2 ^ (n + 3) ≤ 2 ^ 23 := Nat.pow_le_pow_right (by decide) (by omega)
  exact this
theorem size_ok {n : Nat} (h : n < 10000000) : n < sizeLine := by
  rw [PySem.sizeLine_eq]
  omega
set_option maxHeartbeats 8000000 in
theorem ok_law_fewest (B : Bl mg) (F : FunAt K mg "_law_fewest" s_law_fewest) (H_law_behind : Has P w K mg base CX0 1 "_law_behind" spLB) : Has P w K mg base CX0 2 "_law_fewest" (spFewest K) := by
  refine F.ok sc_law_fewest bo_law_fewest (fun vs H Q E h => ?_) (fun f cdv A outer s H vs Q E hr h => ?_)
  · obtain ⟨g, r, p, z, x, l, gs, rfl, _⟩ := h
    rfl
  · obtain ⟨g, r, p, z, x, l, gs, rfl, hg, r2, r7, p0, p4, hz, hs, hl, hn, k⟩ := h
    refine ⟨_, (pss_cons (ps_set (i := 3) sc_law_fewest.nd rfl (by first | exact Or.inl rfl | exact Or.inr rfl) (pe_lst (pa_cons (pe_tup (pa_cons (pe_ix (kix (K := K) rfl) (pv 1) pe_int (fun _ _ => rfl)) (pa_cons (pe_ix (kix (K := K) rfl) (pv 1) pe_int (fun _ _ => rfl)) (pa_cons pe_int pa_nil)))) pa_nil)))
 (pss_cons (ps_set (i := 4) sc_law_fewest.nd rfl (by first | exact Or.inl rfl | exact Or.inr rfl) pe_dnewT)
 (pss_cons (ps_set (i := 5) sc_law_fewest.nd rfl (by first | exact Or.inl rfl | exact Or.inr rfl) pe_int)
 (pss_one (ps_while PassesOwn.never (pt_val pe_bl) (pss_cons (ps_set (i := 6) sc_law_fewest.nd rfl (by first | exact Or.inl rfl | exact Or.inr rfl) (pe_lst pa_nil))
 (pss_cons (ps_for PassesOwn.never rfl (kpi_list (K := K) rfl (pv 3)) (kpg_tup (K := K) rfl rfl (pgs_cons (pg_name (i := 7) sc_law_fewest.nd rfl (by first | exact Or.inl rfl | exact Or.inr rfl)) (pgs_cons (pg_name (i := 8) sc_law_fewest.nd rfl (by first | exact Or.inl rfl | exact Or.inr rfl)) (pgs_cons (pg_name (i := 9) sc_law_fewest.nd rfl (by first | exact Or.inl rfl | exact Or.inr rfl)) pgs_nil)))) (pss_cons (ps_while PassesOwn.never (PW.pt (pw_and (pt_cmpR op_lt (pv 9) (pe_callB (kc_len (K := K) rfl) rfl B.len (by decide +kernel) (pa_cons (pv 2) pa_nil)) (nomark _)) (pw_and1 (pt_cmpR (kop_eq (K := K) rfl hr.units) (pe_op op_mod (pe_op op_sub (pv 8) (pe_ix (kix (K := K) rfl) (pv 2) (pv 9) (fun _ _ => rfl))) (pe_ix (kix (K := K) rfl) (pv 0) pe_int (fun _ _ => rfl))) pe_int (nomark _))))) (pss_one (ps_set (i := 9) sc_law_fewest.nd rfl (by first | exact Or.inl rfl | exact Or.inr rfl) (pe_op (kop_add (K := K) rfl) (pv 9) pe_int))))
 (pss_cons (ps_if (pt_cmpR (kop_eq (K := K) rfl hr.units) (pv 9) (pe_callB (kc_len (K := K) rfl) rfl B.len (by decide +kernel) (pa_cons (pv 2) pa_nil)) (nomark _)) (pss_one (ps_ret (pv 5))) pss_nil)
 (pss_one (ps_expr (kpe_bm (K := K) rfl PySem.F.plainAttrs_list PySem.F.slot_list_append PySem.F.type_list_append mt_append (pv 6) (pa_cons (pe_tup (pa_cons (pv 7) (pa_cons (pv 8) (pa_cons (pv 9) pa_nil)))) pa_nil)))))))
 (pss_cons (ps_set (i := 10) sc_law_fewest.nd rfl (by first | exact Or.inl rfl | exact Or.inr rfl) pe_dnewT)
 (pss_cons (ps_for PassesOwn.never rfl (kpi_list (K := K) rfl (pv 6)) (kpg_tup (K := K) rfl rfl (pgs_cons (pg_name (i := 7) sc_law_fewest.nd rfl (by first | exact Or.inl rfl | exact Or.inr rfl)) (pgs_cons (pg_name (i := 8) sc_law_fewest.nd rfl (by first | exact Or.inl rfl | exact Or.inr rfl)) (pgs_cons (pg_name (i := 9) sc_law_fewest.nd rfl (by first | exact Or.inl rfl | exact Or.inr rfl)) pgs_nil)))) (pss_one (ps_for PassesOwn.never rfl (kpi_tup (K := K) rfl (pe_tup (pa_cons pe_int (pa_cons (pe_op op_sub pe_int pe_int) pa_nil)))) (pg_name (i := 11) sc_law_fewest.nd rfl (by first | exact Or.inl rfl | exact Or.inr rfl)) (pss_cons (ps_set (i := 12) sc_law_fewest.nd rfl (by first | exact Or.inl rfl | exact Or.inr rfl) (pe_op (kop_add (K := K) rfl) (pe_has H_law_behind hr (by omega) rfl pass0 (pa_cons (pv 0) (pa_cons (pe_tup (pa_cons (pv 7) (pa_cons (pv 8) pa_nil))) (pa_cons (pv 11) pa_nil)))) (pe_tup (pa_cons (pv 9) pa_nil))))
 (pss_one (ps_if (pt_cmp (pc_dnotin (hu_of hr) (pv 12) (pv 4))) (pss_cons (ps_dput (hu_of hr) (pv 4) (pv 12) pe_bl rfl)
 (pss_one (ps_dput (hu_of hr) (pv 10) (pv 12) pe_bl rfl))) pss_nil))))))
 (pss_cons (ps_set (i := 3) sc_law_fewest.nd rfl (by first | exact Or.inl rfl | exact Or.inr rfl) (pe_callTy (kc_listDT rfl) rfl B.list (by decide +kernel) (pa_cons (pv 10) pa_nil)))
 (pss_one (ps_set (i := 5) sc_law_fewest.nd rfl (by first | exact Or.inl rfl | exact Or.inr rfl) (pe_op (kop_add (K := K) rfl) (pv 5) pe_int))))))))))))), ?_⟩
    refine r_start (σ' := [some (.ref g), some (.ref z), some (.ref l), none, none, none, none, none, none, none, none, none, none]) rfl ?_
    have S0 := cost_nn (show 0 < r by omega) p0 gs x hs
    have S20 : cost r p x gs ≤ 20 := by
      have := cost_bound r2 r7 p0 p4 gs x hs
      omega
    generalize hS : cost r p x gs = S at *
    walk_at "go"
    intro t0 n0
    walk_at "go"
    intro l0 nl0
    walk_at "go"
    refine r_dnewT fun d0 nd0 => ?_
    walk_at "go"
    have s0 : Same H (upd (upd (upd H t0 (.tup [.int x.1, .int x.2, .int 0])) l0 (.lst [.ref t0])) d0 (.dT [])) := (same_new n0).trans ((same_new nl0).trans (same_new nd0))
    have s0l := (same_new (u := .tup [.int x.1, .int x.2, .int 0]) n0)
    have s0d := s0l.trans (same_new (u := .lst [.ref t0]) nl0)
    have ld0 : l0 ≠ d0 := ne_of_none upd_same nd0
    refine r_while (fun m σ H2 => ∃ (lv me : Addr) (n : Nat) (as : List Addr) (xs : List T3) (kvs : List (List Key × V)) (v6 v7 v8 v9 v10 v11 v12 : Option V), σ = [some (.ref g), some (.ref z), some (.ref l), some (.ref lv), some (.ref me), some (.int n), v6, v7, v8, v9, v10, v11, v12] ∧ Same H H2 ∧ H lv = none ∧ H me = none ∧
        H2 lv = some (.lst (as.map V.ref)) ∧ Tr3 H2 as xs ∧ H2 me = some (.dT kvs) ∧ xs.length ≤ 2 ^ n ∧ kvs.length ≤ 2 ^ (n + 2) ∧ (∀ t ∈ xs, Good r p gs S n t) ∧ (∀ k ∈ kvs.map (·.1), ∃ t, k = k3 t ∧ Good r p gs S n t) ∧ (∃ t ∈ xs, n + c3 r p gs t ≤ S) ∧ (m : Int) + n = S) S.toNat
      ⟨l0, d0, 0, [t0], [(x.1, x.2, 0)], [], _, _, _, _, _, _, _, rfl, s0, s0l.free nl0, s0d.free nd0, at_new nd0 upd_same, Tr3.snoc Tr3.nil (at_new nd0 (at_new nl0 upd_same)), upd_same, Nat.le_refl 1, Nat.zero_le _, fun t h => ?_, fun t h => by simp at h, ⟨(x.1, x.2, 0), List.mem_singleton.mpr rfl, ?_⟩, by omega⟩ ?_
    · rw [List.mem_singleton.mp h]
      refine ⟨hs, Nat.zero_le _, ?_⟩
      show S ≤ (0 : Int) + cost r p (x.1, x.2) (gs.drop 0)
      rw [List.drop_zero]
      have e : cost r p (x.1, x.2) gs = S := hS
      omega
    · show (0 : Int) + cost r p (x.1, x.2) (gs.drop 0) ≤ S
      rw [List.drop_zero]
      have e : cost r p (x.1, x.2) gs = S := hS
      omega
    · rintro m σ H2 ⟨lv, me, n, as, xs, kvs, v6, v7, v8, v9, v10, v11, v12, rfl, s2, nlv, nme, hlv, hT, hme, hxl, hkl, hG, hGk, ⟨ty, hty, hty2⟩, hm⟩
      have hn20 : n ≤ 20 := by omega
      have p23 := two_pow hn20
      have pe2 : 2 ^ (n + 2) = 4 * 2 ^ n := by rw [Nat.pow_add, Nat.mul_comm]
      have pe3 : 2 ^ (n + 3) = 8 * 2 ^ n := by rw [Nat.pow_add, Nat.mul_comm]
      have pe1 : 2 ^ (n + 1) = 2 * 2 ^ n := by rw [Nat.pow_add, Nat.mul_comm]
      have hal : as.length = xs.length := hT.1
      walk_at "go"
      refine iteT ?_
      refine ⟨fun σ' H' => ∃ m', m' < m ∧ _, fun σ' H' h => h, ?_⟩
      walk_at "go"
      intro he nhe
      walk_at "go"
      have nheH := s2.free nhe
      have s3 : Same H2 (upd H2 he (.lst [])) := same_new nhe
      refine ⟨_, rfl, ⟨_, SqL.of (at_new nhe hlv)⟩, fw_list (K := K) (a := lv) (xs := as.map V.ref) (fun i σ H3 => ∃ (v7 v8 v9 : Option V) (bs : List Addr) (ys : List T3), σ = [some (.ref g), some (.ref z), some (.ref l), some (.ref lv), some (.ref me), some (.int n), some (.ref he), v7, v8, v9, v10, v11, v12] ∧ Same H2 H3 ∧ H3 he = some (.lst (bs.map V.ref)) ∧ Tr3 H3 bs ys ∧ ys.length = i ∧
          (∀ t ∈ ys, Good r p gs S n t ∧ ∃ go, gs[t.2.2]? = some go ∧ ¬ (go - t.2.1) % r = 0) ∧ (∀ (j : Nat) (t u : T3), ys[j]? = some t → xs[j]? = some u → c3 r p gs t = c3 r p gs u))
        ⟨_, _, _, [], [], rfl, s3, upd_same, Tr3.nil, rfl, fun t h => (by simp at h), fun j t u h => by simp at h⟩ (fun i σ H3 _ h => ?_) ?_ ?_⟩
      · obtain ⟨_, _, _, _, _, _, h, _⟩ := h
        exact SqL.of (h _ _ hlv)
      · rintro i y σ H3 hi ⟨v7, v8, v9, bs, ys, rfl, s3, hhe, hTb, hyl, hY, hC⟩
        obtain ⟨a, ha, rfl⟩ := map_at hi
        have hil : i < xs.length := by rw [← hal]; exact (List.getElem?_eq_some_iff.mp ha).1
        obtain ⟨t, ht⟩ : ∃ t, xs[i]? = some t := ⟨_, List.getElem?_eq_getElem hil⟩
        obtain ⟨mo, sh, at0⟩ := t
        have haa := s3 _ _ (hT.2 i a _ ha ht)
        have hgt := hG _ (List.mem_of_getElem? ht)
        have hbl : bs.length = ys.length := hTb.1
        unfold v3 at haa
        dsimp only at haa
        walk_at "go"
        refine r_while (fun m' σ H4 => ∃ at' : Nat, σ = [some (.ref g), some (.ref z), some (.ref l), some (.ref lv), some (.ref me), some (.int n), some (.ref he), some (.int mo), some (.int sh), some (.int (at' : Int)), v10, v11, v12] ∧ H3 = H4 ∧ at' + m' = gs.length ∧ c3 r p gs (mo, sh, at') = c3 r p gs (mo, sh, at0)) (gs.length - at0)
          ⟨at0, rfl, rfl, by have := hgt.2.1; dsimp only at this; omega, rfl⟩ ?_
        rintro m' _ _ ⟨at', rfl, rfl, hm', hc'⟩
        have hl3 := s3 _ _ (s2 _ _ hl)
        have hg3 := s3 _ _ (s2 _ _ hg)
        walk_at "go"
        rw [List.length_map]
        have hstop : ∀ (σ' : L2.St), σ' = [some (.ref g), some (.ref z), some (.ref l), some (.ref lv), some (.ref me), some (.int n), some (.ref he), some (.int mo), some (.int sh), some (.int (at' : Int)), v10, v11, v12] → True := fun _ _ => trivial
        refine iteD (fun hlt => ?_) (fun hlt => ?_)
        · have hlt' : at' < gs.length := by omega
          obtain ⟨go, hgo⟩ : ∃ go, gs[at']? = some go := ⟨_, List.getElem?_eq_getElem hlt'⟩
          have edrop : gs.drop at' = go :: gs.drop (at' + 1) := by
            rw [List.drop_eq_getElem_cons hlt']
            rw [List.getElem?_eq_getElem hlt'] at hgo
            rw [Option.some.inj hgo]
          have esw : (sh - go) % r = 0 ↔ (go - sh) % r = 0 := by
            have e : go - sh = -(sh - go) := by omega
            rw [e]
            constructor
            · intro q
              exact Int.emod_eq_zero_of_dvd (Int.dvd_neg.mpr (Int.dvd_of_emod_eq_zero q))
            · intro q
              exact Int.emod_eq_zero_of_dvd (Int.dvd_neg.mp (Int.dvd_of_emod_eq_zero q))
          walk_at "go"
          refine r_ix (v := .int go) (.inl (SqL.of hl3)) (at_of (j := at') (by omega) (by rw [List.getElem?_map, hgo]; rfl)) ?_
          walk_at "go"
          refine r_I (show 0 < r by omega) ?_
          walk_at "go"
          refine iteD (fun c => ?_) (fun c => ?_)
          · refine ⟨fun σ' H' => ∃ m1, m1 < m' ∧ ∃ at1 : Nat, σ' = [some (.ref g), some (.ref z), some (.ref l), some (.ref lv), some (.ref me), some (.int n), some (.ref he), some (.int mo), some (.int sh), some (.int (at1 : Int)), v10, v11, v12] ∧ H3 = H' ∧ at1 + m1 = gs.length ∧ c3 r p gs (mo, sh, at1) = c3 r p gs (mo, sh, at0), fun σ' H' h => h, ?_⟩
            walk_at "go"
            refine ⟨m' - 1, by omega, at' + 1, rfl, rfl, by omega, ?_⟩
            rw [← hc']
            unfold c3
            dsimp only
            rw [edrop, cost_at (esw.mp c)]
          · walk_at "go"
            rw [List.length_map]
            refine iteDF (by omega) ?_
            walk_at "go"
            refine ⟨r_tyL hhe, ?_⟩
            walk_at "go"
            intro t4 n4
            walk_at "go"
            have hye : ys.length < 10000000 := by omega
            refine r_appA (at_new n4 hhe) (by rw [List.length_map, hbl]; exact size_ok hye) fun H5 e5 w5 => ?_
            walk_at "go"
            have t4he : t4 ≠ he := (ne_of_none hhe n4).symm
            have keep : ∀ b xs, H3 b = some (.tup xs) → H5 b = some (.tup xs) := fun b xs e => w5 _ _ (ne_of e hhe (fun z => nomatch z)) (at_new n4 e)
            refine ⟨_, _, _, bs ++ [t4], ys ++ [(mo, sh, at')], rfl, fun b o e => w5 _ _ (ne_of_none e nhe) (at_new n4 (s3 _ _ e)), by rw [e5]; simp, (hTb.mono keep).snoc (w5 _ _ t4he upd_same), by rw [List.length_append, hyl]; rfl, fun u hu => ?_, fun j u v e1 e2 => ?_⟩
            · rcases List.mem_append.mp hu with hu | hu
              · exact hY u hu
              · rw [List.mem_singleton.mp hu]
                exact ⟨⟨hgt.1, by dsimp only; omega, by rw [hc']; exact hgt.2.2⟩, go, hgo, fun q => c (esw.mpr q)⟩
            · rcases at_snoc e1 with ⟨f1, g1⟩ | ⟨f1, rfl⟩
              · exact hC j u v f1 e2
              · rw [f1, hyl, ht] at e2
                rw [← Option.some.inj e2]
                exact hc'
        · have hat : at' = gs.length := by omega
          refine iteF ?_
          walk_at "go"
          rw [List.length_map]
          refine iteDT (by omega) ?_
          walk_at "go"
          have h0 : c3 r p gs (mo, sh, at') = 0 := by
            unfold c3
            dsimp only
            rw [hat, List.drop_length]
            rfl
          have h1 := hgt.2.2
          rw [← hc', h0] at h1
          have hnS : (n : Int) = S := by omega
          rw [hnS]
          exact k _ (s2.trans s3)
      · rintro σ H3 ⟨v7, v8, v9, bs, ys, rfl, s3, hhe, hTb, hyl, hY, hC⟩
        rw [List.length_map, hal] at hyl
        have hbl : bs.length = ys.length := hTb.1
        walk_at "go"
        refine r_dnewT fun la nla => ?_
        walk_at "go"
        have nlaH := (s2.trans s3).free nla
        have nme3 := s3 _ _ hme
        have mela : me ≠ la := ne_of_none nme3 nla
        have hela : he ≠ la := ne_of_none hhe nla
        have heme : he ≠ me := fun e => by rw [e, nme3] at hhe; cases hhe
        -- here's turns
        refine ⟨_, rfl, ⟨_, SqL.of (at_new nla hhe)⟩, fw_list (K := K) (a := he) (xs := bs.map V.ref) (fun i σ H4 => ∃ (v7 v8 v9 v11 v12 : Option V) (ms ls : List (List Key × V)), σ = [some (.ref g), some (.ref z), some (.ref l), some (.ref lv), some (.ref me), some (.int n), some (.ref he), v7, v8, v9, some (.ref la), v11, v12] ∧ Same H H4 ∧ H4 he = some (.lst (bs.map V.ref)) ∧ Tr3 H4 bs ys ∧
            H4 me = some (.dT ms) ∧ H4 la = some (.dT ls) ∧ ms.length ≤ kvs.length + 2 * i ∧ ls.length ≤ 2 * i ∧ (∀ k ∈ ls.map (·.1), ∃ t, k = k3 t ∧ Good r p gs S (n + 1) t) ∧ (∀ k ∈ ms.map (·.1), (∃ t, k = k3 t ∧ Good r p gs S n t) ∨ k ∈ ls.map (·.1)) ∧
            (∀ (j : Nat) (t : T3), j < i → ys[j]? = some t → k3 (st3 p t 1) ∈ ms.map (·.1) ∧ k3 (st3 p t (-1)) ∈ ms.map (·.1)))
          ⟨_, _, _, _, _, kvs, [], rfl, (s2.trans s3).trans (same_new nla), at_new nla hhe, hTb.mono fun b xs e => at_new nla e, at_new nla nme3, upd_same, by omega, Nat.zero_le _, fun k h => (by simp at h), fun k h => .inl (hGk k h), fun j t h => by omega⟩ (fun i σ H4 _ h => ?_) ?_ ?_⟩
        · obtain ⟨_, _, _, _, _, _, _, _, _, h, _⟩ := h
          exact SqL.of h
        · rintro i y σ H4 hi ⟨v7, v8, v9, v11, v12, ms, ls, rfl, s4, hhe4, hT4, hme4, hla4, hml, hll, hLs, hMs, hdone⟩
          obtain ⟨a, ha, rfl⟩ := map_at hi
          have hil : i < ys.length := by rw [← hbl]; exact (List.getElem?_eq_some_iff.mp ha).1
          obtain ⟨t, ht⟩ : ∃ t, ys[i]? = some t := ⟨_, List.getElem?_eq_getElem hil⟩
          have haa := hT4.2 i a t ha ht
          obtain ⟨hgt, go, hgo, hno⟩ := hY t (List.mem_of_getElem? ht)
          unfold v3 at haa
          have hg4 := s4 _ _ hg
          walk_at "go"
          refine r_iTup ?_
          walk_at "go"
          intro tp ntp
          walk_at "go"
          -- the two steps
          refine ⟨_, rfl, ⟨_, SqT.of upd_same⟩, fw_tup (K := K) (a := tp) (xs := [(1 : Int), -1].map V.int) (fun q σ H5 => ∃ (v11 v12 : Option V) (ms' ls' : List (List Key × V)), σ = [some (.ref g), some (.ref z), some (.ref l), some (.ref lv), some (.ref me), some (.int n), some (.ref he), some (.int t.1), some (.int t.2.1), some (.int t.2.2), some (.ref la), v11, v12] ∧ Same H H5 ∧ H5 tp = some (.tup ([(1 : Int), -1].map V.int)) ∧ H5 he = some (.lst (bs.map V.ref)) ∧ Tr3 H5 bs ys ∧
              H5 me = some (.dT ms') ∧ H5 la = some (.dT ls') ∧ ms'.length ≤ kvs.length + 2 * i + q ∧ ls'.length ≤ 2 * i + q ∧ (∀ k ∈ ls'.map (·.1), ∃ t, k = k3 t ∧ Good r p gs S (n + 1) t) ∧ (∀ k ∈ ms'.map (·.1), (∃ t, k = k3 t ∧ Good r p gs S n t) ∨ k ∈ ls'.map (·.1)) ∧
              (∀ k ∈ ms.map (·.1), k ∈ ms'.map (·.1)) ∧ (1 ≤ q → k3 (st3 p t 1) ∈ ms'.map (·.1)) ∧ (2 ≤ q → k3 (st3 p t (-1)) ∈ ms'.map (·.1)))
            ⟨_, _, ms, ls, rfl, s4.trans (same_new ntp), upd_same, at_new ntp hhe4, hT4.mono fun b xs e => at_new ntp e, at_new ntp hme4, at_new ntp hla4, by omega, by omega, hLs, hMs, fun k h => h, fun h => by omega, fun h => by omega⟩ (fun q σ H5 _ h => ?_) ?_ ?_⟩
          · obtain ⟨_, _, _, _, _, _, h, _⟩ := h
            exact SqT.of h
          · rintro q y σ H5 hq ⟨v11, v12, ms', ls', rfl, s5, htp5, hhe5, hT5, hme5, hla5, hml5, hll5, hLs5, hMs5, hsub, hq1, hq2⟩
            obtain ⟨d, hd, rfl⟩ := map_at hq
            have hq2' : q < 2 := (List.getElem?_eq_some_iff.mp hd).1
            have hdd : (q = 0 ∧ d = 1) ∨ (q = 1 ∧ d = -1) := by
              match q, hd with
              | 0, e => exact .inl ⟨rfl, (Option.some.inj e).symm⟩
              | 1, e => exact .inr ⟨rfl, (Option.some.inj e).symm⟩
            walk_at "go"
            intro t6 n6
            walk_at "go"
            have s6 : Same H5 (upd H5 t6 (.tup [.int t.1, .int t.2.1])) := same_new n6
            refine spLB_i (x := (t.1, t.2.1)) (s6 _ _ (s5 _ _ hg)) upd_same fun q7 H7 n7 h7 hq7 => ?_
            rw [lx_nx hgt.1] at hq7
            walk_at "go"
            intro t8 n8
            refine r_addT (at_new n8 hq7) upd_same (by simp) (by simp) (len_ok rfl) fun t9 n9 => ?_
            walk_at "go"
            have s59 : Same H5 (upd (upd H7 t8 (.tup [.int t.2.2])) t9 (.tup ([.int (nx p (t.1, t.2.1) d).1, .int (nx p (t.1, t.2.1) d).2] ++ [.int t.2.2]))) := s6.trans (h7.trans ((same_new n8).trans (same_new n9)))
            have h9 : upd (upd H7 t8 (.tup [.int t.2.2])) t9 (.tup ([.int (nx p (t.1, t.2.1) d).1, .int (nx p (t.1, t.2.1) d).2] ++ [.int t.2.2])) t9 = some (.tup ((k3 (st3 p t d)).map kV)) := upd_same
            generalize upd (upd H7 t8 (.tup [.int t.2.2])) t9 (.tup ([.int (nx p (t.1, t.2.1) d).1, .int (nx p (t.1, t.2.1) d).2] ++ [.int t.2.2])) = H9 at s59 h9 ⊢
            have hme9 := s59 _ _ hme5
            have hla9 := s59 _ _ hla5
            have gst : Good r p gs S (n + 1) (st3 p t d) := by
              refine ⟨hgt.1.nx p0 d, hgt.2.1, ?_⟩
              have a := hgt.2.2
              have b := lip r2 p0 (gs.drop t.2.2) (t.1, t.2.1) hgt.1
              unfold c3 at a ⊢
              show S ≤ ((n + 1 : Nat) : Int) + cost r p (nx p (t.1, t.2.1) d) (gs.drop t.2.2)
              rcases hdd with ⟨_, rfl⟩ | ⟨_, rfl⟩
              · have := b.1
                omega
              · have := b.2
                omega
            refine r_dnotin ?_
            walk_at "go"
            refine ⟨_, _, rfl, DGet.t hme9 h9, ?_⟩
            walk_at "go"
            have fin : ∀ (ms2 ls2 : List (List Key × V)), k3 (st3 p t d) ∈ ms2.map (·.1) → (∀ k ∈ ms'.map (·.1), k ∈ ms2.map (·.1)) → (∀ k ∈ ms.map (·.1), k ∈ ms2.map (·.1)) ∧ (1 ≤ q + 1 → k3 (st3 p t 1) ∈ ms2.map (·.1)) ∧ (2 ≤ q + 1 → k3 (st3 p t (-1)) ∈ ms2.map (·.1)) := fun ms2 ls2 i1 i2 => by
              refine ⟨fun k h => i2 k (hsub k h), fun _ => ?_, fun h => ?_⟩
              · rcases hdd with ⟨e, rfl⟩ | ⟨e, rfl⟩
                · exact i1
                · exact i2 _ (hq1 (by omega))
              · rcases hdd with ⟨e, rfl⟩ | ⟨e, rfl⟩
                · omega
                · exact i1
            cases hv : valV ms' (k3 (st3 p t d)) with
            | some v =>
              refine iteF ?_
              walk_at "go"
              exact ⟨_, _, ms', ls', rfl, s5.trans s59, s59 _ _ htp5, s59 _ _ hhe5, hT5.mono fun b xs e => s59 _ _ e, hme9, hla9, by omega, by omega, hLs5, hMs5, fin ms' ls' (valV_in hv) fun k h => h⟩
            | none =>
              refine iteT ?_
              walk_at "go"
              refine r_dput ?_
              walk_at "go"
              refine r_putA hme9 h9 (size_ok (by omega)) fun H10 e10 w10 => ?_
              walk_at "go"
              refine r_dput ?_
              walk_at "go"
              refine r_putA (w10 _ _ mela.symm hla9) (w10 _ _ (ne_of h9 hme9 (fun z => nomatch z)) h9) (size_ok (by omega)) fun H11 e11 w11 => ?_
              walk_at "go"
              have hme11 := w11 _ _ mela e10
              have keep : ∀ b xs, H9 b = some (.tup xs) → H11 b = some (.tup xs) := fun b xs e => w11 _ _ (ne_of e hla9 (fun z => nomatch z)) (w10 _ _ (ne_of e hme9 (fun z => nomatch z)) e)
              have lm := put_len ms' (k3 (st3 p t d)) (.bl true)
              have ll := put_len ls' (k3 (st3 p t d)) (.bl true)
              refine ⟨_, _, _, _, rfl, fun b o e => w11 _ _ (ne_of_none e nlaH) (w10 _ _ (ne_of_none e nme) (s59 _ _ (s5 _ _ e))), keep _ _ (s59 _ _ htp5), w11 _ _ hela (w10 _ _ heme (s59 _ _ hhe5)), (hT5.mono fun b xs e => s59 _ _ e).mono keep, hme11, e11, by omega, by omega, fun k h => ?_, fun k h => ?_, fin _ [] (put_mem.mpr (.inl rfl)) fun k h => put_mem.mpr (.inr h)⟩
              · rcases put_mem.mp h with rfl | h
                · exact ⟨_, rfl, gst⟩
                · exact hLs5 k h
              · rcases put_mem.mp h with rfl | h
                · exact .inr (put_mem.mpr (.inl rfl))
                · rcases hMs5 k h with h | h
                  · exact .inl h
                  · exact .inr (put_mem.mpr (.inr h))
          · rintro σ H5 ⟨v11, v12, ms', ls', rfl, s5, htp5, hhe5, hT5, hme5, hla5, hml5, hll5, hLs5, hMs5, hsub, hq1, hq2⟩
            have e2 : ([(1 : Int), -1].map V.int).length = 2 := rfl
            rw [e2] at hml5 hll5 hq1 hq2
            refine ⟨_, _, _, _, _, ms', ls', rfl, s5, hhe5, hT5, hme5, hla5, by omega, by omega, hLs5, hMs5, fun j u hj hu => ?_⟩
            by_cases c : j = i
            · subst c
              rw [ht] at hu
              cases hu
              exact ⟨hq1 (by decide), hq2 (by decide)⟩
            · have := hdone j u (by omega) hu
              exact ⟨hsub _ this.1, hsub _ this.2⟩
        · rintro σ H4 ⟨v7, v8, v9, v11, v12, ms, ls, rfl, s4, hhe4, hT4, hme4, hla4, hml, hll, hLs, hMs, hdone⟩
          rw [List.length_map, hbl] at hml hll hdone
          walk_at "go"
          refine r_listDT hla4 fun nl bs2 nnl hik => ?_
          walk_at "go"
          obtain ⟨zs, hz1, hz2⟩ := tr3_of hik fun k h => by
            obtain ⟨t, ht, _⟩ := hLs k h
            exact ⟨t, ht⟩
          have hzl : zs.length = ls.length := by
            have := congrArg List.length hz2
            rw [List.length_map, List.length_map] at this
            exact this.symm
          -- the next state on the way
          obtain ⟨j, hj⟩ := List.mem_iff_getElem?.mp hty
          have hjy : j < ys.length := by
            rw [hyl]
            exact (List.getElem?_eq_some_iff.mp hj).1
          obtain ⟨u, hu⟩ : ∃ u, ys[j]? = some u := ⟨_, List.getElem?_eq_getElem hjy⟩
          have hcu := hC j u ty hu hj
          obtain ⟨hgu, go, hgo, hno⟩ := hY u (List.mem_of_getElem? hu)
          have hul : u.2.2 < gs.length := (List.getElem?_eq_some_iff.mp hgo).1
          have edrop : gs.drop u.2.2 = go :: gs.drop (u.2.2 + 1) := by
            rw [List.drop_eq_getElem_cons hul]
            rw [List.getElem?_eq_getElem hul] at hgo
            rw [Option.some.inj hgo]
          obtain ⟨d, hd1, hd2⟩ : ∃ d, k3 (st3 p u d) ∈ ms.map (·.1) ∧ c3 r p gs (st3 p u d) + 1 ≤ c3 r p gs u := by
            have a := (cost_step (gs := gs.drop (u.2.2 + 1)) r2 p0 hgu.1 hno).2
            have b := hdone j u hjy hu
            unfold c3 st3
            dsimp only
            rw [edrop]
            rcases a with a | a
            · exact ⟨1, b.1, a⟩
            · exact ⟨-1, b.2, a⟩
          have hin : k3 (st3 p u d) ∈ ls.map (·.1) := by
            rcases hMs _ hd1 with ⟨t, e, hg'⟩ | h
            · rw [← k3_inj e] at hg'
              have := hg'.2.2
              omega
            · exact h
          obtain ⟨t', ht', g'⟩ := hLs _ hin
          have hnn : 0 ≤ c3 r p gs (st3 p u d) := by
            rw [k3_inj ht']
            exact cost_nn (by omega) p0 _ _ g'.1
          have hzin : st3 p u d ∈ zs := by
            rw [hz2] at hin
            obtain ⟨t2, ht2, e⟩ := List.mem_map.mp hin
            rw [k3_inj e] at ht2
            exact ht2
          have sN : Same H4 (upd H4 nl (.lst (bs2.map V.ref))) := same_new nnl
          refine ⟨m - 1, by omega, nl, me, n + 1, bs2, zs, ms, _, _, _, _, _, _, _, rfl, s4.trans sN, s4.free nnl, nme, upd_same, hz1.mono fun b xs e => sN _ _ e, sN _ _ hme4, by omega, by rw [show n + 1 + 2 = n + 3 by omega]; omega, fun t ht => ?_, fun k hk => ?_, ⟨st3 p u d, hzin, ?_⟩, ?_⟩
          · have : k3 t ∈ ls.map (·.1) := by
              rw [hz2]
              exact List.mem_map.mpr ⟨t, ht, rfl⟩
            obtain ⟨t2, e, g2⟩ := hLs _ this
            rw [k3_inj e]
            exact g2
          · rcases hMs k hk with ⟨t, e, hg'⟩ | h
            · exact ⟨t, e, hg'.up⟩
            · exact hLs k h
          · omega
          · omega
end
end Rd

namespace Rd
open PySem L2
section
variable {P : Program} {w : World} {K : PySem.W.Frag} {mg : Str → Option Value} {base : Heap}
theorem perms_perm {n : Nat} (h : n ≤ 5) : ∀ o ∈ perms 5 (idx n), o.Perm (idx n) := by
  have key : ∀ o ∈ perms 5 (idx n), o.isPerm (idx n) = true := by
    match n, h with
    | 0, _ => decide +kernel
    | 1, _ => decide +kernel
    | 2, _ => decide +kernel
    | 3, _ => decide +kernel
    | 4, _ => decide +kernel
    | 5, _ => decide +kernel
  exact fun o ho => List.isPerm_iff.mp (key o ho)
theorem idx_rise {n : Nat} (h : n ≤ 5) : (idx n).Pairwise (· ≤ ·) := by
  match n, h with
  | 0, _ => decide +kernel
  | 1, _ => decide +kernel
  | 2, _ => decide +kernel
  | 3, _ => decide +kernel
  | 4, _ => decide +kernel
  | 5, _ => decide +kernel
theorem idx_in {n : Nat} (h : n ≤ 5) : idx n ∈ perms 5 (idx n) := by
  match n, h with
  | 0, _ => decide +kernel
  | 1, _ => decide +kernel
  | 2, _ => decide +kernel
  | 3, _ => decide +kernel
  | 4, _ => decide +kernel
  | 5, _ => decide +kernel
theorem sort_idx {n : Nat} (h : n ≤ 5) {o ns : List Int} (ho : o ∈ perms 5 (idx n)) (hp : ns.Perm o) (hs : ns.Pairwise (· ≤ ·)) : ns = idx n :=
  List.Perm.eq_of_pairwise (le := (· ≤ ·)) (fun a b _ _ h1 h2 => Int.le_antisymm h1 h2) hs (idx_rise h) (hp.trans (perms_perm h o ho))
theorem idx_at7 {n i : Nat} (h : i < n) : (idx n)[i]? = some (i : Int) := by
  unfold idx
  rw [List.getElem?_map, List.getElem?_range h]
  rfl
theorem pick_idx (gs : List Int) : pick gs (idx gs.length) = gs := by
  unfold pick
  refine List.ext_getElem? fun i => ?_
  rw [List.getElem?_map]
  by_cases h : i < gs.length
  · rw [idx_at7 h, List.getElem?_eq_getElem h]
    show some (gs.getD ((i : Int)).toNat 0) = _
    rw [List.getD_eq_getElem?_getD, Int.toNat_natCast, List.getElem?_eq_getElem h]
    rfl
  · rw [List.getElem?_eq_none (by rw [idx_len]; omega), List.getElem?_eq_none (by omega)]
    rfl
theorem mod_at {r g s : Int} (h : (g - s) % r = 0) (h0 : 0 ≤ g) (h1 : g < r) : s % r = g := by
  obtain ⟨q, hq⟩ := Int.dvd_of_emod_eq_zero h
  have e : s = g + r * (-q) := by
    rw [Int.mul_neg]
    omega
  rw [e, Int.add_mul_emod_self_left]
  exact Int.emod_eq_of_lt h0 h1
theorem tour_le {r p : Int} {x : Int × Int} {gs : List Int} {q z : Int × List Int} (hn : gs.length ≤ 5) (a : TourR r p x gs q) (b : BestR (rowsOf r p x gs) z) : q.1 ≤ z.1 := by
  have h := a.2.2 (idx gs.length) (idx_in hn) z.1 z.2 (by rw [pick_idx]; exact b)
  rw [ltL] at h
  split at h
  · omega
  · have := of_decide_eq_false h
    omega
def absL (ks : List Int) : List Int := ks.map fun k => ((k.natAbs : Nat) : Int)
set_option maxHeartbeats 8000000 in
theorem ok_law {f : Addr} {fd : FuncData} (B : Bl mg) (F : Fun K "law" "law" s_law f fd) (H_law_start : Has P w K mg base CX0 1 "_law_start" (spStart K)) (H_law_drawn : Has P w K mg base CX0 1 "_law_drawn" (spDrawn K))
    (H_law_gear : Has P w K mg base CX0 2 "_law_gear" (spGear K)) (H_law_standing : Has P w K mg base CX0 2 "_law_standing" (spStanding K)) (H_law_fewest : Has P w K mg base CX0 2 "_law_fewest" (spFewest K))
    (H_stands : Has P w K mg base CX0 3 "stands" (spStands K)) (H_path : Has P w K mg base CX0 11 "path" (spPath K)) (H_tour : Has P w K mg base CX0 11 "tour" (spTour K)) :
    FnOk P w K mg base CX0 12 f fd ["_law_script"] (spLaw K) := by
  refine F.ok sc_law (fun vs H Q E h => ?_) (fun cdv A outer s H vs Q E hr h => ?_)
  · obtain ⟨a, ns, rfl, _⟩ := h
    rfl
  · obtain ⟨a, ns, rfl, hS, hlen, k⟩ := h
    refine ⟨_, (pss_cons (ps_set (i := 1) sc_law.nd rfl (by first | exact Or.inl rfl | exact Or.inr rfl) (pe_has H_law_start hr (by omega) rfl pass0 (pa_cons (pv 0) pa_nil)))
 (pss_cons (ps_for PassesOwn.never rfl (pi_range1 rfl B.range (pa_cons pe_int pa_nil)) (pg_name (i := 2) sc_law.nd rfl (by first | exact Or.inl rfl | exact Or.inr rfl)) (pss_cons (ps_set (i := 3) sc_law.nd rfl (by first | exact Or.inl rfl | exact Or.inr rfl) (pe_has H_law_gear hr (by omega) rfl pass0 (pa_cons (pv 1) (pa_cons pe_bl pa_nil))))
 (pss_cons (ps_set (i := 3) sc_law.nd rfl (by first | exact Or.inl rfl | exact Or.inr rfl) (pe_tup (pa_cons (pe_callB (kc_min (K := K) rfl rfl) rfl B.min (by decide +kernel) (pa_cons (pe_ix (kix (K := K) rfl) (pv 3) pe_int (fun _ _ => rfl)) (pa_cons pe_int pa_nil))) (pa_cons (pe_callB (kc_min (K := K) rfl rfl) rfl B.min (by decide +kernel) (pa_cons (pe_ix (kix (K := K) rfl) (pv 3) pe_int (fun _ _ => rfl)) (pa_cons pe_int pa_nil))) pa_nil))))
 (pss_cons (ps_set (i := 4) sc_law.nd rfl (by first | exact Or.inl rfl | exact Or.inr rfl) (pe_has H_law_standing hr (by omega) rfl pass0 (pa_cons (pv 1) (pa_cons (pv 3) pa_nil))))
 (pss_cons (ps_set (i := 5) sc_law.nd rfl (by first | exact Or.inl rfl | exact Or.inr rfl) (pe_lc (own := [("_law_k", 8)]) (g := (gName 8)) rfl sc_law.nd (pi_range1 rfl B.range (pa_cons (pe_has H_law_drawn hr (by omega) rfl pass0 (pa_cons (pv 1) (pa_cons (pe_ix (kix (K := K) rfl) (pe_lst (pa_cons pe_int (pa_cons pe_int (pa_cons pe_int (pa_cons pe_int pa_nil))))) (pe_has H_law_drawn hr (by omega) rfl pass0 (pa_cons (pv 1) (pa_cons pe_int pa_nil))) (fun _ _ => rfl)) pa_nil))) pa_nil)) (blkOk_by (N := ["_law_script", "_law_state", "_law_turn", "_law_gear_here", "_law_standing_here", "_law_goals", "_law_steps", "_law_fewest_here", "_law_k", "_law_total", "_law_order", "_law_step"]) (sc := defScope s_law) (own := [("_law_k", 8)]) (by decide +kernel)) (fun _ _ _ _ _ => (pg_name (i := 8) sc_law.nd rfl (by first | exact Or.inl rfl | exact Or.inr rfl))) (fun _ _ _ _ _ => pts_nil) (fun _ _ _ _ _ => (pe_has H_law_drawn hr (by omega) rfl pass0 (pa_cons (pv 1) (pa_cons (pe_ix (kix (K := K) rfl) (pv 3) pe_int (fun _ _ => rfl)) pa_nil))))))
 (pss_cons (ps_set (i := 6) sc_law.nd rfl (by first | exact Or.inl rfl | exact Or.inr rfl) (pe_has H_path hr (by omega) rfl pass0 (pa_cons (pv 3) (pa_cons (pv 4) (pa_cons (pv 5) pa_nil)))))
 (pss_cons (ps_set (i := 7) sc_law.nd rfl (by first | exact Or.inl rfl | exact Or.inr rfl) (pe_has H_law_fewest hr (by omega) rfl pass0 (pa_cons (pv 3) (pa_cons (pv 4) (pa_cons (pv 5) pa_nil)))))
 (pss_cons (ps_if (PW.pt (pw_or (pt_cmpR (kop_ne (K := K) rfl hr.units) (pe_callB (kc_len (K := K) rfl) rfl B.len (by decide +kernel) (pa_cons (pv 6) pa_nil)) (pe_callB (kc_len (K := K) rfl) rfl B.len (by decide +kernel) (pa_cons (pv 5) pa_nil)) (nomark _)) (pw_or1 (pt_cmpR (kop_ne (K := K) rfl hr.units) (pe_callB (kc_sum (K := K) rfl rfl) rfl B.sum (by decide +kernel) (pa_cons (pe_lc (own := [("_law_step", 11)]) (g := (gName 11)) rfl sc_law.nd (kpi_list (K := K) rfl (pv 6)) (blkOk_by (N := ["_law_script", "_law_state", "_law_turn", "_law_gear_here", "_law_standing_here", "_law_goals", "_law_steps", "_law_fewest_here", "_law_k", "_law_total", "_law_order", "_law_step"]) (sc := defScope s_law) (own := [("_law_step", 11)]) (by decide +kernel)) (fun _ _ _ _ _ => (pg_name (i := 11) sc_law.nd rfl (by first | exact Or.inl rfl | exact Or.inr rfl))) (fun _ _ _ _ _ => pts_nil) (fun _ _ _ _ _ => (pe_callB call_absA rfl B.abs (by decide +kernel) (pa_cons (pv 11) pa_nil)))) pa_nil)) (pv 7) (nomark _))))) (pss_one (ps_ret pe_bl)) pss_nil)
 (pss_cons (ps_for PassesOwn.never rfl (pi_range1 rfl B.range (pa_cons (pe_callB (kc_len (K := K) rfl) rfl B.len (by decide +kernel) (pa_cons (pv 5) pa_nil)) pa_nil)) (pg_name (i := 8) sc_law.nd rfl (by first | exact Or.inl rfl | exact Or.inr rfl)) (pss_one (ps_if (pt_cmpR (kop_ne (K := K) rfl hr.units) (pe_op op_mod (pe_ix (kix (K := K) rfl) (pe_has H_stands hr (by omega) rfl pass0 (pa_cons (pv 3) (pa_cons (pv 4) (pa_cons (pe_slice (ksl (K := K) rfl) (pv 6) po_none (po_some (pe_op (kop_add (K := K) rfl) (pv 8) pe_int))) pa_nil)))) pe_int (fun _ _ => rfl)) (pe_ix (kix (K := K) rfl) (pv 3) pe_int (fun _ _ => rfl))) (pe_ix (kix (K := K) rfl) (pv 5) (pv 8) (fun _ _ => rfl)) (nomark _)) (pss_one (ps_ret pe_bl)) pss_nil)))
 (pss_cons (ps_asg (pe_has H_tour hr (by omega) rfl pass0 (pa_cons (pv 3) (pa_cons (pv 4) (pa_cons (pv 5) pa_nil)))) (kpg_tup (K := K) rfl rfl (pgs_cons (pg_name (i := 9) sc_law.nd rfl (by first | exact Or.inl rfl | exact Or.inr rfl)) (pgs_cons (pg_name (i := 10) sc_law.nd rfl (by first | exact Or.inl rfl | exact Or.inr rfl)) pgs_nil))))
 (pss_cons (ps_if (PW.pt (pw_or (pt_cmpR (kop_ne (K := K) rfl hr.units) (pe_callB (kc_sorted (K := K) rfl) rfl B.sorted (by decide +kernel) (pa_cons (pv 10) pa_nil)) (pe_listRg rfl rfl B.list (prg_1 rfl B.range (pe_callB (kc_len (K := K) rfl) rfl B.len (by decide +kernel) (pa_cons (pv 5) pa_nil)))) (nomark _)) (pw_or1 (pt_cmpR op_gt (pv 9) (pe_callB (kc_sum (K := K) rfl rfl) rfl B.sum (by decide +kernel) (pa_cons (pe_lc (own := [("_law_step", 11)]) (g := (gName 11)) rfl sc_law.nd (kpi_list (K := K) rfl (pv 6)) (blkOk_by (N := ["_law_script", "_law_state", "_law_turn", "_law_gear_here", "_law_standing_here", "_law_goals", "_law_steps", "_law_fewest_here", "_law_k", "_law_total", "_law_order", "_law_step"]) (sc := defScope s_law) (own := [("_law_step", 11)]) (by decide +kernel)) (fun _ _ _ _ _ => (pg_name (i := 11) sc_law.nd rfl (by first | exact Or.inl rfl | exact Or.inr rfl))) (fun _ _ _ _ _ => pts_nil) (fun _ _ _ _ _ => (pe_callB call_absA rfl B.abs (by decide +kernel) (pa_cons (pv 11) pa_nil)))) pa_nil)) (nomark _))))) (pss_one (ps_ret pe_bl)) pss_nil)
 (pss_one (ps_if (pt_cmpR (kop_ne (K := K) rfl hr.units) (pv 9) (pe_callB (kc_sum (K := K) rfl rfl) rfl B.sum (by decide +kernel) (pa_cons (pe_lc (own := [("_law_step", 11)]) (g := (gName 11)) rfl sc_law.nd (kpi_list (K := K) rfl (pe_has H_path hr (by omega) rfl pass0 (pa_cons (pv 3) (pa_cons (pv 4) (pa_cons (pe_lc (own := [("_law_k", 8)]) (g := (gName 8)) rfl sc_law.nd (kpi_list (K := K) rfl (pv 10)) (blkOk_by (N := ["_law_script", "_law_state", "_law_turn", "_law_gear_here", "_law_standing_here", "_law_goals", "_law_steps", "_law_fewest_here", "_law_k", "_law_total", "_law_order", "_law_step"]) (sc := defScope s_law) (own := [("_law_k", 8)]) (by decide +kernel)) (fun _ _ _ _ _ => (pg_name (i := 8) sc_law.nd rfl (by first | exact Or.inl rfl | exact Or.inr rfl))) (fun _ _ _ _ _ => pts_nil) (fun _ _ _ _ _ => (pe_ix (kix (K := K) rfl) (pv 5) (pv 8) (fun _ _ => rfl)))) pa_nil))))) (blkOk_by (N := ["_law_script", "_law_state", "_law_turn", "_law_gear_here", "_law_standing_here", "_law_goals", "_law_steps", "_law_fewest_here", "_law_k", "_law_total", "_law_order", "_law_step"]) (sc := defScope s_law) (own := [("_law_step", 11)]) (by decide +kernel)) (fun _ _ _ _ _ => (pg_name (i := 11) sc_law.nd rfl (by first | exact Or.inl rfl | exact Or.inr rfl))) (fun _ _ _ _ _ => pts_nil) (fun _ _ _ _ _ => (pe_callB call_absA rfl B.abs (by decide +kernel) (pa_cons (pv 11) pa_nil)))) pa_nil)) (nomark _)) (pss_one (ps_ret pe_bl)) pss_nil)))))))))))))
 (pss_one (ps_ret pe_bl)))), ?_⟩
    refine r_start (σ' := [some (.ref a), none, none, none, none, none, none, none, none, none, none, none]) rfl ?_
    walk_at "go"
    refine spStart_i hS fun st H1 _ sm1 s1 => ?_
    walk_at "go"
    refine ⟨_, rfl, by decide, by decide, fw_range (fun i σ H2 => ∃ v2 v3 v4 v5 v6 v7 v8 v9 v10, σ = [some (.ref a), some (.ref st), v2, v3, v4, v5, v6, v7, v8, v9, v10, none] ∧ St H2 st a ∧ SqL K H2 a (ns.map V.int))
      ⟨_, _, _, _, _, _, _, _, _, rfl, s1, sm1.seq hS⟩ ?_ ?_⟩
    · rintro i σ H2 hi ⟨v2, v3, v4, v5, v6, v7, v8, v9, v10, rfl, s2, hS2⟩
      walk_at "go"
      refine spGear_i s2 hS2 fun g0 r0 p0' H3 r2' r6' pp0 p6' hb s3 R3 hg0 => ?_
      have hS3 := fr_sq R3 hS2
      obtain ⟨hb1, hb2⟩ := hb rfl
      walk_at "go"
      have eR : ∃ r, r = min r0 7 := ⟨_, rfl⟩
      have eP : ∃ p, p = min p0' 4 := ⟨_, rfl⟩
      obtain ⟨r, er⟩ := eR
      obtain ⟨p, ep⟩ := eP
      rw [← er, ← ep]
      have r2 : 2 ≤ r := by omega
      have r7 : r ≤ 7 := by omega
      have p0 : 0 ≤ p := by omega
      have p4 : p ≤ 4 := by omega
      intro g ng
      walk_at "go"
      have hg3 : upd H3 g (.tup [.int r, .int p]) g = some (.tup [.int r, .int p]) := upd_same
      refine spStanding_i (s3.new ng) (sq_new ng hS3) hg3 p0 (by omega) fun z m s H4 z1 z2 z3 z4 s4 R4 hz => ?_
      have hS4 := fr_sq R4 (sq_new ng hS3)
      have hg4 : H4 g = some (.tup [.int r, .int p]) := R4 _ _ hg3 nst_tup
      have hs : Stg p (m, s) := ⟨z1, z2⟩
      walk_at "go"
      intro t5 n5
      walk_at "go"
      refine spDrawn_i (by walk_at "ss") (by walk_at "sq") (by omega) (by decide) fun w5 H5 a5 b5 s5 R5 => ?_
      obtain ⟨mo, e5, m5⟩ := pick4 4 4 4 5 a5 (by omega)
      refine r_ix (by walk_at "sq") e5 ?_
      walk_at "go"
      refine spDrawn_i s5 (by walk_at "sq") (by omega) (small200 (by omega) (by omega)) fun n6 H6 a6 b6 s6 R6 => ?_
      have hS6 : SqL K H6 a (ns.map V.int) := by walk_at "sq"
      have hg6 : H6 g = some (.tup [.int r, .int p]) := by walk_at "hp"
      have hz6 : H6 z = some (.tup [.int m, .int s]) := by walk_at "hp"
      refine ⟨_, rfl, by omega, by omega, fun D nD => lcw_range (σw := [some (.ref a), some (.ref st), some (.int (0 + i)), some (.ref g), some (.ref z), v5, v6, v7, none, v9, v10, none])
        (fun j H7 => ∃ gs : List Int, gs.length = j ∧ (∀ y ∈ gs, 0 ≤ y ∧ y < r) ∧ St H7 st a ∧ Fr H6 H7 ∧ H7 D = some (.lst (gs.map V.int))) rfl ⟨[], rfl, by simp, s6.new nD, fr_new nD (Fr.refl _), upd_same⟩ (fun j H7 hj h => ?_) fun H7 h => ?_⟩
      · obtain ⟨gs, hgl, hgb, s7, R7, hD⟩ := h
        have hS7 := fr_sq R7 hS6
        walk_at "go"
        refine ⟨rfl, ?_⟩
        walk_at "go"
        refine iteT ?_
        walk_at "go"
        refine spDrawn_i s7 hS7 (by omega) (small200 (by omega) (by omega)) fun v8 H8 a8 b8 s8 R8 => ?_
        have hD8 := R8 _ _ hD nst_ints
        refine ⟨_, hD8, by rw [List.length_map]; exact small1000 (by omega), gs ++ [v8], by simp [hgl], fun y hy => ?_, s8.wr hD8 nst_ints, fun b o e n => at_wr (ne_of_none e nD) (R8 _ _ (R7 _ _ e n) n), by rw [upd_same]; simp⟩
        rcases List.mem_append.mp hy with hy | hy
        · exact hgb y hy
        · rw [List.mem_singleton.mp hy]
          exact ⟨a8, b8⟩
      obtain ⟨gs, hgl, hgb, s7, R7, hD⟩ := h
      have hgl4 : gs.length ≤ 4 := by omega
      have hS7 := fr_sq R7 hS6
      have hg7 := R7 _ _ hg6 nst_tup
      have hz7 := R7 _ _ hz6 nst_tup
      have G7 : GearAt H7 g r p := ⟨hg7, r2, by omega, p0, by omega⟩
      walk_at "go"
      refine spPath_i (x := (m, s)) G7 hz7 hs (SqL.of hD) (by omega) hgb fun fo q H8 nfo h8 hfo _ best => ?_
      walk_at "go"
      have hql : q.2.length = gs.length := rows_len best.1
      obtain ⟨hsum, hhit⟩ := rows_hit (by omega) p0 gs (m, s) hs q best.1
      have hcost := best_cost (by omega) p0 hs best
      refine spFewest_i (x := (m, s)) (h8 _ _ hg7) r2 r7 p0 p4 (h8 _ _ hz7) hs (h8 _ _ hD) hgl4 fun H9 h9 => ?_
      have s79 : Same H7 H9 := h8.trans h9
      have hfo9 := h9 _ _ hfo
      have hD9 := s79 _ _ hD
      walk_at "go"
      rw [List.length_map, List.length_map]
      refine iteNF (by omega) ?_
      walk_at "go"
      refine ⟨_, rfl, ⟨_, SqL.of hfo9⟩, fun D2 nD2 => lcw_list (K := K) (a := fo) (xs := q.2.map V.int) (σw := [some (.ref a), some (.ref st), some (.int (0 + i)), some (.ref g), some (.ref z), some (.ref D), some (.ref fo), some (.int (cost r p (m, s) gs)), v8, v9, v10, none])
        (fun j H10 => Same H9 H10 ∧ H10 D2 = some (.lst ((absL (q.2.take j)).map V.int))) rfl ⟨same_new nD2, upd_same⟩ (fun j H10 _ h => SqL.of (h.1 _ _ hfo9)) (fun j y H10 hj h => ?_) fun H10 h => ?_⟩
      · obtain ⟨h10, hD2⟩ := h
        obtain ⟨kk, hk, rfl⟩ := map_at hj
        walk_at "go"
        refine ⟨rfl, ?_⟩
        walk_at "go"
        refine iteT ?_
        walk_at "go"
        refine ⟨_, hD2, by rw [absL, List.length_map, List.length_map, List.length_take]; exact small1000 (by omega), fun b' o' e => at_wr (ne_of_none e nD2) (h10 _ _ e), ?_⟩
        rw [upd_same, take_snoc hk]
        simp [absL]
      obtain ⟨h10, hD2⟩ := h
      rw [List.length_map, List.take_length] at hD2
      have s710 : Same H7 H10 := s79.trans h10
      walk_at "go"
      refine r_sum (SqL.of hD2) ?_
      walk_at "go"
      refine iteNF (by rw [← hcost, hsum]; rfl) ?_
      have hD10 := s710 _ _ hD
      walk_at "go"
      rw [List.length_map]
      refine ⟨_, rfl, by omega, by omega, fw_range (fun j σ H11 => ∃ v8 v9 v10, σ = [some (.ref a), some (.ref st), some (.int (0 + i)), some (.ref g), some (.ref z), some (.ref D), some (.ref fo), some (.int (cost r p (m, s) gs)), v8, v9, v10, none] ∧ Same H10 H11)
        ⟨_, _, _, rfl, Same.refl _⟩ ?_ ?_⟩
      · rintro j σ H11 hj ⟨v8, v9, v10, rfl, s11⟩
        have s711 : Same H7 H11 := s710.trans s11
        have hjl : j < gs.length := by omega
        obtain ⟨go, hgo⟩ : ∃ go, gs[j]? = some go := ⟨_, List.getElem?_eq_getElem hjl⟩
        have hgo2 := hgb go (List.mem_of_getElem? hgo)
        have hfo11 := s11 _ _ (h10 _ _ hfo9)
        walk_at "go"
        refine r_slL (SqL.of hfo11) fun c nc => ?_
        rw [cut_take V.int q.2 (by omega)]
        walk_at "go"
        have ej : (0 + (j : Int) + 1).toNat = j + 1 := by omega
        refine spStands_i (x := (m, s)) (G7.mono (at_new nc (s711 _ _ hg7))) (at_new nc (s711 _ _ hz7)) hs (SqL.of upd_same) (by rw [List.length_take]; omega) fun qq H12 h12 hqq => ?_
        rw [ej] at hqq
        have s712 : Same H7 H12 := s711.trans ((same_new nc).trans h12)
        have hg12 := s712 _ _ hg7
        have hD12 := s712 _ _ hD
        walk_at "go"
        refine r_I (show 0 < r by omega) ?_
        walk_at "go"
        refine r_ix (v := .int go) (.inl (SqL.of hD12)) (at_of (j := j) (by omega) (by rw [List.getElem?_map, hgo]; rfl)) ?_
        walk_at "go"
        refine iteNF (mod_at (hhit j go hgo) hgo2.1 hgo2.2) ?_
        walk_at "go"
        exact ⟨_, _, _, rfl, s11.trans ((same_new nc).trans h12)⟩
      · rintro σ H11 ⟨v8, v9, v10, rfl, s11⟩
        have s711 : Same H7 H11 := s710.trans s11
        walk_at "go"
        refine spTour_i (x := (m, s)) (G7.mono (s711 _ _ hg7)) (s711 _ _ hz7) hs (SqL.of (s711 _ _ hD)) (by omega) hgb fun tt ta q2 H12 _ _ h12 htt hta hq2l tour => ?_
        obtain ⟨hom, ⟨row, hbest2⟩, _⟩ := id tour
        have hle := tour_le (by omega) tour best
        have s712 : Same H7 H12 := s711.trans h12
        have hperm := perms_perm (show gs.length ≤ 5 by omega) _ hom
        have hol : q2.2.length ≤ 5 := perms_row 5 _ _ hom
        walk_at "go"
        refine r_sorted (SqL.of hta) (by omega) fun ns' p13 hp1 hp2 n13 => ?_
        have ens := sort_idx (show gs.length ≤ 5 by omega) hom hp1 hp2
        subst ens
        walk_at "go"
        refine r_lstRg1 ?_
        have hD13 := at_new (u := .lst ((idx gs.length).map V.int)) n13 (s712 _ _ hD)
        walk_at "go"
        rw [List.length_map]
        refine ⟨⟨by omega, by omega, by omega, by omega, by omega⟩, fun q14 n14 => ?_⟩
        rw [idx_rg]
        walk_at "go"
        refine r_neIs (d := dInts (idx gs.length)) (n := 1) (Is.ints (at_new n14 upd_same)) (Is.ints upd_same) (Fl.ints 0 _) ?_
        walk_at "go"
        refine iteF ?_
        have h1214 : Same H12 (upd (upd H12 p13 (.lst ((idx gs.length).map V.int))) q14 (.lst ((idx gs.length).map V.int))) := (same_new n13).trans (same_new n14)
        generalize upd (upd H12 p13 (.lst ((idx gs.length).map V.int))) q14 (.lst ((idx gs.length).map V.int)) = H14 at h1214 ⊢
        have s714 : Same H7 H14 := s712.trans h1214
        have hfo14 := h1214 _ _ (h12 _ _ (s11 _ _ (h10 _ _ hfo9)))
        have hta14 := h1214 _ _ hta
        walk_at "go"
        refine ⟨_, rfl, ⟨_, SqL.of hfo14⟩, fun D3 nD3 => lcw_list (K := K) (a := fo) (xs := q.2.map V.int) (σw := [some (.ref a), some (.ref st), some (.int (0 + i)), some (.ref g), some (.ref z), some (.ref D), some (.ref fo), some (.int (cost r p (m, s) gs)), v8, some (.int q2.1), some (.ref ta), none])
          (fun j H15 => Same H14 H15 ∧ H15 D3 = some (.lst ((absL (q.2.take j)).map V.int))) rfl ⟨same_new nD3, upd_same⟩ (fun j H15 _ h => SqL.of (h.1 _ _ hfo14)) (fun j y H15 hj h => ?_) fun H15 h => ?_⟩
        · obtain ⟨h15, hD3⟩ := h
          obtain ⟨kk, hk, rfl⟩ := map_at hj
          walk_at "go"
          refine ⟨rfl, ?_⟩
          walk_at "go"
          refine iteT ?_
          walk_at "go"
          refine ⟨_, hD3, by rw [absL, List.length_map, List.length_map, List.length_take]; exact small1000 (by omega), fun b' o' e => at_wr (ne_of_none e nD3) (h15 _ _ e), ?_⟩
          rw [upd_same, take_snoc hk]
          simp [absL]
        obtain ⟨h15, hD3⟩ := h
        rw [List.length_map, List.take_length] at hD3
        walk_at "go"
        refine r_sum (SqL.of hD3) ?_
        walk_at "go"
        have esum : (absL q.2).sum = q.1 := hsum.symm
        refine iteDF (by rw [esum]; omega) ?_
        walk_at "go"
        have s715 : Same H7 H15 := s714.trans h15
        have hta15 := h15 _ _ hta14
        have hok : ∀ k ∈ q2.2, ∃ n : Nat, k = n ∧ n < gs.length := fun k hk => by
          obtain ⟨n, hn, e⟩ := List.mem_map.mp (perms_mem 5 _ _ hom k hk)
          exact ⟨n, e.symm, List.mem_range.mp hn⟩
        refine ⟨_, rfl, ⟨_, SqL.of hta15⟩, fun D4 nD4 => lcw_list (K := K) (a := ta) (xs := q2.2.map V.int) (σw := [some (.ref a), some (.ref st), some (.int (0 + i)), some (.ref g), some (.ref z), some (.ref D), some (.ref fo), some (.int (cost r p (m, s) gs)), none, some (.int q2.1), some (.ref ta), none])
          (fun j H16 => Same H15 H16 ∧ H16 D4 = some (.lst (((q2.2.take j).map fun k => gs.getD k.toNat 0).map V.int))) rfl ⟨same_new nD4, upd_same⟩ (fun j H16 _ h => SqL.of (h.1 _ _ hta15)) (fun j y H16 hj h => ?_) fun H16 h => ?_⟩
        · obtain ⟨h16, hD4⟩ := h
          obtain ⟨kk, hk, rfl⟩ := map_at hj
          obtain ⟨n, rfl, hnl⟩ := hok kk (List.mem_of_getElem? hk)
          have hl16 := h16 _ _ (s715 _ _ hD)
          walk_at "go"
          refine ⟨rfl, ?_⟩
          walk_at "go"
          refine iteT ?_
          walk_at "go"
          refine r_ix (v := .int (gs.getD n 0)) (.inl (SqL.of hl16)) (at_of (j := n) rfl (by rw [List.getElem?_map, List.getElem?_eq_getElem hnl, List.getD_eq_getElem?_getD, List.getElem?_eq_getElem hnl] <;> rfl)) ?_
          refine ⟨_, hD4, by rw [List.length_map, List.length_map, List.length_take]; exact small1000 (by omega), fun b' o' e => at_wr (ne_of_none e nD4) (h16 _ _ e), ?_⟩
          rw [upd_same, take_snoc hk]
          simp
        obtain ⟨h16, hD4⟩ := h
        rw [List.length_map, List.take_length] at hD4
        have s716 : Same H7 H16 := s715.trans h16
        walk_at "go"
        refine spPath_i (x := (m, s)) (gs := pick gs q2.2) (G7.mono (s716 _ _ hg7)) (s716 _ _ hz7) hs (SqL.of hD4) (by unfold pick; rw [List.length_map]; omega) (fun y hy => ?_) fun fp q3 H17 nfp h17 hfp hq3l best3 => ?_
        · obtain ⟨k, hk, rfl⟩ := List.mem_map.mp hy
          obtain ⟨n, rfl, hnl⟩ := hok k hk
          rw [List.getD_eq_getElem?_getD, Int.toNat_natCast, List.getElem?_eq_getElem hnl]
          exact hgb _ (List.getElem_mem hnl)
        have e3 := best3.one hbest2
        have hsum3 := (rows_hit (by omega) p0 _ (m, s) hs q3 best3.1).1
        refine ⟨_, rfl, ⟨_, SqL.of hfp⟩, fun D5 nD5 => lcw_list (K := K) (a := fp) (xs := q3.2.map V.int) (σw := [some (.ref a), some (.ref st), some (.int (0 + i)), some (.ref g), some (.ref z), some (.ref D), some (.ref fo), some (.int (cost r p (m, s) gs)), v8, some (.int q2.1), some (.ref ta), none])
          (fun j H18 => Same H17 H18 ∧ H18 D5 = some (.lst ((absL (q3.2.take j)).map V.int))) rfl ⟨same_new nD5, upd_same⟩ (fun j H18 _ h => SqL.of (h.1 _ _ hfp)) (fun j y H18 hj h => ?_) fun H18 h => ?_⟩
        · obtain ⟨h18, hD5⟩ := h
          obtain ⟨kk, hk, rfl⟩ := map_at hj
          walk_at "go"
          refine ⟨rfl, ?_⟩
          walk_at "go"
          refine iteT ?_
          walk_at "go"
          refine ⟨_, hD5, by rw [absL, List.length_map, List.length_map, List.length_take]; exact small1000 (by omega), fun b' o' e => at_wr (ne_of_none e nD5) (h18 _ _ e), ?_⟩
          rw [upd_same, take_snoc hk]
          simp [absL]
        obtain ⟨h18, hD5⟩ := h
        rw [List.length_map, List.take_length] at hD5
        walk_at "go"
        refine r_sum (SqL.of hD5) ?_
        walk_at "go"
        have esum3 : q2.1 = (absL q3.2).sum := by
          rw [e3] at hsum3 ⊢
          exact hsum3
        refine iteNF esum3 ?_
        walk_at "go"
        have s718 : Same H7 H18 := s716.trans (h17.trans h18)
        exact ⟨_, _, _, _, _, _, _, _, _, rfl, s7.same s718, s718.seq hS7⟩
    · rintro σ H2 ⟨v2, v3, v4, v5, v6, v7, v8, v9, v10, rfl, s2, hS2⟩
      walk_at "go"
      exact k _
theorem law_fn {f : Addr} {fd : FuncData} (B : Bl mg) (F_need_gear : FunAt K mg "need_gear" s_need_gear) (F_need_standing : FunAt K mg "need_standing" s_need_standing) (F_need_moves : FunAt K mg "need_moves" s_need_moves) (F_behind : FunAt K mg "behind" s_behind) (F_all_behind : FunAt K mg "all_behind" s_all_behind) (F_stands : FunAt K mg "stands" s_stands) (F_need_goals : FunAt K mg "need_goals" s_need_goals) (F_choices : FunAt K mg "choices" s_choices) (F_best_path : FunAt K mg "best_path" s_best_path) (F_path : FunAt K mg "path" s_path) (F_all_orders : FunAt K mg "all_orders" s_all_orders) (F_tour : FunAt K mg "tour" s_tour) (F_law_start : FunAt K mg "_law_start" s_law_start) (F_law_drawn : FunAt K mg "_law_drawn" s_law_drawn) (F_law_gear : FunAt K mg "_law_gear" s_law_gear) (F_law_standing : FunAt K mg "_law_standing" s_law_standing) (F_law_behind : FunAt K mg "_law_behind" s_law_behind) (F_law_fewest : FunAt K mg "_law_fewest" s_law_fewest) (M_MOST : Cn mg "MOST" 1000000) (M_MOST_MOVES : Cn mg "MOST_MOVES" 100) (M_MOST_GOALS : Cn mg "MOST_GOALS" 8) (M_MOST_TOUR : Cn mg "MOST_TOUR" 5) (F : Fun K "law" "law" s_law f fd) : FnOk P w K mg base CX0 12 f fd ["_law_script"] (spLaw K) := by
  have H0 : Has P w K mg base CX0 1 "_law_start" (spStart K) := ok_law_start F_law_start
  have H1 : Has P w K mg base CX0 1 "_law_drawn" (spDrawn K) := ok_law_drawn B F_law_drawn
  have H2 : Has P w K mg base CX0 1 "need_gear" spNG := ok_need_gear F_need_gear M_MOST
  have H3 : Has P w K mg base CX0 2 "need_standing" spNS := ok_need_standing F_need_standing H2
  have H3b : Has P w K mg base CX0 1 "need_moves" (spNM K) := ok_need_moves B F_need_moves M_MOST_MOVES
  have H4 : Has P w K mg base CX0 3 "need_goals" (spGoals K) := ok_need_goals B F_need_goals H3
  have H5 : Has P w K mg base CX0 1 "behind" spBehind := ok_behind B F_behind
  have H5b : Has P w K mg base CX0 2 "all_behind" (spAB K) := ok_all_behind B F_all_behind H5
  have H6 : Has P w K mg base CX0 1 "_law_behind" spLB := ok_law_behind B F_law_behind
  have H7 : Has P w K mg base CX0 1 "choices" spChoices := ok_choices F_choices
  have H8 : Has P w K mg base CX0 10 "best_path" (spBest K 9) := ok_best_path B F_best_path H7 H5 9
  have H9 : Has P w K mg base CX0 6 "all_orders" (spAO K 6) := ok_all_orders B F_all_orders 6
  exact ok_law B F H0 H1 (ok_law_gear B F_law_gear H1) (ok_law_standing B F_law_standing H1) (ok_law_fewest B F_law_fewest H6) (ok_stands B F_stands H3 H3b H5b) (ok_path B F_path M_MOST_GOALS H4 H8) (ok_tour B F_tour M_MOST_TOUR H4 H8 H9)
end
theorem all_mk {l : PySem.W.OpenLaw} {w : World} {K : PySem.W.Frag} {h : Heap} {mg : Str → Option Value} {fa : Addr} (X : K.In h) (G : h.Ns mainGlobals mg) (hfa : mg "law" = some (.ref fa))
    {f0 : Addr} {od0 an0 : Option Addr} {sl0 : Array (Option Value)} {oc0 kV0 dc0 pm0 cd0 ct0 : Value}
    {f1 : Addr} {od1 an1 : Option Addr} {sl1 : Array (Option Value)} {oc1 kV1 dc1 pm1 cd1 ct1 : Value}
    {f2 : Addr} {od2 an2 : Option Addr} {sl2 : Array (Option Value)} {oc2 kV2 dc2 pm2 cd2 ct2 : Value}
    {f3 : Addr} {od3 an3 : Option Addr} {sl3 : Array (Option Value)} {oc3 kV3 dc3 pm3 cd3 ct3 : Value}
    {f4 : Addr} {od4 an4 : Option Addr} {sl4 : Array (Option Value)} {oc4 kV4 dc4 pm4 cd4 ct4 : Value}
    {f5 : Addr} {od5 an5 : Option Addr} {sl5 : Array (Option Value)} {oc5 kV5 dc5 pm5 cd5 ct5 : Value}
    {f6 : Addr} {od6 an6 : Option Addr} {sl6 : Array (Option Value)} {oc6 kV6 dc6 pm6 cd6 ct6 : Value}
    {f7 : Addr} {od7 an7 : Option Addr} {sl7 : Array (Option Value)} {oc7 kV7 dc7 pm7 cd7 ct7 : Value}
    {f8 : Addr} {od8 an8 : Option Addr} {sl8 : Array (Option Value)} {oc8 kV8 dc8 pm8 cd8 ct8 : Value}
    {f9 : Addr} {od9 an9 : Option Addr} {sl9 : Array (Option Value)} {oc9 kV9 dc9 pm9 cd9 ct9 : Value}
    {f10 : Addr} {od10 an10 : Option Addr} {sl10 : Array (Option Value)} {oc10 kV10 dc10 pm10 cd10 ct10 : Value}
    {f11 : Addr} {od11 an11 : Option Addr} {sl11 : Array (Option Value)} {oc11 kV11 dc11 pm11 cd11 ct11 : Value}
    {f12 : Addr} {od12 an12 : Option Addr} {sl12 : Array (Option Value)} {oc12 kV12 dc12 pm12 cd12 ct12 : Value}
    {f13 : Addr} {od13 an13 : Option Addr} {sl13 : Array (Option Value)} {oc13 kV13 dc13 pm13 cd13 ct13 : Value}
    {f14 : Addr} {od14 an14 : Option Addr} {sl14 : Array (Option Value)} {oc14 kV14 dc14 pm14 cd14 ct14 : Value}
    {f15 : Addr} {od15 an15 : Option Addr} {sl15 : Array (Option Value)} {oc15 kV15 dc15 pm15 cd15 ct15 : Value}
    {f16 : Addr} {od16 an16 : Option Addr} {sl16 : Array (Option Value)} {oc16 kV16 dc16 pm16 cd16 ct16 : Value}
    {f17 : Addr} {od17 an17 : Option Addr} {sl17 : Array (Option Value)} {oc17 kV17 dc17 pm17 cd17 ct17 : Value}
    {f18 : Addr} {od18 an18 : Option Addr} {sl18 : Array (Option Value)} {oc18 kV18 dc18 pm18 cd18 ct18 : Value}
    {t_MOST : Tok}
    {t_MOST_MOVES : Tok}
    {t_MOST_GOALS : Tok}
    {t_MOST_TOUR : Tok}
    (a0 : PySem.W.nsIn K mainGlobals "need_gear" = some (some (.ref f0))) (l0 : K.lookup f0 = some ⟨oc0, od0, .func (PySem.W.fnOf "need_gear" "need_gear" (defArgs s_need_gear) (defBody s_need_gear) (defScope s_need_gear) .none kV0 dc0 pm0 an0 cd0 ct0), sl0⟩) (c0 : PySem.W.codeIn K cd0 "need_gear" = true) (k0 : PySem.W.keepIn K (.ref f0) = true)
    (a1 : PySem.W.nsIn K mainGlobals "need_standing" = some (some (.ref f1))) (l1 : K.lookup f1 = some ⟨oc1, od1, .func (PySem.W.fnOf "need_standing" "need_standing" (defArgs s_need_standing) (defBody s_need_standing) (defScope s_need_standing) .none kV1 dc1 pm1 an1 cd1 ct1), sl1⟩) (c1 : PySem.W.codeIn K cd1 "need_standing" = true) (k1 : PySem.W.keepIn K (.ref f1) = true)
    (a2 : PySem.W.nsIn K mainGlobals "need_moves" = some (some (.ref f2))) (l2 : K.lookup f2 = some ⟨oc2, od2, .func (PySem.W.fnOf "need_moves" "need_moves" (defArgs s_need_moves) (defBody s_need_moves) (defScope s_need_moves) .none kV2 dc2 pm2 an2 cd2 ct2), sl2⟩) (c2 : PySem.W.codeIn K cd2 "need_moves" = true) (k2 : PySem.W.keepIn K (.ref f2) = true)
    (a3 : PySem.W.nsIn K mainGlobals "behind" = some (some (.ref f3))) (l3 : K.lookup f3 = some ⟨oc3, od3, .func (PySem.W.fnOf "behind" "behind" (defArgs s_behind) (defBody s_behind) (defScope s_behind) .none kV3 dc3 pm3 an3 cd3 ct3), sl3⟩) (c3 : PySem.W.codeIn K cd3 "behind" = true) (k3 : PySem.W.keepIn K (.ref f3) = true)
    (a4 : PySem.W.nsIn K mainGlobals "all_behind" = some (some (.ref f4))) (l4 : K.lookup f4 = some ⟨oc4, od4, .func (PySem.W.fnOf "all_behind" "all_behind" (defArgs s_all_behind) (defBody s_all_behind) (defScope s_all_behind) .none kV4 dc4 pm4 an4 cd4 ct4), sl4⟩) (c4 : PySem.W.codeIn K cd4 "all_behind" = true) (k4 : PySem.W.keepIn K (.ref f4) = true)
    (a5 : PySem.W.nsIn K mainGlobals "stands" = some (some (.ref f5))) (l5 : K.lookup f5 = some ⟨oc5, od5, .func (PySem.W.fnOf "stands" "stands" (defArgs s_stands) (defBody s_stands) (defScope s_stands) .none kV5 dc5 pm5 an5 cd5 ct5), sl5⟩) (c5 : PySem.W.codeIn K cd5 "stands" = true) (k5 : PySem.W.keepIn K (.ref f5) = true)
    (a6 : PySem.W.nsIn K mainGlobals "need_goals" = some (some (.ref f6))) (l6 : K.lookup f6 = some ⟨oc6, od6, .func (PySem.W.fnOf "need_goals" "need_goals" (defArgs s_need_goals) (defBody s_need_goals) (defScope s_need_goals) .none kV6 dc6 pm6 an6 cd6 ct6), sl6⟩) (c6 : PySem.W.codeIn K cd6 "need_goals" = true) (k6 : PySem.W.keepIn K (.ref f6) = true)
    (a7 : PySem.W.nsIn K mainGlobals "choices" = some (some (.ref f7))) (l7 : K.lookup f7 = some ⟨oc7, od7, .func (PySem.W.fnOf "choices" "choices" (defArgs s_choices) (defBody s_choices) (defScope s_choices) .none kV7 dc7 pm7 an7 cd7 ct7), sl7⟩) (c7 : PySem.W.codeIn K cd7 "choices" = true) (k7 : PySem.W.keepIn K (.ref f7) = true)
    (a8 : PySem.W.nsIn K mainGlobals "best_path" = some (some (.ref f8))) (l8 : K.lookup f8 = some ⟨oc8, od8, .func (PySem.W.fnOf "best_path" "best_path" (defArgs s_best_path) (defBody s_best_path) (defScope s_best_path) .none kV8 dc8 pm8 an8 cd8 ct8), sl8⟩) (c8 : PySem.W.codeIn K cd8 "best_path" = true) (k8 : PySem.W.keepIn K (.ref f8) = true)
    (a9 : PySem.W.nsIn K mainGlobals "path" = some (some (.ref f9))) (l9 : K.lookup f9 = some ⟨oc9, od9, .func (PySem.W.fnOf "path" "path" (defArgs s_path) (defBody s_path) (defScope s_path) .none kV9 dc9 pm9 an9 cd9 ct9), sl9⟩) (c9 : PySem.W.codeIn K cd9 "path" = true) (k9 : PySem.W.keepIn K (.ref f9) = true)
    (a10 : PySem.W.nsIn K mainGlobals "all_orders" = some (some (.ref f10))) (l10 : K.lookup f10 = some ⟨oc10, od10, .func (PySem.W.fnOf "all_orders" "all_orders" (defArgs s_all_orders) (defBody s_all_orders) (defScope s_all_orders) .none kV10 dc10 pm10 an10 cd10 ct10), sl10⟩) (c10 : PySem.W.codeIn K cd10 "all_orders" = true) (k10 : PySem.W.keepIn K (.ref f10) = true)
    (a11 : PySem.W.nsIn K mainGlobals "tour" = some (some (.ref f11))) (l11 : K.lookup f11 = some ⟨oc11, od11, .func (PySem.W.fnOf "tour" "tour" (defArgs s_tour) (defBody s_tour) (defScope s_tour) .none kV11 dc11 pm11 an11 cd11 ct11), sl11⟩) (c11 : PySem.W.codeIn K cd11 "tour" = true) (k11 : PySem.W.keepIn K (.ref f11) = true)
    (a12 : PySem.W.nsIn K mainGlobals "_law_start" = some (some (.ref f12))) (l12 : K.lookup f12 = some ⟨oc12, od12, .func (PySem.W.fnOf "_law_start" "_law_start" (defArgs s_law_start) (defBody s_law_start) (defScope s_law_start) .none kV12 dc12 pm12 an12 cd12 ct12), sl12⟩) (c12 : PySem.W.codeIn K cd12 "_law_start" = true) (k12 : PySem.W.keepIn K (.ref f12) = true)
    (a13 : PySem.W.nsIn K mainGlobals "_law_drawn" = some (some (.ref f13))) (l13 : K.lookup f13 = some ⟨oc13, od13, .func (PySem.W.fnOf "_law_drawn" "_law_drawn" (defArgs s_law_drawn) (defBody s_law_drawn) (defScope s_law_drawn) .none kV13 dc13 pm13 an13 cd13 ct13), sl13⟩) (c13 : PySem.W.codeIn K cd13 "_law_drawn" = true) (k13 : PySem.W.keepIn K (.ref f13) = true)
    (a14 : PySem.W.nsIn K mainGlobals "_law_gear" = some (some (.ref f14))) (l14 : K.lookup f14 = some ⟨oc14, od14, .func (PySem.W.fnOf "_law_gear" "_law_gear" (defArgs s_law_gear) (defBody s_law_gear) (defScope s_law_gear) .none kV14 dc14 pm14 an14 cd14 ct14), sl14⟩) (c14 : PySem.W.codeIn K cd14 "_law_gear" = true) (k14 : PySem.W.keepIn K (.ref f14) = true)
    (a15 : PySem.W.nsIn K mainGlobals "_law_standing" = some (some (.ref f15))) (l15 : K.lookup f15 = some ⟨oc15, od15, .func (PySem.W.fnOf "_law_standing" "_law_standing" (defArgs s_law_standing) (defBody s_law_standing) (defScope s_law_standing) .none kV15 dc15 pm15 an15 cd15 ct15), sl15⟩) (c15 : PySem.W.codeIn K cd15 "_law_standing" = true) (k15 : PySem.W.keepIn K (.ref f15) = true)
    (a16 : PySem.W.nsIn K mainGlobals "_law_behind" = some (some (.ref f16))) (l16 : K.lookup f16 = some ⟨oc16, od16, .func (PySem.W.fnOf "_law_behind" "_law_behind" (defArgs s_law_behind) (defBody s_law_behind) (defScope s_law_behind) .none kV16 dc16 pm16 an16 cd16 ct16), sl16⟩) (c16 : PySem.W.codeIn K cd16 "_law_behind" = true) (k16 : PySem.W.keepIn K (.ref f16) = true)
    (a17 : PySem.W.nsIn K mainGlobals "_law_fewest" = some (some (.ref f17))) (l17 : K.lookup f17 = some ⟨oc17, od17, .func (PySem.W.fnOf "_law_fewest" "_law_fewest" (defArgs s_law_fewest) (defBody s_law_fewest) (defScope s_law_fewest) .none kV17 dc17 pm17 an17 cd17 ct17), sl17⟩) (c17 : PySem.W.codeIn K cd17 "_law_fewest" = true) (k17 : PySem.W.keepIn K (.ref f17) = true)
    (a18 : PySem.W.nsIn K mainGlobals "law" = some (some (.ref f18))) (l18 : K.lookup f18 = some ⟨oc18, od18, .func (PySem.W.fnOf "law" "law" (defArgs s_law) (defBody s_law) (defScope s_law) .none kV18 dc18 pm18 an18 cd18 ct18), sl18⟩) (c18 : PySem.W.codeIn K cd18 "law" = true) (k18 : PySem.W.keepIn K (.ref f18) = true)
    (m_MOST : PySem.W.nsIn K mainGlobals "MOST" = some (some (.int 1000000 t_MOST)))
    (m_MOST_MOVES : PySem.W.nsIn K mainGlobals "MOST_MOVES" = some (some (.int 100 t_MOST_MOVES)))
    (m_MOST_GOALS : PySem.W.nsIn K mainGlobals "MOST_GOALS" = some (some (.int 8 t_MOST_GOALS)))
    (m_MOST_TOUR : PySem.W.nsIn K mainGlobals "MOST_TOUR" = some (some (.int 5 t_MOST_TOUR)))
    (z_len : PySem.W.nsIn K mainGlobals "len" = some none)
    (z_range : PySem.W.nsIn K mainGlobals "range" = some none)
    (z_abs : PySem.W.nsIn K mainGlobals "abs" = some none)
    (z_max : PySem.W.nsIn K mainGlobals "max" = some none)
    (z_min : PySem.W.nsIn K mainGlobals "min" = some none)
    (z_list : PySem.W.nsIn K mainGlobals "list" = some none)
    (z_tuple : PySem.W.nsIn K mainGlobals "tuple" = some none)
    (z_int : PySem.W.nsIn K mainGlobals "int" = some none)
    (z_isinstance : PySem.W.nsIn K mainGlobals "isinstance" = some none)
    (z_sum : PySem.W.nsIn K mainGlobals "sum" = some none)
    (z_set : PySem.W.nsIn K mainGlobals "set" = some none)
    (z_sorted : PySem.W.nsIn K mainGlobals "sorted" = some none)
    (z_zip : PySem.W.nsIn K mainGlobals "zip" = some none)
    (z_enumerate : PySem.W.nsIn K mainGlobals "enumerate" = some none)
    (z_str : PySem.W.nsIn K mainGlobals "str" = some none)
    (z_bool : PySem.W.nsIn K mainGlobals "bool" = some none) :
    ∃ fd : FuncData, (∀ (s : Shared) (v : Value), BindsTo s fd ⟨[v], []⟩ [("_law_script", v)]) ∧ ∀ base : Heap, K.In base → base.Ns mainGlobals mg → FnOk l.prog w K mg base CX0 12 fa fd ["_law_script"] (spLaw K) := by
  have e := hfa.symm.trans (PySem.W.mg_of X G a18)
  cases e
  have F := fun_mk (st := s_law) l18 c18 k18
  have B : Bl mg := ⟨PySem.W.mg_none_of X G z_len, PySem.W.mg_none_of X G z_range, PySem.W.mg_none_of X G z_abs, PySem.W.mg_none_of X G z_max, PySem.W.mg_none_of X G z_min, PySem.W.mg_none_of X G z_list, PySem.W.mg_none_of X G z_tuple, PySem.W.mg_none_of X G z_int, PySem.W.mg_none_of X G z_isinstance, PySem.W.mg_none_of X G z_sum, PySem.W.mg_none_of X G z_set, PySem.W.mg_none_of X G z_sorted, PySem.W.mg_none_of X G z_zip, PySem.W.mg_none_of X G z_enumerate, PySem.W.mg_none_of X G z_str, PySem.W.mg_none_of X G z_bool⟩
  exact ⟨_, fun s v => .of_eq rfl, fun base _ _ => law_fn B (FunAt.mk' X G a0 l0 c0 k0) (FunAt.mk' X G a1 l1 c1 k1) (FunAt.mk' X G a2 l2 c2 k2) (FunAt.mk' X G a3 l3 c3 k3) (FunAt.mk' X G a4 l4 c4 k4) (FunAt.mk' X G a5 l5 c5 k5) (FunAt.mk' X G a6 l6 c6 k6) (FunAt.mk' X G a7 l7 c7 k7) (FunAt.mk' X G a8 l8 c8 k8) (FunAt.mk' X G a9 l9 c9 k9) (FunAt.mk' X G a10 l10 c10 k10) (FunAt.mk' X G a11 l11 c11 k11) (FunAt.mk' X G a12 l12 c12 k12) (FunAt.mk' X G a13 l13 c13 k13) (FunAt.mk' X G a14 l14 c14 k14) (FunAt.mk' X G a15 l15 c15 k15) (FunAt.mk' X G a16 l16 c16 k16) (FunAt.mk' X G a17 l17 c17 k17) ⟨_, PySem.W.mg_of X G m_MOST⟩ ⟨_, PySem.W.mg_of X G m_MOST_MOVES⟩ ⟨_, PySem.W.mg_of X G m_MOST_GOALS⟩ ⟨_, PySem.W.mg_of X G m_MOST_TOUR⟩ F⟩
end Rd
open PySem PySem.W PyProof.Rows
set_option maxRecDepth 100000 in
set_option maxHeartbeats 0 in
theorem PySem.Challenge.cw_stepgear_k07_whole_no_fewer_by_single_st_holds : PySem.Challenge.rw_stepgear_k07_whole_no_fewer_by_single_st.Holds := by
  w_on; o_law; k_head; (case hw => w_witness2)
  k_fill
  refine L2.walk_of (l := PySem.Challenge.rw_stepgear_k07_whole_no_fewer_by_single_st) (n := 63) (k := 12) (x := "_law_script") (CX := fun _ => L2.CX0) (sp := fun w => Rd.spLaw _) rfl (by decide) rfl ⟨rfl, by decide, by decide⟩ (fun w h Y => PySem.W.kIn_of Y) ?F (fun _ _ a ns hl _ hS => ⟨a, ns, rfl, hS, hl, fun _ => rfl⟩) (fun _ _ _ _ _ h => h)
  case F =>
    intro w mg fa h KX G hmg
    refine' Rd.all_mk KX G hmg ?a0 ?l0 ?c0 ?k0 ?a1 ?l1 ?c1 ?k1 ?a2 ?l2 ?c2 ?k2 ?a3 ?l3 ?c3 ?k3 ?a4 ?l4 ?c4 ?k4 ?a5 ?l5 ?c5 ?k5 ?a6 ?l6 ?c6 ?k6 ?a7 ?l7 ?c7 ?k7 ?a8 ?l8 ?c8 ?k8 ?a9 ?l9 ?c9 ?k9 ?a10 ?l10 ?c10 ?k10 ?a11 ?l11 ?c11 ?k11 ?a12 ?l12 ?c12 ?k12 ?a13 ?l13 ?c13 ?k13 ?a14 ?l14 ?c14 ?k14 ?a15 ?l15 ?c15 ?k15 ?a16 ?l16 ?c16 ?k16 ?a17 ?l17 ?c17 ?k17 ?a18 ?l18 ?c18 ?k18 ?m_MOST ?m_MOST_MOVES ?m_MOST_GOALS ?m_MOST_TOUR ?z_len ?z_range ?z_abs ?z_max ?z_min ?z_list ?z_tuple ?z_int ?z_isinstance ?z_sum ?z_set ?z_sorted ?z_zip ?z_enumerate ?z_str ?z_bool
    (case a0 => k_is)
    (case l0 => k_is)
    (case c0 => k_is)
    (case k0 => k_is)
    (case a1 => k_is)
    (case l1 => k_is)
    (case c1 => k_is)
    (case k1 => k_is)
    (case a2 => k_is)
    (case l2 => k_is)
    (case c2 => k_is)
    (case k2 => k_is)
    (case a3 => k_is)
    (case l3 => k_is)
    (case c3 => k_is)
    (case k3 => k_is)
    (case a4 => k_is)
    (case l4 => k_is)
    (case c4 => k_is)
    (case k4 => k_is)
    (case a5 => k_is)
    (case l5 => k_is)
    (case c5 => k_is)
    (case k5 => k_is)
    (case a6 => k_is)
    (case l6 => k_is)
    (case c6 => k_is)
    (case k6 => k_is)
    (case a7 => k_is)
    (case l7 => k_is)
    (case c7 => k_is)
    (case k7 => k_is)
    (case a8 => k_is)
    (case l8 => k_is)
    (case c8 => k_is)
    (case k8 => k_is)
    (case a9 => k_is)
    (case l9 => k_is)
    (case c9 => k_is)
    (case k9 => k_is)
    (case a10 => k_is)
    (case l10 => k_is)
    (case c10 => k_is)
    (case k10 => k_is)
    (case a11 => k_is)
    (case l11 => k_is)
    (case c11 => k_is)
    (case k11 => k_is)
    (case a12 => k_is)
    (case l12 => k_is)
    (case c12 => k_is)
    (case k12 => k_is)
    (case a13 => k_is)
    (case l13 => k_is)
    (case c13 => k_is)
    (case k13 => k_is)
    (case a14 => k_is)
    (case l14 => k_is)
    (case c14 => k_is)
    (case k14 => k_is)
    (case a15 => k_is)
    (case l15 => k_is)
    (case c15 => k_is)
    (case k15 => k_is)
    (case a16 => k_is)
    (case l16 => k_is)
    (case c16 => k_is)
    (case k16 => k_is)
    (case a17 => k_is)
    (case l17 => k_is)
    (case c17 => k_is)
    (case k17 => k_is)
    (case a18 => k_is)
    (case l18 => k_is)
    (case c18 => k_is)
    (case k18 => k_is)
    (case m_MOST => k_is)
    (case m_MOST_MOVES => k_is)
    (case m_MOST_GOALS => k_is)
    (case m_MOST_TOUR => k_is)
    (case z_len => k_is)
    (case z_range => k_is)
    (case z_abs => k_is)
    (case z_max => k_is)
    (case z_min => k_is)
    (case z_list => k_is)
    (case z_tuple => k_is)
    (case z_int => k_is)
    (case z_isinstance => k_is)
    (case z_sum => k_is)
    (case z_set => k_is)
    (case z_sorted => k_is)
    (case z_zip => k_is)
    (case z_enumerate => k_is)
    (case z_str => k_is)
    (case z_bool => k_is)

