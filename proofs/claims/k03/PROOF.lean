import PyProof.Rows.All
import Wide.All
import OpenK.AllK
import Wide.FinOn
import PyProof.ZipIter
import KE.KItemsList
import HandS.ForMost
import HandS.Wide
import HandS.TupAny
import HandS.IsInst
import HandS.Walk
import HandS.ListItems
import HandS.Conv
import PySem.Challenge.RW_stepgear_k03_whole_what_may_be
set_option Elab.async false
set_option linter.all false
set_option maxRecDepth 100000
set_option maxHeartbeats 4000000
namespace Rd
open PySem PySem.Spec PyProof.Rows L2
/-! ## defs by name -/
/-- the name x stands for a def that keeps the promise sp, at level k -/
structure Has (P : Program) (w : World) (K : PySem.W.Frag) (mg : Str → Option Value) (base : Heap) (CX : CXT) (k : Nat) (x : Str) (sp : Sp) : Prop where
  ex : ∃ (f : Addr) (fd : FuncData) (ps : List Str), FnOk P w K mg base CX k f fd ps sp ∧ mg x = some (.ref f) ∧ PySem.W.keepIn K (.ref f) = true ∧ Binds K fd ps []
theorem Has.imp {P : Program} {w : World} {K : PySem.W.Frag} {mg : Str → Option Value} {base : Heap} {CX : CXT} {k : Nat} {x : Str} {sp sp' : Sp} (h : Has P w K mg base CX k x sp) (i : ∀ vs H Q E, sp' vs H Q E → sp vs H Q E) : Has P w K mg base CX k x sp' := by
  obtain ⟨f, fd, ps, F, r⟩ := h.ex
  exact ⟨f, fd, ps, F.imp i, r⟩
theorem Has.mono {P : Program} {w : World} {K : PySem.W.Frag} {mg : Str → Option Value} {base : Heap} {CX : CXT} {j k : Nat} {x : Str} {sp : Sp} (h : Has P w K mg base CX j x sp) (i : j ≤ k) : Has P w K mg base CX k x sp := by
  obtain ⟨f, fd, ps, F, r⟩ := h.ex
  exact ⟨f, fd, ps, F.mono i, r⟩
/-- the def st of the text stands at the name x -/
structure FunAt (K : PySem.W.Frag) (mg : Str → Option Value) (x : Str) (st : Stmt) : Prop where
  ex : ∃ (f : Addr) (fd : FuncData), Fun K x x st f fd ∧ mg x = some (.ref f)
section
variable {P : Program} {w : World} {K : PySem.W.Frag} {mg : Str → Option Value} {base : Heap}
def BindOk (x : Str) (st : Stmt) (ps : List Str) : Prop := ∀ (kV doc pm : Value) (an : Option Addr) (cdv ct : Value) (us : List Value), us.length = ps.length → bindArgs (PySem.W.fnOf x x (defArgs st) (defBody st) (defScope st) .none kV doc pm an cdv ct) ⟨us, []⟩ = pure (ps.zip us)
/-- a def that lets no exception out -/
theorem FunAt.ok {x : Str} {st : Stmt} {N ps : List Str} {k : Nat} {sp : Sp} (F : FunAt K mg x st) (S : FnScope N ps (defScope st)) (bo : BindOk x st ps) (len : ∀ vs H Q E, sp vs H Q E → vs.length = ps.length)
    (hbody : ∀ (f : Addr) (cdv : Value) (A : Around) (outer : List Env) (s : Shared) (H : Hp) (vs : List V) (Q : VK) (E : XK), Room k (A.deeper (envOfC x (defScope st) s.heap.objs.size f cdv)) → sp vs H Q E →
      ∃ t, PSs (cxOf CX0 P w K mg base N x (defScope st) f cdv A outer s H E).nox (defBody st) t ∧ t { nx := fun _ H' => Q .non H', rt := Q } (start N vs) H) : Has P w K mg base CX0 (k + 1) x sp := by
  obtain ⟨f, fd, F, hm⟩ := F.ex
  exact ⟨f, fd, ps, F.ok S len fun cdv A outer s H vs Q E hr h => hbody f cdv A outer s H vs Q E hr h, hm, F.kp, F.binds bo⟩
theorem FunAt.mk' {x : Str} {st : Stmt} {h : Heap} (X : K.In h) (G : h.Ns mainGlobals mg) {f : Addr} {oc : Value} {od an : Option Addr} {osl : Array (Option Value)} {kV doc pm cdv ct : Value}
    (a : PySem.W.nsIn K mainGlobals x = some (some (.ref f)))
    (l : K.lookup f = some ⟨oc, od, .func (PySem.W.fnOf x x (defArgs st) (defBody st) (defScope st) .none kV doc pm an cdv ct), osl⟩)
    (c : PySem.W.codeIn K cdv x = true) (k : PySem.W.keepIn K (.ref f) = true) : FunAt K mg x st := ⟨f, _, fun_mk l c k, PySem.W.mg_of X G a⟩
end
section
variable {X : Cx} {CX : CXT} {k j : Nat} {sp : Sp} {E : XK} {x : Str} {p pos : Pos} {e : Expr} {es : List Expr} {t : TA}
theorem pe_has (h : Has X.prog X.w X.K X.mg X.base CX k x sp) (hr : Room j X.A) (hk : k ≤ j) (hg : Gl X x) (hx : Passes CX X E)
    (ha : PA X (e :: es) t) (hdb : (x == ("__debug__" : Str)) = false := by decide) (he : starEach (e :: es) X.env = (false, eval e X.env) :: starEach es X.env := by rfl) (hpl : (backTo pos (starEach es X.env)).any (·.1) = false := by rfl) :
    PE X (.Call (.Name x p) (e :: es) [] pos) (tCall sp [] E t) := by
  obtain ⟨f, fd, ps, F, hm, kp, b⟩ := h.ex
  exact pe_call F (hr.mono hk) hg hm kp b .nil hx ha hdb he hpl
end
/-- the built-ins' names are still theirs -/
structure Bl (mg : Str → Option Value) : Prop where
  len : mg "len" = none
  range : mg "range" = none
  abs : mg "abs" = none
  max : mg "max" = none
  min : mg "min" = none
  list : mg "list" = none
  tuple : mg "tuple" = none
  int : mg "int" = none
  isinstance : mg "isinstance" = none
  sum : mg "sum" = none
  set : mg "set" = none
  sorted : mg "sorted" = none
  zip : mg "zip" = none
  enumerate : mg "enumerate" = none
  str : mg "str" = none
  bool : mg "bool" = none
/-! ## unions of rules -/
section
variable {X : Cx}
def rAddA (K : PySem.W.Frag) : R2 := fun x y H Q => rI0 (fun i j => .int (i + j)) x y H Q ∨ ((∃ i j, x = .str i ∧ y = .str j ∧ i.length + j.length ≤ sizeLine ∧ Q (.str (i ++ j)) H) ∨ (rCat x y H Q ∨ rCatA K x y H Q))
theorem op_addA : OpR X (binaryOp .Add) (rAddA X.K) := OpR.or op_add (OpR.or op_add_str (OpR.or op_cat op_catA))
def rEqA (K : PySem.W.Frag) : R2 := fun x y H Q => rEq x y H Q ∨ rEqD K x y H Q
def rNeA (K : PySem.W.Frag) : R2 := fun x y H Q => rNe x y H Q ∨ rNeD K x y H Q
theorem op_eqA (hu : X.A.units + 64 < cLine) : OpR X (compareOp .Eq) (rEqA X.K) := OpR.or op_eq (op_eqD hu)
theorem op_neA (hu : X.A.units + 64 < cLine) : OpR X (compareOp .NotEq) (rNeA X.K) := OpR.or op_ne (op_neD hu)
def rLen (K : PySem.W.Frag) : List V → Hp → VK → Prop := fun xs H Q => (∃ p ys, xs = [.ref p] ∧ (SqL K H p ys ∨ SqT K H p ys) ∧ (ys.length ≤ 16777216 → Q (.int ys.length) H)) ∨ (∃ z, xs = [.str z] ∧ z.length ≤ sizeLine ∧ Q (.int z.length) H)
theorem call_lenA : CallR X (.builtin "len") (rLen X.K) := by
  refine CallR.or (fun pins s σ H xs us Q I r h => ?_) call_len_str
  obtain ⟨p, ys, e, hq, q⟩ := h
  have hz : ys.length ≤ 16777216 := by
    rcases hq with h | h
    · obtain ⟨_, _, _, z⟩ := I.list h
      rwa [PySem.sizeLine_eq] at z
    · obtain ⟨_, _, _, z⟩ := I.tuple h
      rwa [PySem.sizeLine_eq] at z
  exact call_len_seq pins s σ H xs us Q I r ⟨p, ys, e, hq, q hz⟩
def rMaxA (K : PySem.W.Frag) : List V → Hp → VK → Prop := fun xs H Q => (∃ i j, xs = [.int i, .int j] ∧ Q (.int (if j > i then j else i)) H) ∨ rMax K xs H Q
def rMinA (K : PySem.W.Frag) : List V → Hp → VK → Prop := fun xs H Q => (∃ i j, xs = [.int i, .int j] ∧ Q (.int (if j < i then j else i)) H) ∨ rMin K xs H Q
theorem call_maxA (hc : X.calm = true) : CallR X (.builtin "max") (rMaxA X.K) := CallR.or (call_max2 hc) (cr_max hc)
theorem call_minA (hc : X.calm = true) : CallR X (.builtin "min") (rMinA X.K) := CallR.or (call_min2 hc) (cr_min hc)
def rAbs : List V → Hp → VK → Prop := fun xs H Q => ∃ i, xs = [.int i] ∧ Q (.int (if i < 0 then -i else i)) H
theorem call_absA : CallR X (.builtin "abs") rAbs := call_abs
def rInt1 : List V → Hp → VK → Prop := fun xs H Q => (∃ i, xs = [.int i] ∧ Q (.int i) H) ∨ ∃ k, xs = [.bl k] ∧ Q (.int (if k then 1 else 0)) H
theorem call_intA : CallR X (.type "int") rInt1 := call_int1
def rListOf (K : PySem.W.Frag) : List V → Hp → VK → Prop := fun xs H Q => ∃ p ys, xs = [.ref p] ∧ (SqL K H p ys ∨ SqT K H p ys) ∧ ∀ l, H l = none → Q (.ref l) (upd H l (.lst ys))
theorem call_listA : CallR X (.type "list") (rListOf X.K) := call_list_of
def rTupOf (K : PySem.W.Frag) : List V → Hp → VK → Prop := fun xs H Q => ∃ p ys, xs = [.ref p] ∧ ((SqL K H p ys ∧ ∀ l, H l = none → Q (.ref l) (upd H l (.tup ys))) ∨ (SqT K H p ys ∧ Q (.ref p) H))
theorem call_tupA : CallR X (.type "tuple") (rTupOf X.K) := call_tuple_of
def rSlAll (K : PySem.W.Frag) : V → Option Int → Option Int → Hp → VK → Prop := fun x lo hi H Q => rSlL K x lo hi H Q ∨ (rSlA K x lo hi H Q ∨ rSlS x lo hi H Q)
theorem sl_all : SlR X (rSlAll X.K) := SlR.or sl_list (SlR.or sl_tupA sl_str)
end
/-! ## the rules again, the written part K named -/
section
variable {X : Cx} {K : PySem.W.Frag}
theorem kop_add (h : X.K = K) : OpR X (binaryOp .Add) (rAddA K) := by subst h; exact op_addA
theorem kop_eq (h : X.K = K) (hu : X.A.units + 64 < cLine) : OpR X (compareOp .Eq) (rEqA K) := by subst h; exact op_eqA hu
theorem kop_ne (h : X.K = K) (hu : X.A.units + 64 < cLine) : OpR X (compareOp .NotEq) (rNeA K) := by subst h; exact op_neA hu
theorem kix (h : X.K = K) : IxR X (rIx K) := by subst h; exact ix_seq
theorem ksl (h : X.K = K) : SlR X (rSlAll K) := by subst h; exact sl_all
theorem kc_len (h : X.K = K) : CallR X (.builtin "len") (rLen K) := by subst h; exact call_lenA
theorem kc_max (h : X.K = K) (hc : X.calm = true) : CallR X (.builtin "max") (rMaxA K) := by subst h; exact call_maxA hc
theorem kc_min (h : X.K = K) (hc : X.calm = true) : CallR X (.builtin "min") (rMinA K) := by subst h; exact call_minA hc
theorem kc_sum (h : X.K = K) (hc : X.calm = true) : CallR X (.builtin "sum") (rSum K) := by subst h; exact cr_sum hc
theorem kc_list (h : X.K = K) : CallR X (.type "list") (rListOf K) := by subst h; exact call_listA
theorem kc_tup (h : X.K = K) : CallR X (.type "tuple") (rTupOf K) := by subst h; exact call_tupA
theorem kc_isi (h : X.K = K) : CallR X (.builtin "isinstance") (fun xs H Q => rIsi K xs H Q ∨ rIsiT K xs H Q) := by subst h; exact CallR.or call_isi call_isiT
theorem kpg_tup {es : List Expr} {k : Nat} {t : TGs} {n : Nat} {pos : Pos} (hK : X.K = K) (hc : X.calm = true) (h : PGs X es t)
    (hn : (assignEach es X.env).length = n := by rfl) (hst : (assignEach es X.env).findIdx? (·.1) = none := by rfl) : PG X (.Tuple es k pos) (gTup K n t) := by subst hK; exact pg_tup hc h hn hst
theorem kpi_list {tg l : Expr} {tl : TE} (h : X.K = K) (hl : PE X l tl) : PI X tg l (iList K tl) := by subst h; exact pi_list hl
theorem kpi_tup {tg l : Expr} {tl : TE} (h : X.K = K) (hl : PE X l tl) : PI X tg l (iTup K tl) := by subst h; exact pi_tup hl
theorem kpe_bm {o e : Expr} {es : List Expr} {to : TE} {t : TA} {name : Str} {apos cpos : Pos} {T id : String} {r : V → List V → Hp → VK → Prop} (hK : X.K = K) (pa : PlainAttrs T) (slot : Slot T name id) (hty : typeOf (.builtin id) = pure (.type "method_descriptor")) (hm : MtR X id r) (ho : PE X o to) (ha : PA X (e :: es) t)
    (hbase : attributeBase o name X.env (eval o X.env) = eval o X.env := by rfl)
    (hfew : ((backTo cpos (starEach (e :: es) X.env)).all (fun x => !x.1) && (backToKw cpos (keywordEach [] X.env)).all (fun x => x.1.isSome)
      && decide ((e :: es).length + ([] : List Keyword).length + (if ([] : List Keyword).isEmpty then 0 else 1) < 30)) = true := by rfl)
    (hline : (apos.endLine == cpos.line) = true := by rfl) (hs : starEach (e :: es) X.env = (false, eval e X.env) :: starEach es X.env := by rfl) (hplain : (backTo cpos (starEach es X.env)).any (·.1) = false := by rfl) :
    PE X (.Call (.Attribute o name apos) (e :: es) [] cpos) (tBM K T r to t) := by subst hK; exact pe_bm pa slot hty hm ho ha hbase hfew hline hs hplain
/-- a module's constant -/
structure Cn (mg : Str → Option Value) (x : Str) (i : Int) : Prop where
  ex : ∃ t, mg x = some (.int i t)
theorem pe_cn {x : Str} {i : Int} {pos : Pos} (h : Cn X.mg x i) (hg : Gl X x) (hd : (x == ("__debug__" : Str)) = false := by decide) : PE X (.Name x pos) (tC (.int i)) := by
  obtain ⟨t, e⟩ := h.ex
  exact pe_glob hg e ⟨t, rfl⟩ hd
end
/-- an expression, its wish stated between -/
def tMid (t : TE) : TE := fun σ H Q => ∃ Q', t σ H Q' ∧ ∀ v H', Q' v H' → Q v H'
theorem pe_mid {X : Cx} {e : Expr} {t : TE} (h : PE X e t) : PE X e (tMid t) := by
  refine ⟨fun pins s σ H Q I q => ?_⟩
  obtain ⟨Q', h1, h2⟩ := q
  exact thn (h.run pins s σ H Q' I h1) fun u s' ⟨v, H', I', r, z⟩ => ⟨v, H', I', r, h2 _ _ z⟩
theorem r_mid {t : TE} {σ : L2.St} {H : Hp} {Q : VK} (Q' : VK) (h : t σ H Q') (k : ∀ v H', Q' v H' → Q v H') : tMid t σ H Q := ⟨Q', h, k⟩
/-- a block, cut behind its first statement -/
def tCut (t u : TS) : TS := fun D σ H => ∃ Mid : L2.St → Hp → Prop, t ⟨Mid, D.rt, D.bk, D.ct⟩ σ H ∧ ∀ σ' H', Mid σ' H' → u D σ' H'
theorem pss_cut {X : Cx} {st : Stmt} {rest : List Stmt} {t u : TS} (h1 : PS X st t) (h2 : PSs X rest u) : PSs X (st :: rest) (tCut t u) := by
  refine ⟨fun pins s σ H D I h => ?_⟩
  obtain ⟨Mid, h, k⟩ := h
  have p : PS X st (fun D' σ' H' => D' = ⟨u D, D.rt, D.bk, D.ct⟩ ∧ t ⟨Mid, D.rt, D.bk, D.ct⟩ σ' H') := ⟨fun pins s σ H D' I q => by
    obtain ⟨rfl, q⟩ := q
    refine thn (h1.run pins s σ H _ I q) fun f s' z => ?_
    cases f with
    | next => obtain ⟨σ', H', I', m⟩ := z; exact ⟨σ', H', I', k _ _ m⟩
    | cont => exact z
    | brk => exact z
    | ret v => exact z⟩
  exact (pss_cons p h2).run pins s σ H D I ⟨rfl, h⟩
/-! ## reading: names, constants -/
section
variable {K : PySem.W.Frag} {σ : L2.St} {H : Hp} {Q : VK}
theorem r_c {v : V} (k : Q v H) : tC v σ H Q := k
theorem r_var {i : Nat} {v : V} (h : σ[i]? = some (some v)) (k : Q v H) : tVar i σ H Q := ⟨v, h, k⟩
variable {a0 a1 a2 a3 a4 a5 a6 a7 a8 a9 a10 a11 a12 a13 a14 a15 a16 a17 a18 a19 : Option V} {v : V} {r : L2.St}
theorem r_v0 (k : Q v H) : tVar 0 (some v :: r) H Q := ⟨v, rfl, k⟩
theorem r_g0 {z : Option V} {G : L2.St → Hp → Prop} (k : G (some v :: r) H) : gName 0 v (z :: r) H G := k
theorem r_v1 {a0 : Option V} (k : Q v H) : tVar 1 (a0 :: some v :: r) H Q := ⟨v, rfl, k⟩
theorem r_g1 {a0 : Option V} {z : Option V} {G : L2.St → Hp → Prop} (k : G (a0 :: some v :: r) H) : gName 1 v (a0 :: z :: r) H G := k
theorem r_v2 {a0 a1 : Option V} (k : Q v H) : tVar 2 (a0 :: a1 :: some v :: r) H Q := ⟨v, rfl, k⟩
theorem r_g2 {a0 a1 : Option V} {z : Option V} {G : L2.St → Hp → Prop} (k : G (a0 :: a1 :: some v :: r) H) : gName 2 v (a0 :: a1 :: z :: r) H G := k
theorem r_v3 {a0 a1 a2 : Option V} (k : Q v H) : tVar 3 (a0 :: a1 :: a2 :: some v :: r) H Q := ⟨v, rfl, k⟩
theorem r_g3 {a0 a1 a2 : Option V} {z : Option V} {G : L2.St → Hp → Prop} (k : G (a0 :: a1 :: a2 :: some v :: r) H) : gName 3 v (a0 :: a1 :: a2 :: z :: r) H G := k
theorem r_v4 {a0 a1 a2 a3 : Option V} (k : Q v H) : tVar 4 (a0 :: a1 :: a2 :: a3 :: some v :: r) H Q := ⟨v, rfl, k⟩
theorem r_g4 {a0 a1 a2 a3 : Option V} {z : Option V} {G : L2.St → Hp → Prop} (k : G (a0 :: a1 :: a2 :: a3 :: some v :: r) H) : gName 4 v (a0 :: a1 :: a2 :: a3 :: z :: r) H G := k
theorem r_v5 {a0 a1 a2 a3 a4 : Option V} (k : Q v H) : tVar 5 (a0 :: a1 :: a2 :: a3 :: a4 :: some v :: r) H Q := ⟨v, rfl, k⟩
theorem r_g5 {a0 a1 a2 a3 a4 : Option V} {z : Option V} {G : L2.St → Hp → Prop} (k : G (a0 :: a1 :: a2 :: a3 :: a4 :: some v :: r) H) : gName 5 v (a0 :: a1 :: a2 :: a3 :: a4 :: z :: r) H G := k
theorem r_v6 {a0 a1 a2 a3 a4 a5 : Option V} (k : Q v H) : tVar 6 (a0 :: a1 :: a2 :: a3 :: a4 :: a5 :: some v :: r) H Q := ⟨v, rfl, k⟩
theorem r_g6 {a0 a1 a2 a3 a4 a5 : Option V} {z : Option V} {G : L2.St → Hp → Prop} (k : G (a0 :: a1 :: a2 :: a3 :: a4 :: a5 :: some v :: r) H) : gName 6 v (a0 :: a1 :: a2 :: a3 :: a4 :: a5 :: z :: r) H G := k
theorem r_v7 {a0 a1 a2 a3 a4 a5 a6 : Option V} (k : Q v H) : tVar 7 (a0 :: a1 :: a2 :: a3 :: a4 :: a5 :: a6 :: some v :: r) H Q := ⟨v, rfl, k⟩
theorem r_g7 {a0 a1 a2 a3 a4 a5 a6 : Option V} {z : Option V} {G : L2.St → Hp → Prop} (k : G (a0 :: a1 :: a2 :: a3 :: a4 :: a5 :: a6 :: some v :: r) H) : gName 7 v (a0 :: a1 :: a2 :: a3 :: a4 :: a5 :: a6 :: z :: r) H G := k
theorem r_v8 {a0 a1 a2 a3 a4 a5 a6 a7 : Option V} (k : Q v H) : tVar 8 (a0 :: a1 :: a2 :: a3 :: a4 :: a5 :: a6 :: a7 :: some v :: r) H Q := ⟨v, rfl, k⟩
theorem r_g8 {a0 a1 a2 a3 a4 a5 a6 a7 : Option V} {z : Option V} {G : L2.St → Hp → Prop} (k : G (a0 :: a1 :: a2 :: a3 :: a4 :: a5 :: a6 :: a7 :: some v :: r) H) : gName 8 v (a0 :: a1 :: a2 :: a3 :: a4 :: a5 :: a6 :: a7 :: z :: r) H G := k
theorem r_v9 {a0 a1 a2 a3 a4 a5 a6 a7 a8 : Option V} (k : Q v H) : tVar 9 (a0 :: a1 :: a2 :: a3 :: a4 :: a5 :: a6 :: a7 :: a8 :: some v :: r) H Q := ⟨v, rfl, k⟩
theorem r_g9 {a0 a1 a2 a3 a4 a5 a6 a7 a8 : Option V} {z : Option V} {G : L2.St → Hp → Prop} (k : G (a0 :: a1 :: a2 :: a3 :: a4 :: a5 :: a6 :: a7 :: a8 :: some v :: r) H) : gName 9 v (a0 :: a1 :: a2 :: a3 :: a4 :: a5 :: a6 :: a7 :: a8 :: z :: r) H G := k
theorem r_v10 {a0 a1 a2 a3 a4 a5 a6 a7 a8 a9 : Option V} (k : Q v H) : tVar 10 (a0 :: a1 :: a2 :: a3 :: a4 :: a5 :: a6 :: a7 :: a8 :: a9 :: some v :: r) H Q := ⟨v, rfl, k⟩
theorem r_g10 {a0 a1 a2 a3 a4 a5 a6 a7 a8 a9 : Option V} {z : Option V} {G : L2.St → Hp → Prop} (k : G (a0 :: a1 :: a2 :: a3 :: a4 :: a5 :: a6 :: a7 :: a8 :: a9 :: some v :: r) H) : gName 10 v (a0 :: a1 :: a2 :: a3 :: a4 :: a5 :: a6 :: a7 :: a8 :: a9 :: z :: r) H G := k
theorem r_v11 {a0 a1 a2 a3 a4 a5 a6 a7 a8 a9 a10 : Option V} (k : Q v H) : tVar 11 (a0 :: a1 :: a2 :: a3 :: a4 :: a5 :: a6 :: a7 :: a8 :: a9 :: a10 :: some v :: r) H Q := ⟨v, rfl, k⟩
theorem r_g11 {a0 a1 a2 a3 a4 a5 a6 a7 a8 a9 a10 : Option V} {z : Option V} {G : L2.St → Hp → Prop} (k : G (a0 :: a1 :: a2 :: a3 :: a4 :: a5 :: a6 :: a7 :: a8 :: a9 :: a10 :: some v :: r) H) : gName 11 v (a0 :: a1 :: a2 :: a3 :: a4 :: a5 :: a6 :: a7 :: a8 :: a9 :: a10 :: z :: r) H G := k
theorem r_v12 {a0 a1 a2 a3 a4 a5 a6 a7 a8 a9 a10 a11 : Option V} (k : Q v H) : tVar 12 (a0 :: a1 :: a2 :: a3 :: a4 :: a5 :: a6 :: a7 :: a8 :: a9 :: a10 :: a11 :: some v :: r) H Q := ⟨v, rfl, k⟩
theorem r_g12 {a0 a1 a2 a3 a4 a5 a6 a7 a8 a9 a10 a11 : Option V} {z : Option V} {G : L2.St → Hp → Prop} (k : G (a0 :: a1 :: a2 :: a3 :: a4 :: a5 :: a6 :: a7 :: a8 :: a9 :: a10 :: a11 :: some v :: r) H) : gName 12 v (a0 :: a1 :: a2 :: a3 :: a4 :: a5 :: a6 :: a7 :: a8 :: a9 :: a10 :: a11 :: z :: r) H G := k
theorem r_v13 {a0 a1 a2 a3 a4 a5 a6 a7 a8 a9 a10 a11 a12 : Option V} (k : Q v H) : tVar 13 (a0 :: a1 :: a2 :: a3 :: a4 :: a5 :: a6 :: a7 :: a8 :: a9 :: a10 :: a11 :: a12 :: some v :: r) H Q := ⟨v, rfl, k⟩
theorem r_g13 {a0 a1 a2 a3 a4 a5 a6 a7 a8 a9 a10 a11 a12 : Option V} {z : Option V} {G : L2.St → Hp → Prop} (k : G (a0 :: a1 :: a2 :: a3 :: a4 :: a5 :: a6 :: a7 :: a8 :: a9 :: a10 :: a11 :: a12 :: some v :: r) H) : gName 13 v (a0 :: a1 :: a2 :: a3 :: a4 :: a5 :: a6 :: a7 :: a8 :: a9 :: a10 :: a11 :: a12 :: z :: r) H G := k
theorem r_v14 {a0 a1 a2 a3 a4 a5 a6 a7 a8 a9 a10 a11 a12 a13 : Option V} (k : Q v H) : tVar 14 (a0 :: a1 :: a2 :: a3 :: a4 :: a5 :: a6 :: a7 :: a8 :: a9 :: a10 :: a11 :: a12 :: a13 :: some v :: r) H Q := ⟨v, rfl, k⟩
theorem r_g14 {a0 a1 a2 a3 a4 a5 a6 a7 a8 a9 a10 a11 a12 a13 : Option V} {z : Option V} {G : L2.St → Hp → Prop} (k : G (a0 :: a1 :: a2 :: a3 :: a4 :: a5 :: a6 :: a7 :: a8 :: a9 :: a10 :: a11 :: a12 :: a13 :: some v :: r) H) : gName 14 v (a0 :: a1 :: a2 :: a3 :: a4 :: a5 :: a6 :: a7 :: a8 :: a9 :: a10 :: a11 :: a12 :: a13 :: z :: r) H G := k
theorem r_v15 {a0 a1 a2 a3 a4 a5 a6 a7 a8 a9 a10 a11 a12 a13 a14 : Option V} (k : Q v H) : tVar 15 (a0 :: a1 :: a2 :: a3 :: a4 :: a5 :: a6 :: a7 :: a8 :: a9 :: a10 :: a11 :: a12 :: a13 :: a14 :: some v :: r) H Q := ⟨v, rfl, k⟩
theorem r_g15 {a0 a1 a2 a3 a4 a5 a6 a7 a8 a9 a10 a11 a12 a13 a14 : Option V} {z : Option V} {G : L2.St → Hp → Prop} (k : G (a0 :: a1 :: a2 :: a3 :: a4 :: a5 :: a6 :: a7 :: a8 :: a9 :: a10 :: a11 :: a12 :: a13 :: a14 :: some v :: r) H) : gName 15 v (a0 :: a1 :: a2 :: a3 :: a4 :: a5 :: a6 :: a7 :: a8 :: a9 :: a10 :: a11 :: a12 :: a13 :: a14 :: z :: r) H G := k
theorem r_v16 {a0 a1 a2 a3 a4 a5 a6 a7 a8 a9 a10 a11 a12 a13 a14 a15 : Option V} (k : Q v H) : tVar 16 (a0 :: a1 :: a2 :: a3 :: a4 :: a5 :: a6 :: a7 :: a8 :: a9 :: a10 :: a11 :: a12 :: a13 :: a14 :: a15 :: some v :: r) H Q := ⟨v, rfl, k⟩
theorem r_g16 {a0 a1 a2 a3 a4 a5 a6 a7 a8 a9 a10 a11 a12 a13 a14 a15 : Option V} {z : Option V} {G : L2.St → Hp → Prop} (k : G (a0 :: a1 :: a2 :: a3 :: a4 :: a5 :: a6 :: a7 :: a8 :: a9 :: a10 :: a11 :: a12 :: a13 :: a14 :: a15 :: some v :: r) H) : gName 16 v (a0 :: a1 :: a2 :: a3 :: a4 :: a5 :: a6 :: a7 :: a8 :: a9 :: a10 :: a11 :: a12 :: a13 :: a14 :: a15 :: z :: r) H G := k
theorem r_v17 {a0 a1 a2 a3 a4 a5 a6 a7 a8 a9 a10 a11 a12 a13 a14 a15 a16 : Option V} (k : Q v H) : tVar 17 (a0 :: a1 :: a2 :: a3 :: a4 :: a5 :: a6 :: a7 :: a8 :: a9 :: a10 :: a11 :: a12 :: a13 :: a14 :: a15 :: a16 :: some v :: r) H Q := ⟨v, rfl, k⟩
theorem r_g17 {a0 a1 a2 a3 a4 a5 a6 a7 a8 a9 a10 a11 a12 a13 a14 a15 a16 : Option V} {z : Option V} {G : L2.St → Hp → Prop} (k : G (a0 :: a1 :: a2 :: a3 :: a4 :: a5 :: a6 :: a7 :: a8 :: a9 :: a10 :: a11 :: a12 :: a13 :: a14 :: a15 :: a16 :: some v :: r) H) : gName 17 v (a0 :: a1 :: a2 :: a3 :: a4 :: a5 :: a6 :: a7 :: a8 :: a9 :: a10 :: a11 :: a12 :: a13 :: a14 :: a15 :: a16 :: z :: r) H G := k
theorem r_v18 {a0 a1 a2 a3 a4 a5 a6 a7 a8 a9 a10 a11 a12 a13 a14 a15 a16 a17 : Option V} (k : Q v H) : tVar 18 (a0 :: a1 :: a2 :: a3 :: a4 :: a5 :: a6 :: a7 :: a8 :: a9 :: a10 :: a11 :: a12 :: a13 :: a14 :: a15 :: a16 :: a17 :: some v :: r) H Q := ⟨v, rfl, k⟩
theorem r_g18 {a0 a1 a2 a3 a4 a5 a6 a7 a8 a9 a10 a11 a12 a13 a14 a15 a16 a17 : Option V} {z : Option V} {G : L2.St → Hp → Prop} (k : G (a0 :: a1 :: a2 :: a3 :: a4 :: a5 :: a6 :: a7 :: a8 :: a9 :: a10 :: a11 :: a12 :: a13 :: a14 :: a15 :: a16 :: a17 :: some v :: r) H) : gName 18 v (a0 :: a1 :: a2 :: a3 :: a4 :: a5 :: a6 :: a7 :: a8 :: a9 :: a10 :: a11 :: a12 :: a13 :: a14 :: a15 :: a16 :: a17 :: z :: r) H G := k
theorem r_v19 {a0 a1 a2 a3 a4 a5 a6 a7 a8 a9 a10 a11 a12 a13 a14 a15 a16 a17 a18 : Option V} (k : Q v H) : tVar 19 (a0 :: a1 :: a2 :: a3 :: a4 :: a5 :: a6 :: a7 :: a8 :: a9 :: a10 :: a11 :: a12 :: a13 :: a14 :: a15 :: a16 :: a17 :: a18 :: some v :: r) H Q := ⟨v, rfl, k⟩
theorem r_g19 {a0 a1 a2 a3 a4 a5 a6 a7 a8 a9 a10 a11 a12 a13 a14 a15 a16 a17 a18 : Option V} {z : Option V} {G : L2.St → Hp → Prop} (k : G (a0 :: a1 :: a2 :: a3 :: a4 :: a5 :: a6 :: a7 :: a8 :: a9 :: a10 :: a11 :: a12 :: a13 :: a14 :: a15 :: a16 :: a17 :: a18 :: some v :: r) H) : gName 19 v (a0 :: a1 :: a2 :: a3 :: a4 :: a5 :: a6 :: a7 :: a8 :: a9 :: a10 :: a11 :: a12 :: a13 :: a14 :: a15 :: a16 :: a17 :: a18 :: z :: r) H G := k
theorem r_v20 {a0 a1 a2 a3 a4 a5 a6 a7 a8 a9 a10 a11 a12 a13 a14 a15 a16 a17 a18 a19 : Option V} (k : Q v H) : tVar 20 (a0 :: a1 :: a2 :: a3 :: a4 :: a5 :: a6 :: a7 :: a8 :: a9 :: a10 :: a11 :: a12 :: a13 :: a14 :: a15 :: a16 :: a17 :: a18 :: a19 :: some v :: r) H Q := ⟨v, rfl, k⟩
theorem r_g20 {a0 a1 a2 a3 a4 a5 a6 a7 a8 a9 a10 a11 a12 a13 a14 a15 a16 a17 a18 a19 : Option V} {z : Option V} {G : L2.St → Hp → Prop} (k : G (a0 :: a1 :: a2 :: a3 :: a4 :: a5 :: a6 :: a7 :: a8 :: a9 :: a10 :: a11 :: a12 :: a13 :: a14 :: a15 :: a16 :: a17 :: a18 :: a19 :: some v :: r) H) : gName 20 v (a0 :: a1 :: a2 :: a3 :: a4 :: a5 :: a6 :: a7 :: a8 :: a9 :: a10 :: a11 :: a12 :: a13 :: a14 :: a15 :: a16 :: a17 :: a18 :: a19 :: z :: r) H G := k
theorem r_v21 {a0 a1 a2 a3 a4 a5 a6 a7 a8 a9 a10 a11 a12 a13 a14 a15 a16 a17 a18 a19 a20 : Option V} (k : Q v H) : tVar 21 (a0 :: a1 :: a2 :: a3 :: a4 :: a5 :: a6 :: a7 :: a8 :: a9 :: a10 :: a11 :: a12 :: a13 :: a14 :: a15 :: a16 :: a17 :: a18 :: a19 :: a20 :: some v :: r) H Q := ⟨v, rfl, k⟩
theorem r_g21 {a0 a1 a2 a3 a4 a5 a6 a7 a8 a9 a10 a11 a12 a13 a14 a15 a16 a17 a18 a19 a20 : Option V} {z : Option V} {G : L2.St → Hp → Prop} (k : G (a0 :: a1 :: a2 :: a3 :: a4 :: a5 :: a6 :: a7 :: a8 :: a9 :: a10 :: a11 :: a12 :: a13 :: a14 :: a15 :: a16 :: a17 :: a18 :: a19 :: a20 :: some v :: r) H) : gName 21 v (a0 :: a1 :: a2 :: a3 :: a4 :: a5 :: a6 :: a7 :: a8 :: a9 :: a10 :: a11 :: a12 :: a13 :: a14 :: a15 :: a16 :: a17 :: a18 :: a19 :: a20 :: z :: r) H G := k
theorem r_v22 {a0 a1 a2 a3 a4 a5 a6 a7 a8 a9 a10 a11 a12 a13 a14 a15 a16 a17 a18 a19 a20 a21 : Option V} (k : Q v H) : tVar 22 (a0 :: a1 :: a2 :: a3 :: a4 :: a5 :: a6 :: a7 :: a8 :: a9 :: a10 :: a11 :: a12 :: a13 :: a14 :: a15 :: a16 :: a17 :: a18 :: a19 :: a20 :: a21 :: some v :: r) H Q := ⟨v, rfl, k⟩
theorem r_g22 {a0 a1 a2 a3 a4 a5 a6 a7 a8 a9 a10 a11 a12 a13 a14 a15 a16 a17 a18 a19 a20 a21 : Option V} {z : Option V} {G : L2.St → Hp → Prop} (k : G (a0 :: a1 :: a2 :: a3 :: a4 :: a5 :: a6 :: a7 :: a8 :: a9 :: a10 :: a11 :: a12 :: a13 :: a14 :: a15 :: a16 :: a17 :: a18 :: a19 :: a20 :: a21 :: some v :: r) H) : gName 22 v (a0 :: a1 :: a2 :: a3 :: a4 :: a5 :: a6 :: a7 :: a8 :: a9 :: a10 :: a11 :: a12 :: a13 :: a14 :: a15 :: a16 :: a17 :: a18 :: a19 :: a20 :: a21 :: z :: r) H G := k
theorem r_v23 {a0 a1 a2 a3 a4 a5 a6 a7 a8 a9 a10 a11 a12 a13 a14 a15 a16 a17 a18 a19 a20 a21 a22 : Option V} (k : Q v H) : tVar 23 (a0 :: a1 :: a2 :: a3 :: a4 :: a5 :: a6 :: a7 :: a8 :: a9 :: a10 :: a11 :: a12 :: a13 :: a14 :: a15 :: a16 :: a17 :: a18 :: a19 :: a20 :: a21 :: a22 :: some v :: r) H Q := ⟨v, rfl, k⟩
theorem r_g23 {a0 a1 a2 a3 a4 a5 a6 a7 a8 a9 a10 a11 a12 a13 a14 a15 a16 a17 a18 a19 a20 a21 a22 : Option V} {z : Option V} {G : L2.St → Hp → Prop} (k : G (a0 :: a1 :: a2 :: a3 :: a4 :: a5 :: a6 :: a7 :: a8 :: a9 :: a10 :: a11 :: a12 :: a13 :: a14 :: a15 :: a16 :: a17 :: a18 :: a19 :: a20 :: a21 :: a22 :: some v :: r) H) : gName 23 v (a0 :: a1 :: a2 :: a3 :: a4 :: a5 :: a6 :: a7 :: a8 :: a9 :: a10 :: a11 :: a12 :: a13 :: a14 :: a15 :: a16 :: a17 :: a18 :: a19 :: a20 :: a21 :: a22 :: z :: r) H G := k
/-! ## reading: structure -/
theorem r_op {r : R2} {ta tb : TE} (k : ta σ H fun x H1 => tb σ H1 fun y H2 => r x y H2 Q) : tOp r ta tb σ H Q := k
theorem r_un {r : V → Hp → VK → Prop} {ta : TE} (k : ta σ H fun x H1 => r x H1 Q) : tUn r ta σ H Q := k
theorem r_chain {r r' : R2} {ta tb tc : TE} (k : ta σ H fun x H1 => tb σ H1 fun y H2 => r x y H2 fun z H3 => ∃ k, z = .bl k ∧ (if k = true then tc σ H3 fun w' H4 => r' y w' H4 Q else Q (.bl false) H3)) : tChain r r' ta tb tc σ H Q := k
theorem r_nil {Q : List V → Hp → Prop} (k : Q [] H) : tNil σ H Q := k
theorem r_cons {Q : List V → Hp → Prop} {ta : TE} {tr : TA} (k : ta σ H fun x H1 => tr σ H1 fun xs H2 => Q (x :: xs) H2) : tCons ta tr σ H Q := k
theorem r_cB {r : List V → Hp → VK → Prop} {t : TA} (k : t σ H fun vs H1 => r vs H1 Q) : tCB r t σ H Q := k
theorem r_call {sp : Sp} {E : XK} {t : TA} (k : t σ H fun vs H1 => sp vs H1 Q E) : tCall sp [] E t σ H Q := by
  have e : (fun (vs : List V) H1 => sp (vs ++ []) H1 Q E) = fun vs H1 => sp vs H1 Q E := by
    funext vs H1
    rw [List.append_nil]
  show t σ H fun vs H1 => sp (vs ++ []) H1 Q E
  rw [e]
  exact k
theorem r_tup {t : TA} (k : t σ H fun xs H1 => xs.length ≤ sizeLine ∧ ∀ p, H1 p = none → Q (.ref p) (upd H1 p (.tup xs))) : tTup t σ H Q := k
theorem r_lst {t : TA} (k : t σ H fun xs H1 => xs.length ≤ sizeLine ∧ ∀ p, H1 p = none → Q (.ref p) (upd H1 p (.lst xs))) : tLst t σ H Q := k
theorem r_test {t : TE} {Q : Bool → Hp → Prop} (k : t σ H fun x H' => ∃ k, x = .bl k ∧ Q k H') : tTest t σ H Q := k
theorem r_B {t : TE} {Q : Bool → Hp → Prop} (k : t σ H fun x H' => ∃ k, x = .bl k ∧ Q k H') : tB t σ H Q := k
theorem r_bl {b : Bool} {P : Bool → Prop} (k : P b) : ∃ c, V.bl b = .bl c ∧ P c := ⟨b, rfl, k⟩
theorem r_and {t u : TT} {Q : Bool → Hp → Prop} (k : t σ H fun c H1 => if c = true then u σ H1 Q else Q false H1) : tAnd t u σ H Q := k
theorem r_or {t u : TT} {Q : Bool → Hp → Prop} (k : t σ H fun c H1 => if c = true then Q true H1 else u σ H1 Q) : tOr t u σ H Q := k
theorem r_not {t : TT} {Q : Bool → Hp → Prop} (k : t σ H fun c H1 => Q (!c) H1) : tNot t σ H Q := k
theorem r_andV {ta tb : TE} (k : ta σ H fun x H1 => ∃ c, x = .bl c ∧ if c = true then tb σ H1 Q else Q (.bl false) H1) : tAndV ta tb σ H Q := k
theorem r_orV {ta tb : TE} (k : ta σ H fun x H1 => ∃ c, x = .bl c ∧ if c = true then Q (.bl true) H1 else tb σ H1 Q) : tOrV ta tb σ H Q := k
theorem r_notV {ta : TE} (k : ta σ H fun x H1 => ∃ c, x = .bl c ∧ Q (.bl (!c)) H1) : tNotV ta σ H Q := k
theorem r_if {t : TT} {ta tb : TE} (k : t σ H fun c H1 => if c = true then ta σ H1 Q else tb σ H1 Q) : tIf t ta tb σ H Q := k
theorem r_sl {rr : V → Option Int → Option Int → Hp → VK → Prop} {te : TE} {tl th : TO} (k : te σ H fun x H1 => tl σ H1 fun l H2 => th σ H2 fun u H3 => rr x l u H3 Q) : tSl rr te tl th σ H Q := k
theorem r_noP {Q : Option Int → Hp → Prop} (k : Q none H) : tNoPart σ H Q := k
theorem r_part {t : TE} {Q : Option Int → Hp → Prop} (k : t σ H fun x H1 => ∃ i, x = .int i ∧ Q (some i) H1) : tPart t σ H Q := k
theorem r_partI {i : Int} {P : Int → Prop} (k : P i) : ∃ j, V.int i = .int j ∧ P j := ⟨i, rfl, k⟩
theorem r_bm {T : String} {rr : V → List V → Hp → VK → Prop} {to : TE} {t : TA} (k : to σ H fun x H1 => tyV K T x H1 ∧ t σ H1 fun xs H2 => rr x xs H2 Q) : tBM K T rr to t σ H Q := k
theorem r_bm0 {T : String} {rr : V → List V → Hp → VK → Prop} {to : TE} (k : to σ H fun x H1 => tyV K T x H1 ∧ rr x [] H1 Q) : tBM0 K T rr to σ H Q := k
/-! ### statements -/
variable {nn bb cc : L2.St → Hp → Prop} {rr : VK}
theorem r_seq {t u : TS} (k : t ⟨u ⟨nn, rr, bb, cc⟩, rr, bb, cc⟩ σ H) : tSeq t u ⟨nn, rr, bb, cc⟩ σ H := k
theorem r_cut {t u : TS} (Mid : L2.St → Hp → Prop) (k : t ⟨Mid, rr, bb, cc⟩ σ H) (k2 : ∀ σ' H', Mid σ' H' → u ⟨nn, rr, bb, cc⟩ σ' H') : tCut t u ⟨nn, rr, bb, cc⟩ σ H := ⟨Mid, k, k2⟩
theorem r_next (k : nn σ H) : tNext ⟨nn, rr, bb, cc⟩ σ H := k
theorem r_break (k : bb σ H) : tBreak ⟨nn, rr, bb, cc⟩ σ H := k
theorem r_cont (k : cc σ H) : tCont ⟨nn, rr, bb, cc⟩ σ H := k
theorem r_drop {te : TE} (k : te σ H fun _ H1 => nn σ H1) : tDrop te ⟨nn, rr, bb, cc⟩ σ H := k
theorem r_ret {te : TE} (k : te σ H rr) : tRet te ⟨nn, rr, bb, cc⟩ σ H := k
theorem r_retN (k : rr .non H) : tRetN ⟨nn, rr, bb, cc⟩ σ H := k
theorem r_ifS {c : TT} {t u : TS} (k : c σ H fun b H1 => if b = true then t ⟨nn, rr, bb, cc⟩ σ H1 else u ⟨nn, rr, bb, cc⟩ σ H1) : tIfS c t u ⟨nn, rr, bb, cc⟩ σ H := k
theorem r_asg {te : TE} {g : TG} (k : te σ H fun x H1 => g x σ H1 nn) : tAsg te g ⟨nn, rr, bb, cc⟩ σ H := k
def ForW (J : It) (g : TG) (tb : TS) (D : Ends) (σ : L2.St) (H1 : Hp) : Prop := ∃ W : Nat → Nat → L2.St → Hp → Prop, (∃ m, W 0 m σ H1) ∧ ∀ i m σ H, W i m σ H →
  (J.stop i H ∧ D.nx σ H) ∨ (J.go i H ∧ ∃ N : L2.St → Hp → Prop, (∀ σ' H', N σ' H' → ∃ m', m' < m ∧ W (i + 1) m' σ' H') ∧ ∀ x H', J.yld i H x H' → g x σ H' fun σ2 H2 => tb { D with nx := N, ct := N, bk := D.nx } σ2 H2)
theorem r_for {wi : TI} {g : TG} {tb : TS} (k : wi σ H fun J H1 => ForW J g tb ⟨nn, rr, bb, cc⟩ σ H1) : tFor wi g tb ⟨nn, rr, bb, cc⟩ σ H := k
theorem fw_list {a : Addr} {xs : List V} {g : TG} {tb : TS} (Pv : Nat → L2.St → Hp → Prop) (h0 : Pv 0 σ H) (hl : ∀ i σ H, i ≤ xs.length → Pv i σ H → SqL K H a xs)
    (hs : ∀ i x σ H, xs[i]? = some x → Pv i σ H → g x σ H fun σ2 H2 => tb ⟨Pv (i + 1), rr, nn, Pv (i + 1)⟩ σ2 H2) (hd : ∀ σ H, Pv xs.length σ H → nn σ H) : ForW (Itl K a) g tb ⟨nn, rr, bb, cc⟩ σ H := for_list Pv h0 hl hs hd
theorem fw_tup {a : Addr} {xs : List V} {g : TG} {tb : TS} (Pv : Nat → L2.St → Hp → Prop) (h0 : Pv 0 σ H) (hl : ∀ i σ H, i ≤ xs.length → Pv i σ H → SqT K H a xs)
    (hs : ∀ i x σ H, xs[i]? = some x → Pv i σ H → g x σ H fun σ2 H2 => tb ⟨Pv (i + 1), rr, nn, Pv (i + 1)⟩ σ2 H2) (hd : ∀ σ H, Pv xs.length σ H → nn σ H) : ForW (Itt K a) g tb ⟨nn, rr, bb, cc⟩ σ H := for_tup Pv h0 hl hs hd
theorem fw_range {lo : Int} {n : Nat} {g : TG} {tb : TS} (Pv : Nat → L2.St → Hp → Prop) (h0 : Pv 0 σ H)
    (hs : ∀ i σ H, i < n → Pv i σ H → g (.int (lo + i)) σ H fun σ2 H2 => tb ⟨Pv (i + 1), rr, nn, Pv (i + 1)⟩ σ2 H2) (hd : ∀ σ H, Pv n σ H → nn σ H) : ForW (Itr lo n) g tb ⟨nn, rr, bb, cc⟩ σ H := for_range Pv h0 hs hd
theorem r_iList {tl : TE} {R : It → Hp → Prop} (k : tl σ H fun x H1 => ∃ a, x = .ref a ∧ (∃ xs, SqL K H1 a xs) ∧ R (Itl K a) H1) : iList K tl σ H R := k
theorem r_iRng1 {ta : TA} {R : It → Hp → Prop} (k : ta σ H fun vs H1 => ∃ j : Int, vs = [.int j] ∧ -(2 ^ 62) ≤ j ∧ j < 2 ^ 62 ∧ R (Itr 0 j.toNat) H1) : iRng1 ta σ H R := k
theorem r_iRng2 {ta : TA} {R : It → Hp → Prop} (k : ta σ H fun vs H1 => ∃ i j : Int, vs = [.int i, .int j] ∧ (-(2 ^ 62) ≤ i ∧ i < 2 ^ 62 ∧ -(2 ^ 62) ≤ j ∧ j < 2 ^ 62) ∧ R (Itr i (j - i).toNat) H1) : iRng2 ta σ H R := k
/-! ### targets -/
variable {G : L2.St → Hp → Prop} {x : V}
theorem r_gTup {n : Nat} {t : TGs} {a : Addr} {xs : List V} (h : SqT K H a xs) (hl : xs.length = n) (k : t xs σ H G) : gTup K n t (.ref a) σ H G := ⟨a, xs, rfl, h, hl, k⟩
theorem r_gCons {t : TG} {u : TGs} {xs : List V} (k : t x σ H fun σ' H' => u xs σ' H' G) : gCons t u (x :: xs) σ H G := ⟨x, xs, rfl, k⟩
theorem r_gNil (k : G σ H) : gNil [] σ H G := ⟨rfl, k⟩
theorem r_gSub {to ti : TE} {t : TSet} (k : to σ H fun o H1 => ti σ H1 fun i H2 => t o i x H2 fun H3 => G σ H3) : gSub to ti t x σ H G := k
theorem r_setL {p : Addr} {xs : List V} {i : Int} {j : Nat} {G : Hp → Prop} (h : H p = some (.lst xs)) (e : ixN xs.length i = some j) (k : G (upd H p (.lst (xs.set j x)))) : rSetL (.ref p) (.int i) x H G := ⟨p, xs, i, j, rfl, rfl, h, e, k⟩
/-! ### values -/
theorem r_I0 {g : Int → Int → V} {i j : Int} (k : Q (g i j) H) : rI0 g (.int i) (.int j) H Q := ⟨i, j, rfl, rfl, k⟩
theorem r_I {C : Int → Int → Prop} {g : Int → Int → V} {i j : Int} (c : C i j) (k : Q (g i j) H) : rI C g (.int i) (.int j) H Q := ⟨i, j, rfl, rfl, c, k⟩
theorem r_U {g : Int → V} {i : Int} (k : Q (g i) H) : rU g (.int i) H Q := ⟨i, rfl, k⟩
theorem r_addI {i j : Int} (k : Q (.int (i + j)) H) : rAddA K (.int i) (.int j) H Q := .inl ⟨i, j, rfl, rfl, k⟩
theorem r_addL {l b : Addr} {xs zs : List V} (h1 : H l = some (.lst xs)) (h2 : H b = some (.lst zs)) (hl : xs.length + zs.length ≤ sizeLine) (k : ∀ p, H p = none → Q (.ref p) (upd H p (.lst (xs ++ zs)))) : rAddA K (.ref l) (.ref b) H Q := .inr (.inr (.inl ⟨l, b, xs, zs, rfl, rfl, h1, h2, hl, k⟩))
theorem r_eqI {i j : Int} (k : Q (.bl (decide (i = j))) H) : rEqA K (.int i) (.int j) H Q := .inl ⟨rfl, by
  have e : decide (V.int i = V.int j) = decide (i = j) := by by_cases h : i = j <;> simp [h]
  rw [e]
  exact k⟩
theorem r_neI {i j : Int} (k : Q (.bl (!decide (i = j))) H) : rNeA K (.int i) (.int j) H Q := .inl ⟨rfl, by
  have e : decide (V.int i = V.int j) = decide (i = j) := by by_cases h : i = j <;> simp [h]
  rw [e]
  exact k⟩
theorem r_eqB {i j : Bool} (k : Q (.bl (decide (i = j))) H) : rEqA K (.bl i) (.bl j) H Q := .inl ⟨rfl, by
  have e : decide (V.bl i = V.bl j) = decide (i = j) := by by_cases h : i = j <;> simp [h]
  rw [e]
  exact k⟩
theorem r_neB {i j : Bool} (k : Q (.bl (!decide (i = j))) H) : rNeA K (.bl i) (.bl j) H Q := .inl ⟨rfl, by
  have e : decide (V.bl i = V.bl j) = decide (i = j) := by by_cases h : i = j <;> simp [h]
  rw [e]
  exact k⟩
theorem r_ix {p : Addr} {xs : List V} {i : Int} {v : V} (h : SqL K H p xs ∨ SqT K H p xs) (e : atI xs i = some v) (k : Q v H) : rIx K (.ref p) (.int i) H Q := by
  rcases h with h | h
  · exact .inl ⟨p, xs, i, v, rfl, rfl, h, e, k⟩
  · exact .inr (.inl ⟨p, xs, i, v, rfl, rfl, h, e, k⟩)
theorem r_lenS {p : Addr} {ys : List V} (h : SqL K H p ys ∨ SqT K H p ys) (k : ys.length ≤ 16777216 → Q (.int ys.length) H) : rLen K [.ref p] H Q := .inl ⟨p, ys, rfl, h, k⟩
theorem r_max2 {i j : Int} (k : Q (.int (max i j)) H) : rMaxA K [.int i, .int j] H Q := .inl ⟨i, j, rfl, by
  have e : (if j > i then j else i) = max i j := by rw [Int.max_def]; split <;> split <;> omega
  rw [e]
  exact k⟩
theorem r_min2 {i j : Int} (k : Q (.int (min i j)) H) : rMinA K [.int i, .int j] H Q := .inl ⟨i, j, rfl, by
  have e : (if j < i then j else i) = min i j := by rw [Int.min_def]; split <;> split <;> omega
  rw [e]
  exact k⟩
theorem r_maxL {p : Addr} {ns : List Int} (h : SqL K H p (ns.map V.int)) (h0 : 0 < ns.length) (k : ∀ m, m ∈ ns → (∀ y, y ∈ ns → y ≤ m) → Q (.int m) H) : rMaxA K [.ref p] H Q := .inr ⟨p, ns, rfl, h, h0, k⟩
theorem r_minL {p : Addr} {ns : List Int} (h : SqL K H p (ns.map V.int)) (h0 : 0 < ns.length) (k : ∀ m, m ∈ ns → (∀ y, y ∈ ns → m ≤ y) → Q (.int m) H) : rMinA K [.ref p] H Q := .inr ⟨p, ns, rfl, h, h0, k⟩
theorem r_abs {i : Int} (k : Q (.int i.natAbs) H) : rAbs [.int i] H Q := ⟨i, rfl, by
  have e : (if i < 0 then -i else i) = (i.natAbs : Int) := by split <;> omega
  rw [e]
  exact k⟩
theorem r_intI {i : Int} (k : Q (.int i) H) : rInt1 [.int i] H Q := .inl ⟨i, rfl, k⟩
theorem r_intB {b : Bool} (k : Q (.int (if b then 1 else 0)) H) : rInt1 [.bl b] H Q := .inr ⟨b, rfl, k⟩
theorem r_listOf {p : Addr} {ys : List V} (h : SqL K H p ys ∨ SqT K H p ys) (k : ∀ l, H l = none → Q (.ref l) (upd H l (.lst ys))) : rListOf K [.ref p] H Q := ⟨p, ys, rfl, h, k⟩
theorem r_tupT {p : Addr} {ys : List V} (h : SqT K H p ys) (k : Q (.ref p) H) : rTupOf K [.ref p] H Q := ⟨p, ys, rfl, .inr ⟨h, k⟩⟩
theorem r_tupL {p : Addr} {ys : List V} (h : SqL K H p ys) (k : ∀ l, H l = none → Q (.ref l) (upd H l (.tup ys))) : rTupOf K [.ref p] H Q := ⟨p, ys, rfl, .inl ⟨h, k⟩⟩
theorem r_slL {p : Addr} {xs : List V} {lo hi : Option Int} (h : SqL K H p xs) (k : ∀ l, H l = none → Q (.ref l) (upd H l (.lst (cutV xs lo hi)))) : rSlAll K (.ref p) lo hi H Q := .inl ⟨p, xs, rfl, h, k⟩
theorem r_app {l : Addr} {xs : List V} {y : V} (h : H l = some (.lst xs)) (hz : xs.length < sizeLine) (k : Q .non (upd H l (.lst (xs ++ [y])))) : rAppend (.ref l) [y] H Q := ⟨l, xs, y, rfl, rfl, h, hz, k⟩
theorem r_tyL {p : Addr} {xs : List V} (h : H p = some (.lst xs)) : tyV K "list" (.ref p) H := .inl ⟨rfl, _, SqL.of h⟩
theorem r_eqD {x y : V} {d : PyData} (h1 : Dp K H x d) (h2 : Dp K H y d) (hs : SeqAt.shaped d = true) (k : Q (.bl true) H) : rEqA K x y H Q := .inr ⟨d, d, h1, h2, hs, hs, by
  rw [SeqAt.eqv_refl d (SeqAt.canLay_of_shaped hs)]
  exact k⟩
theorem r_neD {x y : V} {d : PyData} (h1 : Dp K H x d) (h2 : Dp K H y d) (hs : SeqAt.shaped d = true) (k : Q (.bl false) H) : rNeA K x y H Q := .inr ⟨d, d, h1, h2, hs, hs, by
  rw [SeqAt.eqv_refl d (SeqAt.canLay_of_shaped hs)]
  exact k⟩
end
/-! ## tests -/
theorem iteD {c A B : Prop} [Decidable c] (h1 : c → A) (h2 : ¬ c → B) : if decide c = true then A else B := by
  by_cases h : c
  · rw [if_pos (decide_eq_true h)]
    exact h1 h
  · rw [if_neg (by simpa using h)]
    exact h2 h
theorem iteN {c A B : Prop} [Decidable c] (h1 : ¬ c → A) (h2 : c → B) : if (!decide c) = true then A else B := by
  by_cases h : c
  · rw [if_neg (by simpa using h)]
    exact h2 h
  · rw [if_pos (by simpa using h)]
    exact h1 h
theorem iteDT {c A B : Prop} [Decidable c] (hc : c) (h1 : A) : if decide c = true then A else B := iteD (fun _ => h1) fun h => absurd hc h
theorem iteDF {c A B : Prop} [Decidable c] (hc : ¬ c) (h1 : B) : if decide c = true then A else B := iteD (fun h => absurd h hc) fun _ => h1
theorem iteNT {c A B : Prop} [Decidable c] (hc : ¬ c) (h1 : A) : if (!decide c) = true then A else B := iteN (fun _ => h1) fun h => absurd h hc
theorem iteNF {c A B : Prop} [Decidable c] (hc : c) (h1 : B) : if (!decide c) = true then A else B := iteN (fun h => absurd hc h) fun _ => h1
/-! ## heaps -/
section
variable {H H' H1 H2 : Hp}
theorem at_new {p g : Addr} {o u : HO} (np : H p = none) (h : H g = some o) : upd H p u g = some o := by
  rw [upd_ne (ne_of_none h np)]
  exact h
theorem at_wr {p g : Addr} {o u : HO} (hne : g ≠ p) (h : H g = some o) : upd H p u g = some o := by
  rw [upd_ne hne]
  exact h
theorem same_new {p : Addr} {u : HO} (np : H p = none) : Same H (upd H p u) := fun _ _ h => at_new np h
end
/-! ## frames: all stays but the place of the draws -/
/-- not the list that the draws turn -/
def NotSt (o : HO) : Prop := ∀ (a : Addr) (i m r : Int), o ≠ .lst [.ref a, .int i, .int m, .int r]
theorem nst_tup {xs : List V} : NotSt (.tup xs) := fun _ _ _ _ h => nomatch h
theorem nst_frz {o : Obj} {u : HO} : NotSt (.frz o u) := fun _ _ _ _ h => nomatch h
theorem nst_ins {C dx : Addr} {fs : List (Str × V)} : NotSt (.ins C dx fs) := fun _ _ _ _ h => nomatch h
theorem nst_own {x : Addr} : NotSt (.own x) := fun _ _ _ _ h => nomatch h
theorem nst_nil : NotSt (.lst []) := fun _ _ _ _ h => by cases h
theorem nst_int {i : Int} {r : List V} : NotSt (.lst (.int i :: r)) := fun _ _ _ _ h => by cases h
theorem nst_cons {a b : Addr} {r : List V} : NotSt (.lst (.ref a :: .ref b :: r)) := fun _ _ _ _ h => by cases h
theorem nst_ints {ns : List Int} : NotSt (.lst (ns.map V.int)) := fun _ _ _ _ h => by
  cases ns with
  | nil => cases h
  | cons a r => cases h
theorem nst_refs {as : List Addr} : NotSt (.lst (as.map V.ref)) := fun _ _ _ _ h => by
  match as, h with
  | [], h => cases h
  | [_], h => cases h
  | _ :: _ :: _, h => cases h
def Fr (H H' : Hp) : Prop := ∀ b o, H b = some o → NotSt o → H' b = some o
section
variable {K : PySem.W.Frag} {H H' H1 H2 : Hp}
theorem Fr.refl (H : Hp) : Fr H H := fun _ _ h _ => h
theorem Fr.trans (a : Fr H H1) (b : Fr H1 H2) : Fr H H2 := fun c o h n => b c o (a c o h n) n
theorem Fr.same (a : Fr H H1) (b : Same H1 H2) : Fr H H2 := fun c o h n => b c o (a c o h n)
theorem Fr.of (a : Same H H1) : Fr H H1 := fun c o h _ => a c o h
theorem fr_at {g : Addr} {o : HO} (R : Fr H H') (h : H g = some o) (n : NotSt o) : H' g = some o := R g o h n
theorem same_at {g : Addr} {o : HO} (R : Same H H') (h : H g = some o) : H' g = some o := R g o h
theorem same_sq {a : Addr} {xs : List V} (R : Same H H') (h : SqL K H a xs) : SqL K H' a xs := R.seq h
theorem fr_sq {a : Addr} {ns : List Int} (R : Fr H H') (h : SqL K H a (ns.map V.int)) : SqL K H' a (ns.map V.int) := by
  rcases h with (h | ⟨o, h⟩) | h
  · exact .inl (.inl (R _ _ h nst_ints))
  · exact .inl (.inr ⟨o, R _ _ h nst_frz⟩)
  · exact .inr h
theorem sq_new {p a : Addr} {u : HO} {xs : List V} (np : H p = none) (h : SqL K H a xs) : SqL K (upd H p u) a xs := (same_new np).seq h
theorem fr_new {p : Addr} {u : HO} (np : H1 p = none) (h : Fr H H1) : Fr H (upd H1 p u) := fun b o e n => at_new np (h b o e n)
theorem sm_new {p : Addr} {u : HO} (np : H1 p = none) (h : Same H H1) : Same H (upd H1 p u) := fun b o e => at_new np (h b o e)
theorem Same.free {p : Addr} (h : Same H H1) (n : H1 p = none) : H p = none := by
  cases e : H p with
  | none => rfl
  | some o => rw [h p o e] at n; cases n
theorem r_pow {Q : VK} {i j : Int} (c : 0 ≤ j ∧ j ≤ 1000000 ∧ i.natAbs < 2 ^ 64) (k : Q (.int (i ^ j.toNat)) H) : rI CPow (fun i j => .int (i ^ j.toNat)) (.int i) (.int j) H Q := ⟨i, j, rfl, rfl, c, k⟩
theorem r_dec {Q : VK} {p : Prop} [Decidable p] {a : Hp} (k : Q (.bl (decide p)) a) : Q (.bl (decide p)) a := k
end
theorem map_at {α : Type} {f : α → V} {l : List α} {i : Nat} {y : V} (h : (l.map f)[i]? = some y) : ∃ z, l[i]? = some z ∧ y = f z := by
  rw [List.getElem?_map] at h
  cases e : l[i]? with
  | none => rw [e] at h; cases h
  | some z => rw [e] at h; exact ⟨z, rfl, (Option.some.inj h).symm⟩
theorem r_start {T : L2.St → Hp → Prop} {σ σ' : L2.St} {H : Hp} (e : σ = σ') (k : T σ' H) : T σ H := e ▸ k
theorem len_ok {n : Nat} (h : Nat.ble n 1000 = true) : n ≤ sizeLine := Nat.le_of_lt (small1000 (Nat.le_of_ble_eq_true h))
theorem r_lay {xs : List V} {R : Prop} (h : xs.length ≤ sizeLine) (k : R) : xs.length ≤ sizeLine ∧ R := ⟨h, k⟩
theorem r_setA {H : Hp} {p : Addr} {xs ys : List V} {i : Int} {j : Nat} {x : V} {G : Hp → Prop} (h : H p = some (.lst xs)) (e : ixN xs.length i = some j) (hy : xs.set j x = ys) (k : ∀ H', H' p = some (.lst ys) → (∀ b o, b ≠ p → H b = some o → H' b = some o) → G H') : rSetL (.ref p) (.int i) x H G :=
  r_setL h e (by rw [hy]; exact k _ upd_same fun b o n q => at_wr n q)
theorem r_appA {H : Hp} {Q : VK} {l : Addr} {xs : List V} {y : V} (h : H l = some (.lst xs)) (hz : xs.length < sizeLine) (k : ∀ H', H' l = some (.lst (xs ++ [y])) → (∀ b o, b ≠ l → H b = some o → H' b = some o) → Q .non H') : rAppend (.ref l) [y] H Q :=
  r_app h hz (k _ upd_same fun b o n q => at_wr n q)
theorem pickI {v : Int} (ns : List Int) (h0 : 0 ≤ v) (h1 : v < ns.length) : ∃ w, atI (ns.map V.int) v = some (.int w) ∧ w ∈ ns := by
  have h : v.toNat < ns.length := by omega
  exact ⟨ns[v.toNat], at_of (j := v.toNat) (by omega) (by rw [List.getElem?_map, List.getElem?_eq_getElem h]; rfl), List.getElem_mem h⟩
theorem pickN {v : Int} {n : Nat} (ns : List Int) (h0 : 0 ≤ v) (h1 : v < n) (h2 : n ≤ ns.length) : ∃ w, atI (ns.map V.int) v = some (.int w) ∧ w ∈ ns.take n := by
  have h : v.toNat < ns.length := by omega
  refine ⟨ns[v.toNat], at_of (j := v.toNat) (by omega) (by rw [List.getElem?_map, List.getElem?_eq_getElem h]; rfl), ?_⟩
  have h3 : v.toNat < (ns.take n).length := by rw [List.length_take]; omega
  have e : (ns.take n)[v.toNat] = ns[v.toNat] := List.getElem_take
  rw [← e]
  exact List.getElem_mem h3
theorem pick2 {v : Int} (a b : Int) (h0 : 0 ≤ v) (h1 : v < 2) : ∃ w, atI [V.int a, V.int b] v = some (.int w) ∧ (v = 0 ∧ w = a ∨ v = 1 ∧ w = b) := by
  have : v = 0 ∨ v = 1 := by omega
  rcases this with rfl | rfl
  · exact ⟨a, rfl, .inl ⟨rfl, rfl⟩⟩
  · exact ⟨b, rfl, .inr ⟨rfl, rfl⟩⟩
theorem pick3 {v : Int} (a b c : Int) (h0 : 0 ≤ v) (h1 : v < 3) : ∃ w, atI [V.int a, V.int b, V.int c] v = some (.int w) ∧ (v = 0 ∧ w = a ∨ v = 1 ∧ w = b ∨ v = 2 ∧ w = c) := by
  have : v = 0 ∨ v = 1 ∨ v = 2 := by omega
  rcases this with rfl | rfl | rfl
  · exact ⟨a, rfl, .inl ⟨rfl, rfl⟩⟩
  · exact ⟨b, rfl, .inr (.inl ⟨rfl, rfl⟩)⟩
  · exact ⟨c, rfl, .inr (.inr ⟨rfl, rfl⟩)⟩
theorem pick4 {v : Int} (a b c d : Int) (h0 : 0 ≤ v) (h1 : v < 4) : ∃ w, atI [V.int a, V.int b, V.int c, V.int d] v = some (.int w) ∧ (v = 0 ∧ w = a ∨ v = 1 ∧ w = b ∨ v = 2 ∧ w = c ∨ v = 3 ∧ w = d) := by
  have : v = 0 ∨ v = 1 ∨ v = 2 ∨ v = 3 := by omega
  rcases this with rfl | rfl | rfl | rfl
  · exact ⟨a, rfl, .inl ⟨rfl, rfl⟩⟩
  · exact ⟨b, rfl, .inr (.inl ⟨rfl, rfl⟩)⟩
  · exact ⟨c, rfl, .inr (.inr (.inl ⟨rfl, rfl⟩))⟩
  · exact ⟨d, rfl, .inr (.inr (.inr ⟨rfl, rfl⟩))⟩
theorem at_neg1 {xs : List V} {n : Nat} {v : V} (hl : xs.length = n + 1) (h : xs[n]? = some v) : atI xs (-1) = some v := by
  have e : ixN xs.length (-1) = some n := by
    unfold ixN
    rw [hl, if_neg (by decide), if_pos (by omega)]
    have : (-1 + ((n + 1 : Nat) : Int)).toNat = n := by omega
    rw [this]
  unfold atI
  rw [e]
  exact h
/-! ## comprehensions -/
def LcW (J : It) (g : TG) (tt : TT) (te : TE) (vs : List Nat) (σ : L2.St) (Q : VK) (D : Addr) (H1 : Hp) : Prop := ∃ W : Nat → Nat → Hp → Prop, (∃ m, W 0 m (upd H1 D (.lst []))) ∧ ∀ i m H, W i m H →
  (J.stop i H ∧ Q (.ref D) H) ∨ (J.go i H ∧ ∃ Nx : Hp → Prop, (∀ H', Nx H' → ∃ m', m' < m ∧ W (i + 1) m' H') ∧ ∀ x H', J.yld i H x H' → g x (wipe σ vs) H' fun σ2 H2 => wipe σ2 vs = wipe σ vs ∧ tt σ2 H2 fun b H3 =>
    if b = true then te σ2 H3 fun y H4 => ∃ acc, H4 D = some (.lst acc) ∧ acc.length < sizeLine ∧ Nx (upd H4 D (.lst (acc ++ [y]))) else Nx H3)
theorem r_lc {wi : TI} {g : TG} {tt : TT} {te : TE} {vs : List Nat} {σ : L2.St} {H : Hp} {Q : VK} (k : wi σ H fun J H1 => ∀ D, H1 D = none → LcW J g tt te vs σ Q D H1) : tLc wi g tt te vs σ H Q := k
theorem r_tYes {σ : L2.St} {H : Hp} {Q : Bool → Hp → Prop} (k : Q true H) : tYes σ H Q := k
section
variable {g : TG} {tt : TT} {te : TE} {vs : List Nat} {σ σw : L2.St} {Q : VK} {D : Addr} {H1 : Hp}
theorem lcw_range {lo : Int} {n : Nat} (Pv : Nat → Hp → Prop) (hw : wipe σ vs = σw) (h0 : Pv 0 (upd H1 D (.lst [])))
    (hs : ∀ i H, i < n → Pv i H → g (.int (lo + i)) σw H fun σ2 H2 => wipe σ2 vs = σw ∧ tt σ2 H2 fun b H3 =>
      if b = true then te σ2 H3 fun y H4 => ∃ acc, H4 D = some (.lst acc) ∧ acc.length < sizeLine ∧ Pv (i + 1) (upd H4 D (.lst (acc ++ [y]))) else Pv (i + 1) H3) (hd : ∀ H, Pv n H → Q (.ref D) H) : LcW (Itr lo n) g tt te vs σ Q D H1 := by
  subst hw
  exact lc_range Pv h0 hs hd
theorem lcw_list {K : PySem.W.Frag} {a : Addr} {xs : List V} (Pv : Nat → Hp → Prop) (hw : wipe σ vs = σw) (h0 : Pv 0 (upd H1 D (.lst []))) (hl : ∀ i H, i ≤ xs.length → Pv i H → SqL K H a xs)
    (hs : ∀ i x H, xs[i]? = some x → Pv i H → g x σw H fun σ2 H2 => wipe σ2 vs = σw ∧ tt σ2 H2 fun b H3 =>
      if b = true then te σ2 H3 fun y H4 => ∃ acc, H4 D = some (.lst acc) ∧ acc.length < sizeLine ∧ Pv (i + 1) (upd H4 D (.lst (acc ++ [y]))) else Pv (i + 1) H3) (hd : ∀ H, Pv xs.length H → Q (.ref D) H) : LcW (Itl K a) g tt te vs σ Q D H1 := by
  subst hw
  exact lc_list Pv h0 hl hs hd
end
/-- what the tail of a comprehension's turn asks, the heap behind it a letter -/
theorem lc_put {D : Addr} {acc : List V} {y : V} {H4 : Hp} {Nx : Hp → Prop} (h : H4 D = some (.lst acc)) (hz : acc.length < sizeLine) (k : ∀ H5, H5 D = some (.lst (acc ++ [y])) → (∀ b o, b ≠ D → H4 b = some o → H5 b = some o) → Nx H5) :
    ∃ acc, H4 D = some (.lst acc) ∧ acc.length < sizeLine ∧ Nx (upd H4 D (.lst (acc ++ [y]))) := ⟨acc, h, hz, k _ upd_same fun b o n q => at_wr n q⟩
/-! ## data in the heap -/
mutual
inductive Is (H : Hp) : V → PyData → Prop
  | non : Is H .non .none
  | bl (b : Bool) : Is H (.bl b) (.bool b)
  | int (i : Int) : Is H (.int i) (.int i)
  | str (x : Str) : Is H (.str x) (.str x)
  | lst {a : Addr} {xs : List V} {ds : List PyData} : H a = some (.lst xs) → IsAll H xs ds → Is H (.ref a) (.list ds)
  | tup {a : Addr} {xs : List V} {ds : List PyData} : H a = some (.tup xs) → IsAll H xs ds → Is H (.ref a) (.tuple ds)
inductive IsAll (H : Hp) : List V → List PyData → Prop
  | nil : IsAll H [] []
  | cons {v : V} {vs : List V} {d : PyData} {ds : List PyData} : Is H v d → IsAll H vs ds → IsAll H (v :: vs) (d :: ds)
end
mutual
theorem Is.dp {K : PySem.W.Frag} {H : Hp} : ∀ (d : PyData) (v : V), Is H v d → Dp K H v d
  | .none, _, h => by cases h; exact .non
  | .bool b, _, h => by cases h; exact .bl b
  | .int i, _, h => by cases h; exact .int i
  | .str x, _, h => by cases h; exact .str x
  | .list ds, _, h => by
    cases h with
    | lst a b => exact .lst (SqL.of a) (IsAll.dp ds _ b)
  | .tuple ds, _, h => by
    cases h with
    | tup a b => exact .tup (SqT.of a) (IsAll.dp ds _ b)
  | .dict _, _, h => by cases h
theorem IsAll.dp {K : PySem.W.Frag} {H : Hp} : ∀ (ds : List PyData) (vs : List V), IsAll H vs ds → DpAll K H vs ds
  | [], _, h => by cases h; exact .nil
  | d :: ds, _, h => by
    cases h with
    | cons a b => exact .cons (Is.dp d _ a) (IsAll.dp ds _ b)
end
mutual
theorem Is.mono {H H' : Hp} (R : Same H H') : ∀ (d : PyData) (v : V), Is H v d → Is H' v d
  | .none, _, h => by cases h; exact .non
  | .bool b, _, h => by cases h; exact .bl b
  | .int i, _, h => by cases h; exact .int i
  | .str x, _, h => by cases h; exact .str x
  | .list ds, _, h => by
    cases h with
    | lst a b => exact .lst (R _ _ a) (IsAll.mono R ds _ b)
  | .tuple ds, _, h => by
    cases h with
    | tup a b => exact .tup (R _ _ a) (IsAll.mono R ds _ b)
  | .dict _, _, h => by cases h
theorem IsAll.mono {H H' : Hp} (R : Same H H') : ∀ (ds : List PyData) (vs : List V), IsAll H vs ds → IsAll H' vs ds
  | [], _, h => by cases h; exact .nil
  | d :: ds, _, h => by
    cases h with
    | cons a b => exact .cons (Is.mono R d _ a) (IsAll.mono R ds _ b)
end
theorem IsAll.len {H : Hp} : ∀ {ds : List PyData} {vs : List V}, IsAll H vs ds → vs.length = ds.length
  | [], _, h => by cases h; rfl
  | d :: ds, _, h => by
    cases h with
    | cons a b =>
      show _ + 1 = _ + 1
      rw [IsAll.len b]
theorem IsAll.get {H : Hp} : ∀ {ds : List PyData} {vs : List V} {i : Nat}, IsAll H vs ds → i < ds.length → ∃ v d, vs[i]? = some v ∧ ds[i]? = some d ∧ Is H v d
  | [], _, _, _, h2 => by simp at h2
  | d :: ds, _, 0, h, _ => by
    cases h with
    | cons a b => exact ⟨_, d, rfl, rfl, a⟩
  | d :: ds, _, i + 1, h, h2 => by
    cases h with
    | cons a b =>
      obtain ⟨v, e, h1, h3, h4⟩ := IsAll.get (i := i) b (by simpa using h2)
      exact ⟨v, e, by simpa using h1, by simpa using h3, h4⟩
theorem IsAll.snoc {H : Hp} {v : V} {d : PyData} (h2 : Is H v d) : ∀ {ds : List PyData} {vs : List V}, IsAll H vs ds → IsAll H (vs ++ [v]) (ds ++ [d])
  | [], _, h => by cases h; exact .cons h2 .nil
  | e :: ds, _, h => by
    cases h with
    | cons a b => exact .cons a (IsAll.snoc h2 b)
theorem IsAll.ints {H : Hp} : ∀ ns : List Int, IsAll H (ns.map V.int) (ns.map PyData.int)
  | [] => .nil
  | n :: r => .cons (.int n) (IsAll.ints r)
/-- a pair of ints as data -/
def dPair (x : Int × Int) : PyData := .tuple [.int x.1, .int x.2]
theorem Is.pair {H : Hp} {a : Addr} {x : Int × Int} (h : H a = some (.tup [.int x.1, .int x.2])) : Is H (.ref a) (dPair x) := .tup h (.cons (.int _) (.cons (.int _) .nil))
def dInts (ns : List Int) : PyData := .list (ns.map PyData.int)
theorem Is.ints {H : Hp} {a : Addr} {ns : List Int} (h : H a = some (.lst (ns.map V.int))) : Is H (.ref a) (dInts ns) := .lst h (.ints ns)
/-- flat enough, and without dicts -/
def Fl (n : Nat) (d : PyData) : Prop := d.canLay0 = true ∧ d.depth ≤ n
theorem Fl.shaped {n : Nat} {d : PyData} (h : Fl n d) (hn : n ≤ 64) : SeqAt.shaped d = true := by
  unfold SeqAt.shaped
  rw [h.1]
  exact decide_eq_true (Nat.le_trans h.2 hn)
theorem fl_all {n : Nat} : ∀ {ds : List PyData}, (∀ d ∈ ds, Fl n d) → PyData.canLayAll0 ds = true ∧ PyData.depthAll ds ≤ n
  | [], _ => ⟨rfl, Nat.zero_le _⟩
  | d :: ds, h => by
    obtain ⟨a, b⟩ := fl_all (ds := ds) fun e he => h e (List.mem_cons_of_mem _ he)
    obtain ⟨c, e⟩ := h d List.mem_cons_self
    refine ⟨?_, ?_⟩
    · rw [PyData.canLayAll0, c, a]
      rfl
    · rw [PyData.depthAll]
      omega
theorem Fl.list {n : Nat} {ds : List PyData} (h : ∀ d ∈ ds, Fl n d) : Fl (n + 1) (.list ds) := by
  obtain ⟨a, b⟩ := fl_all h
  exact ⟨by rw [PyData.canLay0]; exact a, by rw [PyData.depth]; omega⟩
theorem Fl.tuple {n : Nat} {ds : List PyData} (h : ∀ d ∈ ds, Fl n d) : Fl (n + 1) (.tuple ds) := by
  obtain ⟨a, b⟩ := fl_all h
  exact ⟨by rw [PyData.canLay0]; exact a, by rw [PyData.depth]; omega⟩
theorem Fl.int (n : Nat) (i : Int) : Fl n (.int i) := ⟨by rw [PyData.canLay0], by rw [PyData.depth]; omega⟩
theorem Fl.bl (n : Nat) (i : Bool) : Fl n (.bool i) := ⟨by rw [PyData.canLay0], by rw [PyData.depth]; omega⟩
theorem Fl.non (n : Nat) : Fl n .none := ⟨by rw [PyData.canLay0], by rw [PyData.depth]; omega⟩
theorem Fl.pair (n : Nat) (x : Int × Int) : Fl (n + 1) (dPair x) := Fl.tuple fun d h => by
  simp at h
  rcases h with rfl | rfl <;> exact Fl.int _ _
theorem Fl.ints (n : Nat) (ns : List Int) : Fl (n + 1) (dInts ns) := Fl.list fun d h => by
  obtain ⟨i, _, rfl⟩ := List.mem_map.mp h
  exact Fl.int _ _
theorem Fl.pairs (n : Nat) (xs : List (Int × Int)) : Fl (n + 2) (.list (xs.map dPair)) := Fl.list fun d h => by
  obtain ⟨i, _, rfl⟩ := List.mem_map.mp h
  exact Fl.pair _ _
theorem Fl.mono {n m : Nat} {d : PyData} (h : Fl n d) (k : n ≤ m) : Fl m d := ⟨h.1, Nat.le_trans h.2 k⟩
theorem r_eqIs {K : PySem.W.Frag} {H : Hp} {Q : VK} {x y : V} {d : PyData} {n : Nat} (h1 : Is H x d) (h2 : Is H y d) (f : Fl n d) (k : Q (.bl true) H) (hn : n ≤ 64 := by decide) : rEqA K x y H Q := r_eqD (Is.dp d x h1) (Is.dp d y h2) (f.shaped hn) k
theorem r_neIs {K : PySem.W.Frag} {H : Hp} {Q : VK} {x y : V} {d : PyData} {n : Nat} (h1 : Is H x d) (h2 : Is H y d) (f : Fl n d) (k : Q (.bl false) H) (hn : n ≤ 64 := by decide) : rNeA K x y H Q := r_neD (Is.dp d x h1) (Is.dp d y h2) (f.shaped hn) k
/-! ## isinstance -/
def rIsiA (K : PySem.W.Frag) : List V → Hp → VK → Prop := fun xs H Q => rIsi K xs H Q ∨ rIsiT K xs H Q
/-- the class of a datum -/
def tyD : PyData → String
  | .none => "NoneType"
  | .bool _ => "bool"
  | .int _ => "int"
  | .str _ => "str"
  | .list _ => "list"
  | .tuple _ => "tuple"
  | .dict _ => "dict"
theorem Is.ty {K : PySem.W.Frag} {H : Hp} {v : V} {d : PyData} (h : Is H v d) : TyX K H v (.type (tyD d)) := by
  cases h with
  | non => exact .base .non
  | bl b => exact .base (.bl b)
  | int i => exact .base (.int i)
  | str x => exact .base (.str x)
  | lst a b => exact .base (.lst a)
  | tup a b => exact .base (.tup a)
theorem r_isi {K : PySem.W.Frag} {H : Hp} {Q : VK} {v : V} {T c : String} {b : Bool} (ty : TyX K H v (.type T)) (e : kitB T c = some b) (k : Q (.bl b) H) : rIsiA K [v, .ty c] H Q := .inl ⟨v, .ty c, .type T, .type c, b, rfl, .ty c, ty, kit_ty e, k⟩
theorem r_isi2 {K : PySem.W.Frag} {H : Hp} {Q : VK} {v : V} {t : Addr} {T c1 c2 : String} {b1 b2 : Bool} (ht : H t = some (.tup [.ty c1, .ty c2])) (ty : TyX K H v (.type T)) (e1 : kitB T c1 = some b1) (e2 : kitB T c2 = some b2) (k : Q (.bl (b1 || b2)) H) : rIsiA K [v, .ref t] H Q := by
  refine .inr ⟨v, t, [.ty c1, .ty c2], .type T, [.type c1, .type c2], b1 || b2, rfl, ht, .cons (.ty c1) (.cons (.ty c2) .nil), ty, ?_, k⟩
  refine kitAny_cons (kit_ty e1) (r := b1 || b2) (fun h => ?_) fun h => by rw [h]; rfl
  subst h
  refine kitAny_cons (kit_ty e2) (r := false || b2) (fun h => ?_) fun h => by rw [h]; rfl
  subst h
  exact kitAny_nil
theorem kcc_isi {X : Cx} {K : PySem.W.Frag} (h : X.K = K) : CallR X (.builtin "isinstance") (rIsiA K) := by subst h; exact CallR.or call_isi call_isiT
/-- where drawing stands -/
structure St (H : Hp) (st a : Addr) : Prop where
  ex : ∃ i m r : Int, H st = some (.lst [.ref a, .int i, .int m, .int r]) ∧ 0 ≤ i ∧ 0 ≤ m ∧ m < 2147483647 ∧ 0 ≤ r
theorem fr_st {H : Hp} {st : Addr} {a : Addr} {i m r : Int} {o : HO} (h : H st = some (.lst [.ref a, .int i, .int m, .int r])) : Fr H (upd H st o) := fun b u e n => by
  rw [upd_ne (fun q => by subst q; rw [h] at e; cases e; exact n _ _ _ _ rfl)]
  exact e
theorem St.same {H H' : Hp} {st a : Addr} (s : St H st a) (R : Same H H') : St H' st a := by
  obtain ⟨i, m, r, h, q⟩ := s.ex
  exact ⟨i, m, r, R _ _ h, q⟩
theorem St.new {H : Hp} {st a p : Addr} {u : HO} (s : St H st a) (np : H p = none) : St (upd H p u) st a := s.same (same_new np)
theorem St.ne {H : Hp} {st a p : Addr} {o : HO} (s : St H st a) (h : H p = some o) (n : NotSt o) : st ≠ p := by
  obtain ⟨i, m, r, e, q⟩ := s.ex
  exact ne_of e h fun z => n _ _ _ _ z.symm
theorem St.wr {H : Hp} {st a p : Addr} {o u : HO} (s : St H st a) (h : H p = some o) (n : NotSt o) : St (upd H p u) st a := by
  have ne := s.ne h n
  obtain ⟨i, m, r, e, q⟩ := s.ex
  exact ⟨i, m, r, by rw [upd_ne ne]; exact e, q⟩
theorem kpi_enum {X : Cx} {K : PySem.W.Frag} {e : Expr} {ta : TA} {p pos tpos : Pos} {elts : List Expr} {kk : Nat} (hK : X.K = K) (hg : Gl X "enumerate") (hm : X.mg "enumerate" = none) (ha : PA X [e] ta) (hs : starEach [e] X.env = [(false, eval e X.env)] := by rfl) :
    PI X (.Tuple elts kk tpos) (.Call (.Name "enumerate" p) [e] [] pos) (iEnum K ta) := by subst hK; exact pi_enum hg hm ha hs
theorem r_iEnum {K : PySem.W.Frag} {σ : L2.St} {H : Hp} {ta : TA} {R : It → Hp → Prop} (k : ta σ H fun vs H1 => ∃ a xs, vs = [.ref a] ∧ SqL K H1 a xs ∧ R (Ite K a) H1) : iEnum K ta σ H R := k
theorem fw_enum {K : PySem.W.Frag} {σ : L2.St} {H : Hp} {nn bb cc : L2.St → Hp → Prop} {rr : VK} {a : Addr} {xs : List V} {g : TG} {tb : TS} (Pv : Nat → L2.St → Hp → Prop) (h0 : Pv 0 σ H) (hl : ∀ i σ H, i ≤ xs.length → Pv i σ H → SqL K H a xs)
    (hs : ∀ i x σ H T, xs[i]? = some x → Pv i σ H → H T = none → g (.ref T) σ (upd H T (.tup [.int (i : Nat), x])) fun σ2 H2 => tb ⟨Pv (i + 1), rr, nn, Pv (i + 1)⟩ σ2 H2) (hd : ∀ σ H, Pv xs.length σ H → nn σ H) : ForW (Ite K a) g tb ⟨nn, rr, bb, cc⟩ σ H := by
  refine for_it (walk_enum (xs := xs)) Pv h0 hl (fun i x σ H H' hi p y => ?_) hd
  obtain ⟨T, u, v, rfl, nT, rfl, e1, e2⟩ := y
  cases e1
  exact hs i v σ H T e2 p nT
/-- == of two pairs of ints -/
theorem eqv_pair (x y : Int × Int) : PyData.eqv (dPair x) (dPair y) = decide (x = y) := by
  unfold dPair
  simp only [PyData.eqv, PyData.eqvAll, Bool.and_true]
  by_cases h : x = y
  · subst h
    simp
  · have : ¬ (x.1 = y.1 ∧ x.2 = y.2) := fun z => h (Prod.ext z.1 z.2)
    rw [decide_eq_false h]
    simp only [Bool.and_eq_false_iff, beq_eq_false_iff_ne]
    by_cases h1 : x.1 = y.1
    · exact .inr fun h2 => this ⟨h1, h2⟩
    · exact .inl h1
theorem r_eqPair {K : PySem.W.Frag} {H : Hp} {Q : VK} {a b : Addr} {x y : Int × Int} (h1 : H a = some (.tup [.int x.1, .int x.2])) (h2 : H b = some (.tup [.int y.1, .int y.2])) (k : Q (.bl (decide (x = y))) H) : rEqA K (.ref a) (.ref b) H Q :=
  .inr ⟨dPair x, dPair y, Is.dp _ _ (Is.pair h1), Is.dp _ _ (Is.pair h2), (Fl.pair 0 x).shaped (by decide), (Fl.pair 0 y).shaped (by decide), by rw [eqv_pair]; exact k⟩
theorem r_nePair {K : PySem.W.Frag} {H : Hp} {Q : VK} {a b : Addr} {x y : Int × Int} (h1 : H a = some (.tup [.int x.1, .int x.2])) (h2 : H b = some (.tup [.int y.1, .int y.2])) (k : Q (.bl (!decide (x = y))) H) : rNeA K (.ref a) (.ref b) H Q :=
  .inr ⟨dPair x, dPair y, Is.dp _ _ (Is.pair h1), Is.dp _ _ (Is.pair h2), (Fl.pair 0 x).shaped (by decide), (Fl.pair 0 y).shaped (by decide), by rw [eqv_pair]; exact k⟩
theorem r_sum {K : PySem.W.Frag} {H : Hp} {Q : VK} {a : Addr} {ns : List Int} (h : SqL K H a (ns.map V.int)) (k : Q (.int ns.sum) H) : rSum K [.ref a] H Q := ⟨a, ns, rfl, h, k⟩
theorem r_neSelf {K : PySem.W.Frag} {H : Hp} {Q : VK} {v : V} (h : v = .non ∨ ∃ i, v = .int i) (k : Q (.bl false) H) : rNeA K v v H Q := by
  rcases h with rfl | ⟨i, rfl⟩
  · exact .inl ⟨rfl, by rw [decide_eq_true rfl]; exact k⟩
  · exact r_neI (by rw [decide_eq_true rfl]; exact k)
theorem r_neNil {K : PySem.W.Frag} {H : Hp} {Q : VK} {a b : Addr} {ns : List Int} (h : H a = some (.lst (ns.map V.int))) (h2 : H b = some (.lst [])) (k : Q (.bl (!decide (ns = []))) H) : rNeA K (.ref a) (.ref b) H Q := by
  refine .inr ⟨dInts ns, .list [], Is.dp _ _ (Is.ints h), Is.dp _ _ (.lst h2 .nil), (Fl.ints 0 ns).shaped (by decide), (Fl.list (n := 0) (ds := []) (by simp)).shaped (by decide), ?_⟩
  have e : PyData.eqv (dInts ns) (.list []) = decide (ns = []) := by
    cases ns with
    | nil => simp [dInts, PyData.eqv, PyData.eqvAll]
    | cons n r => simp [dInts, PyData.eqv, PyData.eqvAll]
  rw [e]
  exact k
theorem cut_take {α : Type} (f : α → V) (ms : List α) {v : Int} (h0 : 0 ≤ v) : cutV (ms.map f) none (some v) = (ms.take v.toNat).map f := by
  obtain ⟨n, rfl⟩ : ∃ n : Nat, v = (n : Int) := ⟨v.toNat, by omega⟩
  unfold cutV
  rw [HT.sIx_nat, HT.sIx_none, List.drop_zero, Nat.sub_zero, Int.toNat_natCast, List.map_take]
  by_cases h : n ≤ (ms.map f).length
  · rw [Nat.min_eq_left h]
  · rw [Nat.min_eq_right (by omega), List.take_of_length_le (Nat.le_refl _), List.take_of_length_le (by omega)]
theorem cut_drop {α : Type} (f : α → V) (ms : List α) {v : Int} (h0 : 0 ≤ v) : cutV (ms.map f) (some v) none = (ms.drop v.toNat).map f := by
  obtain ⟨n, rfl⟩ : ∃ n : Nat, v = (n : Int) := ⟨v.toNat, by omega⟩
  unfold cutV
  rw [HT.sIx_nat, HT.sIx_none, Int.toNat_natCast, List.map_drop]
  by_cases h : n ≤ (ms.map f).length
  · rw [Nat.min_eq_left h, List.take_of_length_le (by rw [List.length_drop]; omega)]
  · rw [Nat.min_eq_right (by omega), Nat.sub_self, List.take_zero, List.drop_of_length_le (by omega)]
end Rd

/-! ## macros -/
local macro_rules | `(tactic| walk_at "nst") => `(tactic| first
  | exact Rd.nst_tup | exact Rd.nst_ints | exact Rd.nst_refs | exact Rd.nst_nil | exact Rd.nst_int | exact Rd.nst_cons | exact Rd.nst_frz | exact Rd.nst_ins | exact Rd.nst_own | assumption
  | (intro a i m r h; simp at h; done) | (intro a i m r h; cases h; done))
local macro_rules | `(tactic| walk_at "hp") => `(tactic| first
  | with_reducible assumption
  | with_reducible exact L2.upd_same
  | ((with_reducible refine' Rd.at_new ?hnp ?hup); (case hnp => with_reducible assumption); (case hup => walk_at "hp"))
  | ((with_reducible refine' Rd.same_at ?hsm ?hup); (case hsm => with_reducible assumption); (case hup => walk_at "hp"))
  | ((with_reducible refine' Rd.fr_at ?hsm ?hup ?hns); (case hsm => with_reducible assumption); (case hup => walk_at "hp"); (case hns => walk_at "nst"))
  | ((with_reducible refine' Rd.at_wr ?hne ?hup); (case hup => walk_at "hp"); (case hne => first | with_reducible assumption | (with_reducible refine' Ne.symm ?hne2; with_reducible assumption))))
local macro_rules | `(tactic| walk_at "sq") => `(tactic| first
  | with_reducible assumption
  | ((with_reducible refine' Rd.same_sq ?hsm ?hup); (case hsm => with_reducible assumption); (case hup => walk_at "sq"))
  | ((with_reducible refine' Rd.fr_sq ?hsm ?hup); (case hsm => with_reducible assumption); (case hup => walk_at "sq"))
  | ((with_reducible refine' Rd.sq_new ?hnp ?hup); (case hnp => with_reducible assumption); (case hup => walk_at "sq"))
  | ((with_reducible refine' L2.SqL.of ?hup); (case hup => walk_at "hp"))
  | ((with_reducible refine' L2.SqT.of ?hup); (case hup => walk_at "hp"))
  | ((with_reducible refine' Or.inl ?hup); (case hup => walk_at "sq"))
  | ((with_reducible refine' Or.inr ?hup); (case hup => walk_at "sq")))
local macro_rules | `(tactic| walk_at "ss") => `(tactic| first
  | with_reducible assumption
  | ((with_reducible refine' Rd.St.new ?hup ?hnp); (case hnp => with_reducible assumption); (case hup => walk_at "ss"))
  | ((with_reducible refine' Rd.St.same ?hup ?hsm); (case hsm => with_reducible assumption); (case hup => walk_at "ss")))
local macro_rules | `(tactic| walk_at "fr") => `(tactic| first
  | with_reducible assumption
  | with_reducible exact Rd.Fr.refl _
  | with_reducible exact L2.Same.refl _
  | ((with_reducible refine' Rd.fr_new ?hnp ?hup); (case hnp => first | with_reducible assumption | walk_at "no"); (case hup => walk_at "fr"))
  | ((with_reducible refine' Rd.sm_new ?hnp ?hup); (case hnp => first | with_reducible assumption | walk_at "no"); (case hup => walk_at "fr"))
  | ((with_reducible refine' Rd.Fr.trans ?hup ?hsm); (case hsm => with_reducible assumption); (case hup => walk_at "fr"))
  | ((with_reducible refine' Rd.Fr.same ?hup ?hsm); (case hsm => with_reducible assumption); (case hup => walk_at "fr"))
  | ((with_reducible refine' L2.Same.trans ?hup ?hsm); (case hsm => with_reducible assumption); (case hup => walk_at "fr")))
/-- one step -/
local macro_rules | `(tactic| walk_at "go1") => `(tactic| first
  | with_reducible refine Rd.r_v0 ?_ | with_reducible refine Rd.r_v1 ?_ | with_reducible refine Rd.r_v2 ?_ | with_reducible refine Rd.r_v3 ?_ | with_reducible refine Rd.r_v4 ?_ | with_reducible refine Rd.r_v5 ?_
  | with_reducible refine Rd.r_c ?_ | with_reducible refine Rd.r_op ?_ | with_reducible refine Rd.r_cons ?_ | with_reducible refine Rd.r_nil ?_
  | with_reducible refine Rd.r_I0 ?_ | with_reducible refine Rd.r_addI ?_ | with_reducible refine Rd.r_eqI ?_ | with_reducible refine Rd.r_neI ?_ | with_reducible refine Rd.r_eqB ?_ | with_reducible refine Rd.r_neB ?_
  | with_reducible refine Rd.r_seq ?_ | with_reducible refine Rd.r_asg ?_
  | with_reducible refine Rd.r_g0 ?_ | with_reducible refine Rd.r_g1 ?_ | with_reducible refine Rd.r_g2 ?_ | with_reducible refine Rd.r_g3 ?_ | with_reducible refine Rd.r_g4 ?_ | with_reducible refine Rd.r_g5 ?_
  | with_reducible refine Rd.r_ret ?_ | with_reducible refine Rd.r_retN ?_ | with_reducible refine Rd.r_ifS ?_ | with_reducible refine Rd.r_next ?_ | with_reducible refine Rd.r_drop ?_ | with_reducible refine Rd.r_break ?_ | with_reducible refine Rd.r_cont ?_
  | with_reducible refine Rd.r_test ?_ | with_reducible refine Rd.r_B ?_ | with_reducible refine Rd.r_bl ?_ | with_reducible refine Rd.r_and ?_ | with_reducible refine Rd.r_or ?_ | with_reducible refine Rd.r_not ?_
  | with_reducible refine Rd.r_andV ?_ | with_reducible refine Rd.r_orV ?_ | with_reducible refine Rd.r_notV ?_ | with_reducible refine Rd.r_if ?_ | with_reducible refine Rd.r_chain ?_ | with_reducible refine Rd.r_un ?_ | with_reducible refine Rd.r_U ?_
  | with_reducible refine Rd.r_cB ?_ | with_reducible refine Rd.r_call ?_ | with_reducible refine Rd.r_tup ?_ | with_reducible refine Rd.r_lst ?_
  | with_reducible refine Rd.r_sl ?_ | with_reducible refine Rd.r_noP ?_ | with_reducible refine Rd.r_part ?_ | with_reducible refine Rd.r_partI ?_ | with_reducible refine Rd.r_bm ?_ | with_reducible refine Rd.r_bm0 ?_
  | with_reducible refine Rd.r_for ?_ | with_reducible refine Rd.r_iList ?_ | with_reducible refine Rd.r_iRng1 ?_ | with_reducible refine Rd.r_iRng2 ?_ | with_reducible refine Rd.r_iEnum ?_
  | with_reducible refine Rd.r_lc ?_ | with_reducible refine Rd.r_tYes ?_
  | with_reducible refine Rd.r_max2 ?_ | with_reducible refine Rd.r_min2 ?_ | with_reducible refine Rd.r_abs ?_ | with_reducible refine Rd.r_intI ?_ | with_reducible refine Rd.r_intB ?_
  | with_reducible refine Rd.r_gCons ?_ | with_reducible refine Rd.r_gNil ?_ | with_reducible refine Rd.r_gSub ?_
  | ((with_reducible refine' Rd.r_ix ?hsq ?hat ?hk); (case hsq => walk_at "sq"); (case hat => first | rfl | assumption))
  | ((with_reducible refine' Rd.r_gTup ?hsq ?hat ?hk); (case hsq => walk_at "sq"); (case hat => rfl))
  | ((with_reducible refine' Rd.r_lenS ?hsq ?hk); (case hsq => walk_at "sq"); (intro hlenS))
  | ((with_reducible refine' Rd.r_lay ?hlen ?hk); (case hlen => exact Rd.len_ok rfl))
  | ((with_reducible refine' Rd.r_pow ?hpo ?hk); (case hpo => decide))
  | with_reducible refine Rd.r_v6 ?_ | with_reducible refine Rd.r_v7 ?_ | with_reducible refine Rd.r_v8 ?_ | with_reducible refine Rd.r_v9 ?_ | with_reducible refine Rd.r_v10 ?_ | with_reducible refine Rd.r_v11 ?_ | with_reducible refine Rd.r_v12 ?_ | with_reducible refine Rd.r_v13 ?_ | with_reducible refine Rd.r_v14 ?_ | with_reducible refine Rd.r_v15 ?_ | with_reducible refine Rd.r_v16 ?_ | with_reducible refine Rd.r_v17 ?_ | with_reducible refine Rd.r_v18 ?_ | with_reducible refine Rd.r_v19 ?_ | with_reducible refine Rd.r_v20 ?_ | with_reducible refine Rd.r_v21 ?_
  | with_reducible refine Rd.r_g6 ?_ | with_reducible refine Rd.r_g7 ?_ | with_reducible refine Rd.r_g8 ?_ | with_reducible refine Rd.r_g9 ?_ | with_reducible refine Rd.r_g10 ?_ | with_reducible refine Rd.r_g11 ?_ | with_reducible refine Rd.r_g12 ?_ | with_reducible refine Rd.r_g13 ?_ | with_reducible refine Rd.r_g14 ?_ | with_reducible refine Rd.r_g15 ?_ | with_reducible refine Rd.r_g16 ?_ | with_reducible refine Rd.r_g17 ?_ | with_reducible refine Rd.r_g18 ?_ | with_reducible refine Rd.r_g19 ?_ | with_reducible refine Rd.r_g20 ?_ | with_reducible refine Rd.r_g21 ?_)
local macro_rules | `(tactic| walk_at "go") => `(tactic| repeat walk_at "go1")

namespace Rd
open PySem L2
def top (i : Nat) : Stmt := PySem.Challenge.pw_stepgear_k03_whole_what_may_be.main.body.getD i (.Pass ⟨0, 0, 0, 0⟩)
abbrev s_need_gear : Stmt := top 7
theorem sc_need_gear : FnScope ["gear", "around", "play"] ["gear"] (defScope s_need_gear) := ⟨rfl, rfl, rfl, by decide +kernel, rfl, by decide +kernel, by decide +kernel⟩
theorem bo_need_gear : BindOk "need_gear" s_need_gear ["gear"] := fun _ _ _ _ _ _ us hl => match us, hl with | [_], _ => rfl
abbrev s_need_moves : Stmt := top 8
theorem sc_need_moves : FnScope ["moves"] ["moves"] (defScope s_need_moves) := ⟨rfl, rfl, rfl, by decide +kernel, rfl, by decide +kernel, by decide +kernel⟩
theorem bo_need_moves : BindOk "need_moves" s_need_moves ["moves"] := fun _ _ _ _ _ _ us hl => match us, hl with | [_], _ => rfl
abbrev s_behind : Stmt := top 9
theorem sc_behind : FnScope ["gear", "standing", "steps", "motor"] ["gear", "standing", "steps"] (defScope s_behind) := ⟨rfl, rfl, rfl, by decide +kernel, rfl, by decide +kernel, by decide +kernel⟩
theorem bo_behind : BindOk "behind" s_behind ["gear", "standing", "steps"] := fun _ _ _ _ _ _ us hl => match us, hl with | [_, _, _], _ => rfl
abbrev s_all_behind : Stmt := top 10
theorem sc_all_behind : FnScope ["gear", "standing", "moves", "found", "steps"] ["gear", "standing", "moves"] (defScope s_all_behind) := ⟨rfl, rfl, rfl, by decide +kernel, rfl, by decide +kernel, by decide +kernel⟩
theorem bo_all_behind : BindOk "all_behind" s_all_behind ["gear", "standing", "moves"] := fun _ _ _ _ _ _ us hl => match us, hl with | [_, _, _], _ => rfl
abbrev s_both_ends : Stmt := top 12
theorem sc_both_ends : FnScope ["gear", "moves", "low", "high"] ["gear", "moves"] (defScope s_both_ends) := ⟨rfl, rfl, rfl, by decide +kernel, rfl, by decide +kernel, by decide +kernel⟩
theorem bo_both_ends : BindOk "both_ends" s_both_ends ["gear", "moves"] := fun _ _ _ _ _ _ us hl => match us, hl with | [_, _], _ => rfl
abbrev s_known : Stmt := top 13
theorem sc_known : FnScope ["gear", "moves", "low", "high"] ["gear", "moves"] (defScope s_known) := ⟨rfl, rfl, rfl, by decide +kernel, rfl, by decide +kernel, by decide +kernel⟩
theorem bo_known : BindOk "known" s_known ["gear", "moves"] := fun _ _ _ _ _ _ us hl => match us, hl with | [_, _], _ => rfl
abbrev s_settled : Stmt := top 14
theorem sc_settled : FnScope ["gear", "moves", "number", "low", "high"] ["gear", "moves"] (defScope s_settled) := ⟨rfl, rfl, rfl, by decide +kernel, rfl, by decide +kernel, by decide +kernel⟩
theorem bo_settled : BindOk "settled" s_settled ["gear", "moves"] := fun _ _ _ _ _ _ us hl => match us, hl with | [_, _], _ => rfl
abbrev s_law_start : Stmt := top 16
theorem sc_law_start : FnScope ["_law_script", "_law_mixed", "_law_cell"] ["_law_script"] (defScope s_law_start) := ⟨rfl, rfl, rfl, by decide +kernel, rfl, by decide +kernel, by decide +kernel⟩
theorem bo_law_start : BindOk "_law_start" s_law_start ["_law_script"] := fun _ _ _ _ _ _ us hl => match us, hl with | [_], _ => rfl
abbrev s_law_drawn : Stmt := top 17
theorem sc_law_drawn : FnScope ["_law_state", "_law_many", "_law_found", "_law_cell"] ["_law_state", "_law_many"] (defScope s_law_drawn) := ⟨rfl, rfl, rfl, by decide +kernel, rfl, by decide +kernel, by decide +kernel⟩
theorem bo_law_drawn : BindOk "_law_drawn" s_law_drawn ["_law_state", "_law_many"] := fun _ _ _ _ _ _ us hl => match us, hl with | [_, _], _ => rfl
abbrev s_law_same : Stmt := top 18
theorem sc_law_same : FnScope ["_law_found", "_law_due", "_law_k"] ["_law_found", "_law_due"] (defScope s_law_same) := ⟨rfl, rfl, rfl, by decide +kernel, rfl, by decide +kernel, by decide +kernel⟩
theorem bo_law_same : BindOk "_law_same" s_law_same ["_law_found", "_law_due"] := fun _ _ _ _ _ _ us hl => match us, hl with | [_, _], _ => rfl
abbrev s_law_gear : Stmt := top 19
theorem sc_law_gear : FnScope ["_law_state", "_law_small", "_law_sorts", "_law_around", "_law_play"] ["_law_state", "_law_small"] (defScope s_law_gear) := ⟨rfl, rfl, rfl, by decide +kernel, rfl, by decide +kernel, by decide +kernel⟩
theorem bo_law_gear : BindOk "_law_gear" s_law_gear ["_law_state", "_law_small"] := fun _ _ _ _ _ _ us hl => match us, hl with | [_, _], _ => rfl
abbrev s_law_standing : Stmt := top 20
theorem sc_law_standing : FnScope ["_law_state", "_law_gear_here", "_law_far", "_law_motor"] ["_law_state", "_law_gear_here"] (defScope s_law_standing) := ⟨rfl, rfl, rfl, by decide +kernel, rfl, by decide +kernel, by decide +kernel⟩
theorem bo_law_standing : BindOk "_law_standing" s_law_standing ["_law_state", "_law_gear_here"] := fun _ _ _ _ _ _ us hl => match us, hl with | [_, _], _ => rfl
abbrev s_law_moves : Stmt := top 21
theorem sc_law_moves : FnScope ["_law_state", "_law_gear_here", "_law_most", "_law_found", "_law_k", "_law_size"] ["_law_state", "_law_gear_here", "_law_most"] (defScope s_law_moves) := ⟨rfl, rfl, rfl, by decide +kernel, rfl, by decide +kernel, by decide +kernel⟩
theorem bo_law_moves : BindOk "_law_moves" s_law_moves ["_law_state", "_law_gear_here", "_law_most"] := fun _ _ _ _ _ _ us hl => match us, hl with | [_, _, _], _ => rfl
abbrev s_law_behind : Stmt := top 22
theorem sc_law_behind : FnScope ["_law_gear_here", "_law_standing_here", "_law_steps", "_law_motor", "_law_shaft", "_law_free"] ["_law_gear_here", "_law_standing_here", "_law_steps"] (defScope s_law_behind) := ⟨rfl, rfl, rfl, by decide +kernel, rfl, by decide +kernel, by decide +kernel⟩
theorem bo_law_behind : BindOk "_law_behind" s_law_behind ["_law_gear_here", "_law_standing_here", "_law_steps"] := fun _ _ _ _ _ _ us hl => match us, hl with | [_, _, _], _ => rfl
abbrev s_law : Stmt := top 23
theorem sc_law : FnScope ["_law_script", "_law_state", "_law_turn", "_law_gear_here", "_law_moves_here", "_law_places", "_law_motor", "_law_first", "_law_k", "_law_handed", "_law_again", "_law_place"] ["_law_script"] (defScope s_law) := ⟨rfl, rfl, rfl, by decide +kernel, rfl, by decide +kernel, by decide +kernel⟩
theorem bo_law : BindOk "law" s_law ["_law_script"] := fun _ _ _ _ _ _ us hl => match us, hl with | [_], _ => rfl
end Rd

/-! ## list(zip(l1, l2)) -/
namespace ZpL
open PySem PySem.Spec PyProof.Rows
open Sem (wp)
def ZipO (h : Heap) (z TI TO : Addr) (f0 : Value) (f1 : Bool) : Prop :=
  h.get? z = some { cls := .type "zip", dict := none, data := .fields #[f0, .bool f1, .bool false, .ref TI, .ref TO], slots := #[] }
section
variable {prog : Program} {w : World} {A : Around} {E : Value → Shared → Prop} {s : Shared}
/-- the next pair where the last one is held elsewhere -/
theorem next_out {z TI TO i1 i2 l1 l2 T : Addr} {f1 : Bool} {oT : Obj} {k1 k2 : Nat} {xs ys : Array Value} {x y : Value} {Q : Value → Shared → Prop} (D : ZipApart z TI TO i1 i2 l1 l2)
    (hz : ZipO s.heap z TI TO (rawInt T) f1) (hT : s.heap.get? T = some oT) (hTI : IsPair s.heap TI (.ref i1) (.ref i2))
    (h1 : s.heap.IsListIter i1 l1 k1) (h2 : s.heap.IsListIter i2 l2 k2) (hl1 : s.heap.IsList l1 xs) (hl2 : s.heap.IsList l2 ys) (hx : xs[k1]? = some x) (hy : ys[k2]? = some y)
    (hQ : ∀ h', ZipO h' z TI TO (rawInt T) true → h'.IsListIter i1 l1 (k1 + 1) → h'.IsListIter i2 l2 (k2 + 1) → IsPair h' s.heap.objs.size x y → h'.objs.size = s.heap.objs.size + 1 →
      (∀ c o, c ≠ z → c ≠ i1 → c ≠ i2 → s.heap.get? c = some o → h'.get? c = some o) → Q (.ref s.heap.objs.size) { s with heap := h' }) :
    wpAny (model prog w) A (Builtin.«zip.__next__» ⟨[.ref z], []⟩) (fun fin s' => ∃ v, fin = .done (.ret v) ∧ Q v s') E s := by
  show wpAny _ _ (field (.ref z) 2 >>= _) _ _ _
  refine wpAny_bind (wpAny_field hz rfl (x := .bool false) rfl ?_)
  show wpAny _ _ (field (.ref z) 3 >>= _) _ _ _
  refine wpAny_bind (wpAny_field hz rfl (x := .ref TI) rfl ?_)
  refine wpAny_bind (wpAny_seqItems hTI rfl ?_)
  show wpAny _ _ (Builtin.SmallTypes.ownedTupleIsFree (.ref z) >>= _) _ _ _
  refine wpAny_bind ?_
  unfold Builtin.SmallTypes.ownedTupleIsFree
  refine wpAny_bind (wpAny_field hz rfl (x := rawInt T) rfl ?_)
  show wpAny _ _ (loadIfAlive (Int.toNat (T : Int)) >>= _) _ _ _
  refine wpAny_bind (PySem.W.kdx_alive (a := T) hT ?_)
  show wpAny _ _ (field (.ref z) 1 >>= _) _ _ _
  refine wpAny_bind (wpAny_field hz rfl (x := .bool f1) rfl ?_)
  refine wpAny_mono (Q := fun a s' => a = false ∧ ∃ h₁, s' = { s with heap := h₁ } ∧ ZipO h₁ z TI TO (rawInt T) true ∧ h₁.objs.size = s.heap.objs.size ∧ ∀ c o, c ≠ z → s.heap.get? c = some o → h₁.get? c = some o) ?_ (fun a s' hq => ?_) (fun _ _ x => x)
  · cases f1 with
    | true => exact wpAny_pure ⟨rfl, s.heap, rfl, hz, rfl, fun c o _ e => e⟩
    | false =>
      show wpAny _ _ (setField (.ref z) 1 (.bool true) >>= _) _ _ _
      refine wpAny_bind (wpAny_setField_rec hz (by simp) fun h₁ hz₁ hs₁ => ?_)
      exact wpAny_pure ⟨rfl, h₁, rfl, hz₁, hs₁.1, fun c o n e => hs₁.extBut _ _ n e⟩
  · obtain ⟨rfl, h₁, rfl, hz₁, z₁, k₁⟩ := hq
    simp only [List.forIn_toArray, List.forIn_cons, List.forIn_nil, Bool.false_eq_true, if_false]
    refine wpAny_bind (wpAny_bind (wpAny_bind (wpAny_holding ?_)))
    show wpAny _ _ (Builtin.SmallTypes.nextOf (.ref i1) >>= _) _ _ _
    refine wpAny_bind (wpAny_nextOf_list_item (h1.at fun o e => k₁ _ o D.i1z e) (hl1.at fun o e => k₁ _ o D.l1z e) hx fun h₂ h1₂ hs₂ => wpAny_pure ?_)
    refine wpAny_pure ?_
    refine wpAny_bind (wpAny_bind (wpAny_holding ?_))
    show wpAny _ _ (Builtin.SmallTypes.nextOf (.ref i2) >>= _) _ _ _
    have h2₂ : h₂.IsListIter i2 l2 k2 := (h2.at fun o e => k₁ _ o D.i2z e).extBut hs₂.extBut D.i12.symm
    have hl2₂ : h₂.IsList l2 ys := (hl2.at fun o e => k₁ _ o D.l2z e).extBut hs₂.extBut D.l2i1
    refine wpAny_bind (wpAny_nextOf_list_item h2₂ hl2₂ hy fun h₃ h2₃ hs₃ => wpAny_pure ?_)
    refine wpAny_pure (wpAny_pure ?_)
    show wpAny _ _ (newTuple [x, y] >>= _) _ _ _
    refine wpAny_bind (wpAny_newTuple ?_)
    have z₃ : h₃.objs.size = s.heap.objs.size := by rw [hs₃.1, hs₂.1, z₁]
    have k₃ : ∀ c o, c ≠ z → c ≠ i1 → c ≠ i2 → s.heap.get? c = some o → h₃.get? c = some o := fun c o n1 n2 n3 e => hs₃.extBut _ _ n3 (hs₂.extBut _ _ n2 (k₁ _ _ n1 e))
    have hz₃ : ZipO h₃ z TI TO (rawInt T) true := hs₃.extBut _ _ D.i2z.symm (hs₂.extBut _ _ D.i1z.symm hz₁)
    have h1₃ : h₃.IsListIter i1 l1 (k1 + 1) := h1₂.extBut hs₃.extBut D.i12
    have up : ∀ c o, h₃.get? c = some o → (h₃.push { cls := .type "tuple", data := .seq #[x, y] }).get? c = some o := fun c o e => Heap.get?_push_of_some _ e
    refine wpAny_pure ⟨_, rfl, ?_⟩
    show Q (.ref h₃.objs.size) _
    have q := hQ (h₃.push { cls := .type "tuple", data := .seq #[x, y] }) (up _ _ hz₃) (h1₃.at fun o e => up _ o e) (h2₃.at fun o e => up _ o e) (by
      have e := Heap.get?_push_size h₃ (o := { cls := .type "tuple", data := .seq #[x, y] }) rfl
      rw [z₃] at e
      exact e) (by rw [Heap.size_push, z₃]) fun c o n1 n2 n3 e => up _ _ (k₃ c o n1 n2 n3 e)
    rw [z₃]
    exact q
/-- the end where the last pair is held elsewhere -/
theorem end_out {z TI TO i1 i2 l1 l2 T : Addr} {f1 : Bool} {oT : Obj} {k1 : Nat} {xs : Array Value} {Q : Fin → Shared → Prop} (hh : A.handled = none) (D : ZipApart z TI TO i1 i2 l1 l2)
    (hz : ZipO s.heap z TI TO (rawInt T) f1) (hT : s.heap.get? T = some oT) (hTI : IsPair s.heap TI (.ref i1) (.ref i2))
    (h1 : s.heap.IsListIter i1 l1 k1) (hl1 : s.heap.IsList l1 xs) (hx : xs[k1]? = none)
    (hE : ∀ h' e, (∀ c o, c ≠ z → c ≠ i1 → s.heap.get? c = some o → h'.get? c = some o) → (∃ o, h'.get? e = some o ∧ o.cls = .type "StopIteration") → E (.ref e) { s with heap := h' }) :
    wpAny (model prog w) A (Builtin.«zip.__next__» ⟨[.ref z], []⟩) Q E s := by
  show wpAny _ _ (field (.ref z) 2 >>= _) _ _ _
  refine wpAny_bind (wpAny_field hz rfl (x := .bool false) rfl ?_)
  show wpAny _ _ (field (.ref z) 3 >>= _) _ _ _
  refine wpAny_bind (wpAny_field hz rfl (x := .ref TI) rfl ?_)
  refine wpAny_bind (wpAny_seqItems hTI rfl ?_)
  show wpAny _ _ (Builtin.SmallTypes.ownedTupleIsFree (.ref z) >>= _) _ _ _
  refine wpAny_bind ?_
  unfold Builtin.SmallTypes.ownedTupleIsFree
  refine wpAny_bind (wpAny_field hz rfl (x := rawInt T) rfl ?_)
  show wpAny _ _ (loadIfAlive (Int.toNat (T : Int)) >>= _) _ _ _
  refine wpAny_bind (PySem.W.kdx_alive (a := T) hT ?_)
  show wpAny _ _ (field (.ref z) 1 >>= _) _ _ _
  refine wpAny_bind (wpAny_field hz rfl (x := .bool f1) rfl ?_)
  refine wpAny_mono (Q := fun a s' => a = false ∧ ∃ h₁, s' = { s with heap := h₁ } ∧ ZipO h₁ z TI TO (rawInt T) true ∧ h₁.objs.size = s.heap.objs.size ∧ ∀ c o, c ≠ z → s.heap.get? c = some o → h₁.get? c = some o) ?_ (fun a s' hq => ?_) (fun _ _ x => x)
  · cases f1 with
    | true => exact wpAny_pure ⟨rfl, s.heap, rfl, hz, rfl, fun c o _ e => e⟩
    | false =>
      show wpAny _ _ (setField (.ref z) 1 (.bool true) >>= _) _ _ _
      refine wpAny_bind (wpAny_setField_rec hz (by simp) fun h₁ hz₁ hs₁ => ?_)
      exact wpAny_pure ⟨rfl, h₁, rfl, hz₁, hs₁.1, fun c o n e => hs₁.extBut _ _ n e⟩
  · obtain ⟨rfl, h₁, rfl, hz₁, z₁, k₁⟩ := hq
    simp only [List.forIn_toArray, List.forIn_cons, List.forIn_nil, Bool.false_eq_true, if_false]
    refine wpAny_bind (wpAny_bind (wpAny_bind (wpAny_holding ?_)))
    show wpAny _ _ (Builtin.SmallTypes.nextOf (.ref i1) >>= _) _ _ _
    refine wpAny_bind (wpAny_nextOf_list_end hh (h1.at fun o e => k₁ _ o D.i1z e) (hl1.at fun o e => k₁ _ o D.l1z e) hx fun h₂ e hs₂ he => ?_)
    exact hE h₂ e (fun c o n1 n2 e => hs₂ _ _ n2 (k₁ _ _ n1 e)) he
theorem pyNext_out {z TI TO i1 i2 l1 l2 T : Addr} {f1 : Bool} {oT : Obj} {k1 k2 : Nat} {xs ys : Array Value} {x y : Value} {Q : Option Value → Shared → Prop} (D : ZipApart z TI TO i1 i2 l1 l2)
    (hz : ZipO s.heap z TI TO (rawInt T) f1) (hT : s.heap.get? T = some oT) (hTI : IsPair s.heap TI (.ref i1) (.ref i2))
    (h1 : s.heap.IsListIter i1 l1 k1) (h2 : s.heap.IsListIter i2 l2 k2) (hl1 : s.heap.IsList l1 xs) (hl2 : s.heap.IsList l2 ys) (hx : xs[k1]? = some x) (hy : ys[k2]? = some y)
    (hQ : ∀ h', ZipO h' z TI TO (rawInt T) true → h'.IsListIter i1 l1 (k1 + 1) → h'.IsListIter i2 l2 (k2 + 1) → IsPair h' s.heap.objs.size x y → h'.objs.size = s.heap.objs.size + 1 →
      (∀ c o, c ≠ z → c ≠ i1 → c ≠ i2 → s.heap.get? c = some o → h'.get? c = some o) → Q (some (.ref s.heap.objs.size)) { s with heap := h' }) :
    wpAny (model prog w) A (pyNext (.ref z)) Q E s := by
  have hT' : s.TypeIs (.ref z) "zip" := ⟨_, hz, rfl⟩
  unfold pyNext
  exact wpAny_bind (wpAny_attempt (wpAny_callSpecial?_slot (name := Str.ofString "__next__") hT' F.slot_zip_next
    (wpAny_call_entry F.slot_zip_next hT' F.entry_zip_next
      (next_out D hz hT hTI h1 h2 hl1 hl2 hx hy fun h' a1 a2 a3 a4 a5 a6 => wpAny_pure (hQ h' a1 a2 a3 a4 a5 a6)) (F.args_zip_next_1 _))))
theorem pyNext_end {z TI TO i1 i2 l1 l2 T : Addr} {f1 : Bool} {oT : Obj} {k1 : Nat} {xs : Array Value} {Q : Option Value → Shared → Prop} (hh : A.handled = none) (D : ZipApart z TI TO i1 i2 l1 l2)
    (hz : ZipO s.heap z TI TO (rawInt T) f1) (hT : s.heap.get? T = some oT) (hTI : IsPair s.heap TI (.ref i1) (.ref i2))
    (h1 : s.heap.IsListIter i1 l1 k1) (hl1 : s.heap.IsList l1 xs) (hx : xs[k1]? = none)
    (hQ : ∀ h', (∀ c o, c ≠ z → c ≠ i1 → s.heap.get? c = some o → h'.get? c = some o) → Q none { s with heap := h' }) : wpAny (model prog w) A (pyNext (.ref z)) Q E s := by
  have hT' : s.TypeIs (.ref z) "zip" := ⟨_, hz, rfl⟩
  unfold pyNext
  refine wpAny_bind (wpAny_attempt (wpAny_callSpecial?_slot (name := Str.ofString "__next__") hT' F.slot_zip_next
    (wpAny_call_entry F.slot_zip_next hT' F.entry_zip_next (end_out hh D hz hT hTI h1 hl1 hx fun h' e hk he => ?_) (F.args_zip_next_1 _))))
  obtain ⟨o, ho, hc⟩ := he
  refine wpAny_bind (wpAny_isInstance (T := "StopIteration") (b := true) ⟨o, ho, hc⟩ isSubtype_stop ?_)
  exact wpAny_pure (hQ _ hk)
/-- the iterator behind i pairs, while the list at S is filled -/
structure ZSt (h : Heap) (z TI TO i1 i2 l1 l2 : Addr) (xs ys : Array Value) (i : Nat) (S : Addr) : Prop where
  ti : IsPair h TI (.ref i1) (.ref i2)
  it1 : h.IsListIter i1 l1 i
  it2 : h.IsListIter i2 l2 i
  ls1 : h.IsList l1 xs
  ls2 : h.IsList l2 ys
  zip : (i = 0 ∧ ZipO h z TI TO .none false ∧ ∃ a b, IsPair h TO a b) ∨ ∃ (T : Addr) (f1 : Bool) (oT : Obj), ZipO h z TI TO (rawInt T) f1 ∧ h.get? T = some oT ∧ T ≠ z ∧ T ≠ i1 ∧ T ≠ i2 ∧ T ≠ S
theorem ZSt.keep {h h' : Heap} {z TI TO i1 i2 l1 l2 S : Addr} {xs ys : Array Value} {i : Nat} (x : ZSt h z TI TO i1 i2 l1 l2 xs ys i S) (hk : ∀ b o, b ≠ S → h.get? b = some o → h'.get? b = some o)
    (n : z ≠ S ∧ TI ≠ S ∧ TO ≠ S ∧ i1 ≠ S ∧ i2 ≠ S ∧ l1 ≠ S ∧ l2 ≠ S) : ZSt h' z TI TO i1 i2 l1 l2 xs ys i S := by
  obtain ⟨n1, n2, n3, n4, n5, n6, n7⟩ := n
  refine ⟨hk _ _ n2 x.ti, x.it1.at fun o e => hk _ o n4 e, x.it2.at fun o e => hk _ o n5 e, x.ls1.at fun o e => hk _ o n6 e, x.ls2.at fun o e => hk _ o n7 e, ?_⟩
  rcases x.zip with ⟨e, a, b, c, d⟩ | ⟨T, f1, oT, a, b, c, d, e, f⟩
  · exact .inl ⟨e, hk _ _ n1 a, b, c, hk _ _ n3 d⟩
  · exact .inr ⟨T, f1, oT, hk _ _ n1 a, hk _ _ f b, c, d, e, f⟩
theorem zst_item {z TI TO i1 i2 l1 l2 S : Addr} {xs ys : Array Value} {i : Nat} {x y : Value} {Q : Option Value → Shared → Prop} (D : ZipApart z TI TO i1 i2 l1 l2) (hst : ZSt s.heap z TI TO i1 i2 l1 l2 xs ys i S) (hS : S < s.heap.objs.size)
    (hx : xs[i]? = some x) (hy : ys[i]? = some y)
    (hQ : ∀ h', ZSt h' z TI TO i1 i2 l1 l2 xs ys (i + 1) S → IsPair h' s.heap.objs.size x y → h'.objs.size = s.heap.objs.size + 1 →
      (∀ c o, c ≠ z → c ≠ TO → c ≠ i1 → c ≠ i2 → s.heap.get? c = some o → h'.get? c = some o) → Q (some (.ref s.heap.objs.size)) { s with heap := h' }) :
    wpAny (model prog w) A (pyNext (.ref z)) Q E s := by
  have lt : ∀ {c o}, s.heap.get? c = some o → s.heap.objs.size ≠ c := fun e => Nat.ne_of_gt (Heap.lt_size e)
  have l1' : s.heap.objs.size ≠ i1 := by obtain ⟨_, e, _⟩ := hst.it1; exact lt e
  have l2' : s.heap.objs.size ≠ i2 := by obtain ⟨_, e, _⟩ := hst.it2; exact lt e
  rcases hst.zip with ⟨e, a, b, c, d⟩ | ⟨T, f1, oT, a, b, c, d, e, f⟩
  · refine wpAny_pyNext_zip_item D a hst.ti d hst.it1 hst.it2 hst.ls1 hst.ls2 hx hy fun h' q1 q2 q3 q4 q5 q6 q7 => ?_
    refine hQ h' ⟨q7 _ _ D.TIz D.TITO D.TIi1 D.TIi2 hst.ti, q3, q4, hst.ls1.at fun o e => q7 _ o D.l1z D.l1TO D.l1i1 D.l1i2 e, hst.ls2.at fun o e => q7 _ o D.l2z D.l2TO D.l2i1 D.l2i2 e, ?_⟩ q5 q6 q7
    exact .inr ⟨_, false, _, q1, q5, lt a, l1', l2', Nat.ne_of_gt hS⟩
  · refine pyNext_out D a b hst.ti hst.it1 hst.it2 hst.ls1 hst.ls2 hx hy fun h' q1 q3 q4 q5 q6 q7 => ?_
    refine hQ h' ⟨q7 _ _ D.TIz D.TIi1 D.TIi2 hst.ti, q3, q4, hst.ls1.at fun o e => q7 _ o D.l1z D.l1i1 D.l1i2 e, hst.ls2.at fun o e => q7 _ o D.l2z D.l2i1 D.l2i2 e, ?_⟩ q5 q6 fun c o n1 _ n3 n4 e => q7 c o n1 n3 n4 e
    exact .inr ⟨T, true, oT, q1, q7 _ _ c d e b, c, d, e, f⟩
/-- the pairs that are made: new, rising, above lo -/
structure ZG (xs ys : Array Value) (lo : Addr) (h : Heap) (as : List Addr) : Prop where
  rise : as.Pairwise (· < ·)
  above : ∀ a ∈ as, lo < a
  pairs : ∀ (j : Nat) (a : Addr), as[j]? = some a → ∃ x y, xs[j]? = some x ∧ ys[j]? = some y ∧ IsPair h a x y
theorem ZG.there {xs ys : Array Value} {lo : Addr} {h : Heap} {as : List Addr} (g : ZG xs ys lo h as) {a : Addr} (ha : a ∈ as) : a < h.objs.size := by
  obtain ⟨j, hj⟩ := List.mem_iff_getElem?.mp ha
  obtain ⟨_, _, _, _, e⟩ := g.pairs j a hj
  exact Heap.lt_size e
end
section
variable {prog : Program} {w : World} {A : Around} {s : Shared} {R : Result → Shared → Prop}
theorem loop {z TI TO i1 i2 l1 l2 S : Addr} {xs ys : Array Value} (hh : A.handled = none) (D : ZipApart z TI TO i1 i2 l1 l2) (hxy : xs.size = ys.size) (hn0 : 0 < xs.size) (hn : xs.size ≤ sizeLine)
    (n : z ≠ S ∧ TI ≠ S ∧ TO ≠ S ∧ i1 ≠ S ∧ i2 ≠ S ∧ l1 ≠ S ∧ l2 ≠ S) (hlow : z < S ∧ TO < S ∧ i1 < S ∧ i2 < S) (res : Value) {h₁ : Heap}
    (hR : ∀ h' tk acc c as, (∀ b o, b ≠ S → b ≠ z → b ≠ TO → b ≠ i1 → b ≠ i2 → h₁.get? b = some o → h'.get? b = some o) → h'.get? S = some { cls := .type "list", dict := none, data := .seq acc c, slots := #[] } → as.length = xs.size → ZG xs ys S h' as →
      acc.toList = as.map Value.ref → R (.ok (.ret res)) { s with heap := h', toks := tk }) :
    ∀ (k i : Nat) (h : Heap) (tk c : Nat) (acc : Array Value) (as : List Addr), xs.size - i = k → i ≤ xs.size → ZSt h z TI TO i1 i2 l1 l2 xs ys i S → (∀ b o, b ≠ S → b ≠ z → b ≠ TO → b ≠ i1 → b ≠ i2 → h₁.get? b = some o → h.get? b = some o) →
      h.get? S = some { cls := .type "list", dict := none, data := .seq acc c, slots := #[] } → acc.toList = as.map Value.ref → as.length = i → ZG xs ys S h as →
      codeAny (model prog w) A (.builtin "list.extend.loop" ⟨[.ref S, .ref z, res], []⟩) R { s with heap := h, toks := tk } := by
  obtain ⟨n1, n2, n3, n4, n5, n6, n7⟩ := id n
  intro k
  induction k with
  | zero =>
    intro i h tk c acc as hk hi hst hkeep hS hacc hal hG
    have hin : i = xs.size := by omega
    refine codeAny_builtin PySem.F.entry_extend_loop ?_
    rw [Around.under_plainId PySem.F.plain_extend_loop _]
    show wpAny _ A.in1 (pyNext (.ref z) >>= _) _ _ _
    rcases hst.zip with ⟨e, _⟩ | ⟨T, f1, oT, a, b, _, _, _, _⟩
    · omega
    refine wpAny_bind (pyNext_end (s := { s with heap := h, toks := tk }) (A := A.in1) hh D a b hst.ti hst.it1 hst.ls1 (Array.getElem?_eq_none (by omega)) fun h' he => ?_)
    refine wpAny_pure (hR h' tk acc c as (fun b o q1 q2 q3 q4 q5 e => he b o q2 q4 (hkeep b o q1 q2 q3 q4 q5 e)) (he S _ (Ne.symm n1) (Ne.symm n4) hS) (by omega) ⟨hG.rise, hG.above, fun j a hj => ?_⟩ hacc)
    obtain ⟨x, y, e1, e2, e3⟩ := hG.pairs j a hj
    have hb := hG.above a (List.mem_of_getElem? hj)
    exact ⟨x, y, e1, e2, he a _ (Nat.ne_of_gt (Nat.lt_trans hlow.1 hb)) (Nat.ne_of_gt (Nat.lt_trans hlow.2.2.1 hb)) e3⟩
  | succ k ih =>
    intro i h tk c acc as hk hi hst hkeep hS hacc hal hG
    have hlt : i < xs.size := by omega
    obtain ⟨x, hx⟩ : ∃ p, xs[i]? = some p := ⟨xs[i], Array.getElem?_eq_getElem hlt⟩
    obtain ⟨y, hy⟩ : ∃ p, ys[i]? = some p := ⟨ys[i], Array.getElem?_eq_getElem (by omega)⟩
    have hsz : acc.size = i := by rw [← Array.length_toList, hacc, List.length_map, hal]
    have hSl : S < h.objs.size := Heap.lt_size hS
    refine codeAny_builtin PySem.F.entry_extend_loop ?_
    rw [Around.under_plainId PySem.F.plain_extend_loop _]
    show wpAny _ A.in1 (pyNext (.ref z) >>= _) _ _ _
    refine wpAny_bind (zst_item (s := { s with heap := h, toks := tk }) (S := S) D hst hSl hx hy fun h' hst' ht hz hkp => ?_)
    dsimp only at ht hz hkp ⊢
    have hS' := hkp S _ (Ne.symm n1) (Ne.symm n3) (Ne.symm n4) (Ne.symm n5) hS
    have up : ∀ b o, b ≠ S → h'.get? b = some o → (h'.update S (Obj.mapSeq (·.push (Value.ref h.objs.size)))).get? b = some o := fun b o hb e => (Heap.get?_update_other _ _ (Ne.symm hb)).trans e
    show wpAny _ A.in1 (updateSeq S (·.push (Value.ref h.objs.size)) >>= _) _ _ _
    refine wpAny_bind ?_
    refine wpAny_updateSeq hS' rfl (wpAny_pure ⟨plainId_quiet PySem.F.plain_extend_loop _, ih (i + 1) _ tk _ (acc.push (Value.ref h.objs.size)) (as ++ [h.objs.size]) (by omega) hlt (hst'.keep up n)
      (fun b o q1 q2 q3 q4 q5 e => up b o q1 (hkp b o q2 q3 q4 q5 (hkeep b o q1 q2 q3 q4 q5 e))) (Heap.get?_update_self _ hS' rfl) (by rw [Array.toList_push, hacc, List.map_append]; rfl) (by rw [List.length_append, hal]; rfl) ⟨?_, ?_, ?_⟩⟩) (by rw [hsz]; omega) (by show (acc.push (Value.ref h.objs.size)).size ≤ sizeLine + 1; rw [Array.size_push, hsz]; omega)
    · refine List.pairwise_append.mpr ⟨hG.rise, List.pairwise_singleton _ _, fun a ha b hb => ?_⟩
      rw [List.mem_singleton.mp hb]
      exact hG.there ha
    · intro a ha
      rcases List.mem_append.mp ha with ha | ha
      · exact hG.above a ha
      · rw [List.mem_singleton.mp ha]; exact hSl
    · intro j b hj
      rcases Nat.lt_trichotomy j as.length with h1 | h1 | h1
      · rw [List.getElem?_append_left h1] at hj
        obtain ⟨x', y', e1, e2, e3⟩ := hG.pairs j b hj
        have hb := hG.above b (List.mem_of_getElem? hj)
        exact ⟨x', y', e1, e2, up b _ (Nat.ne_of_gt hb) (hkp b _ (Nat.ne_of_gt (Nat.lt_trans hlow.1 hb)) (Nat.ne_of_gt (Nat.lt_trans hlow.2.1 hb)) (Nat.ne_of_gt (Nat.lt_trans hlow.2.2.1 hb)) (Nat.ne_of_gt (Nat.lt_trans hlow.2.2.2 hb)) e3)⟩
      · subst h1
        have hb : h.objs.size = b := by simpa using hj
        subst hb
        exact ⟨x, y, by rw [hal]; exact hx, by rw [hal]; exact hy, up _ _ (Nat.ne_of_gt hSl) ht⟩
      · have hnone : (as ++ [h.objs.size])[j]? = none := List.getElem?_eq_none (by rw [List.length_append, List.length_singleton]; omega)
        rw [hnone] at hj; cases hj
end
theorem zip_len : typeLookup (.type "zip") "__len__" = pure none := by rw [typeLookup_type, builtinLookup_eq_fast]; kernel_rfl
theorem zip_hint : typeLookup (.type "zip") "__length_hint__" = pure none := by rw [typeLookup_type, builtinLookup_eq_fast]; kernel_rfl
section
variable {prog : Program} {w : World} {A : Around} {E : Value → Shared → Prop} {s : Shared}
theorem hint {r : Addr} (hT : s.TypeIs (.ref r) "zip") {Q : Bool → Shared → Prop} (h : Q true s) : wpAny (model prog w) A (Builtin.List.listLengthHint (.ref r)) Q E s := by
  unfold Builtin.List.listLengthHint
  refine wpAny_bind (wpAny_specialOf hT zip_len ?_)
  refine wpAny_bind (wpAny_specialOf hT zip_hint ?_)
  exact wpAny_pure h
end
section
variable {prog : Program} {w : World} {A : Around} {E : Value → Shared → Prop} {s : Shared} {z TI TO i1 i2 l1 l2 : Addr} {xs ys : Array Value}
theorem extend {R : Result → Shared → Prop} {S : Addr} (hh : A.handled = none) (D : ZipApart z TI TO i1 i2 l1 l2) (hxy : xs.size = ys.size) (hn0 : 0 < xs.size) (hn : xs.size ≤ sizeLine)
    (n : z ≠ S ∧ TI ≠ S ∧ TO ≠ S ∧ i1 ≠ S ∧ i2 ≠ S ∧ l1 ≠ S ∧ l2 ≠ S) (hlow : z < S ∧ TO < S ∧ i1 < S ∧ i2 < S) (res : Value) (c₀ : Nat) (hz : ZipO s.heap z TI TO .none false)
    (hst : ZSt s.heap z TI TO i1 i2 l1 l2 xs ys 0 S) (hS : s.heap.get? S = some { cls := .type "list", data := .seq #[] c₀ })
    (hR : ∀ h' tk acc c as, (∀ b o, b ≠ S → b ≠ z → b ≠ TO → b ≠ i1 → b ≠ i2 → s.heap.get? b = some o → h'.get? b = some o) → h'.get? S = some { cls := .type "list", dict := none, data := .seq acc c, slots := #[] } → as.length = xs.size → ZG xs ys S h' as →
      acc.toList = as.map Value.ref → R (.ok (.ret res)) { s with heap := h', toks := tk }) :
    wpAny (model prog w) A.in1 (Builtin.List.listExtendWith (.ref S) (.ref z) res)
      (fun fin s' => match fin with | .done f => R (.ok f) s' | .again c' => c'.quiet = true ∧ codeAny (model prog w) A c' R s') (fun e s' => R (.error e) s') s := by
  have hT : s.TypeIs (.ref z) "zip" := ⟨_, hz, rfl⟩
  have key : ∀ (h : Heap) (c₁ tk : Nat), (∀ b o, b ≠ S → s.heap.get? b = some o → h.get? b = some o) → h.get? S = some { cls := .type "list", data := .seq #[] c₁ } →
      codeAny (model prog w) A (.builtin "list.extend.loop" ⟨[.ref S, .ref z, res], []⟩) R { s with heap := h, toks := tk } := by
    intro h c₁ tk hk hS₁
    refine loop (s := s) (h₁ := s.heap) hh D hxy hn0 hn n hlow res hR xs.size 0 h tk c₁ #[] [] (Nat.sub_zero _) (Nat.zero_le _) (hst.keep hk n) (fun b o q _ _ _ _ e => hk b o q e) hS₁ rfl rfl
      ⟨List.Pairwise.nil, (fun _ ha => nomatch ha), (fun j a hj => by simp at hj)⟩
  unfold Builtin.List.listExtendWith
  refine wpAny_bind (wpAny_typeOf (T := "zip") hT ?_)
  have h1 : Builtin.List.listSameRef (.ref S) (.ref z) = false := by simp [Builtin.List.listSameRef, Ne.symm n.1]
  have h2 : (Value.type "zip" == Value.type "list") = false := by decide
  have h3 : (Value.type "zip" == Value.type "tuple") = false := by decide
  simp only [h1, h2, h3, Bool.or_false, Bool.false_eq_true, if_false]
  refine wpAny_bind (wpAny_pyIter_zip hz ?_)
  refine wpAny_bind (wpAny_holding (hint hT ?_))
  refine wpAny_ite_split (fun _ => ?_) (fun _ => wpAny_pure ⟨plainId_quiet PySem.F.plain_extend_loop _, key _ c₀ _ (fun b o _ e => e) hS⟩)
  refine wpAny_bind (wpAny_rule ?_)
  refine wpAny_bind ?_
  show wpAny _ _ (updateSeq S (·.push .none) >>= fun _ => updateSeq S (·.pop)) _ _ _
  refine wpAny_bind (wpAny_updateSeq hS rfl ?_)
  have hS₂ := Heap.get?_update_self (Obj.mapSeq (·.push Value.none)) hS rfl
  refine wpAny_updateSeq (hz := by seq_fits) hS₂ rfl ?_
  have hS₃ := Heap.get?_update_self (Obj.mapSeq (·.pop)) hS₂ rfl
  refine wpAny_pure ⟨plainId_quiet PySem.F.plain_extend_loop _, key _ _ _ (fun b o hb e => ?_) hS₃⟩
  exact (Heap.get?_update_other _ _ (Ne.symm hb)).trans ((Heap.get?_update_other _ _ (Ne.symm hb)).trans e)
theorem init {R : Result → Shared → Prop} {S : Addr} (hh : A.handled = none) (D : ZipApart z TI TO i1 i2 l1 l2) (hxy : xs.size = ys.size) (hn0 : 0 < xs.size) (hn : xs.size ≤ sizeLine)
    (n : z ≠ S ∧ TI ≠ S ∧ TO ≠ S ∧ i1 ≠ S ∧ i2 ≠ S ∧ l1 ≠ S ∧ l2 ≠ S) (hlow : z < S ∧ TO < S ∧ i1 < S ∧ i2 < S) (hz : ZipO s.heap z TI TO .none false)
    (hst : ZSt s.heap z TI TO i1 i2 l1 l2 xs ys 0 S) (hS : s.heap.get? S = some { cls := .type "list", data := .seq #[] })
    (hR : ∀ h' tk acc c as, (∀ b o, b ≠ S → b ≠ z → b ≠ TO → b ≠ i1 → b ≠ i2 → s.heap.get? b = some o → h'.get? b = some o) → h'.get? S = some { cls := .type "list", dict := none, data := .seq acc c, slots := #[] } → as.length = xs.size → ZG xs ys S h' as →
      acc.toList = as.map Value.ref → R (.ok (.ret .none)) { s with heap := h', toks := tk }) :
    wpAny (model prog w) A.in1 (Builtin.«list.__init__» ⟨[.ref S, .ref z], []⟩)
      (fun fin s' => match fin with | .done f => R (.ok f) s' | .again c' => c'.quiet = true ∧ codeAny (model prog w) A c' R s') (fun e s' => R (.error e) s') s := by
  show wpAny _ _ (do let old ← Builtin.List.listItems (.ref S); Builtin.List.listUpdate (.ref S) (fun _ => #[]); letGo old.toList.reverse; Builtin.List.listExtendWith (.ref S) (.ref z) .none) _ _ s
  refine wpAny_bind ?_
  unfold Builtin.List.listItems
  refine wpAny_bind (wpAny_seqItems hS rfl (wpAny_pure ?_))
  show wpAny _ _ (updateSeq S (fun _ => #[]) >>= fun _ => letGo (#[] : Array Value).toList.reverse >>= fun _ => Builtin.List.listExtendWith (.ref S) (.ref z) .none) _ _ s
  refine wpAny_bind (wpAny_updateSeq hS rfl ?_)
  have hS₂ := Heap.get?_update_self (Obj.mapSeq (fun _ => (#[] : Array Value))) hS rfl
  have oth : ∀ b o, b ≠ S → s.heap.get? b = some o → (s.heap.update S (Obj.mapSeq (fun _ => (#[] : Array Value)))).get? b = some o :=
    fun b o hb e => (Heap.get?_update_other _ _ (Ne.symm hb)).trans e
  refine wpAny_bind (wpAny_letGo ?_)
  exact extend hh D hxy hn0 hn n hlow .none _ (oth _ _ n.1 hz) (hst.keep oth n) hS₂ (fun h' tk acc c as hk hS' hl hG hacc => hR h' tk acc c as (fun b o q1 q2 q3 q4 q5 e => hk b o q1 q2 q3 q4 q5 (oth b o q1 e)) hS' hl hG hacc)
theorem call_list_zip {Q : Value → Shared → Prop} (hh : A.handled = none) (D : ZipApart z TI TO i1 i2 l1 l2) (hxy : xs.size = ys.size) (hn0 : 0 < xs.size) (hn : xs.size ≤ sizeLine) (hz : ZipO s.heap z TI TO .none false)
    (hst : ∀ S, s.heap.objs.size ≤ S → ZSt s.heap z TI TO i1 i2 l1 l2 xs ys 0 S)
    (hQ : ∀ h' tk acc c as, (∀ b o, b ≠ z → b ≠ TO → b ≠ i1 → b ≠ i2 → s.heap.get? b = some o → h'.get? b = some o) → h'.get? s.heap.objs.size = some { cls := .type "list", dict := none, data := .seq acc c, slots := #[] } → as.length = xs.size → ZG xs ys s.heap.objs.size h' as →
      acc.toList = as.map Value.ref → Q (.ref s.heap.objs.size) { s with heap := h', toks := tk }) :
    wpAny (model prog w) A (call (.type "list") [.ref z]) Q E s := by
  refine PySem.callType_codes (Q₁ := fun obj s₁ => obj = .ref s.heap.objs.size ∧ s₁ = { s with heap := s.heap.push { cls := .type "list", data := .seq #[] } }) PySem.F.called_list (PySem.F.typeCall_list_1 _) PySem.F.entry_list_init
    (code_list_new _ ⟨rfl, rfl⟩) fun obj s₁ h₁ => ?_
  obtain ⟨rfl, rfl⟩ := h₁
  have hS : (s.heap.push { cls := .type "list", data := .seq #[] }).get? s.heap.objs.size = some { cls := .type "list", data := .seq #[] } := Heap.get?_push_size _ rfl
  have st := hst s.heap.objs.size (Nat.le_refl _)
  have lz : z < s.heap.objs.size := Heap.lt_size hz
  have lTI : TI < s.heap.objs.size := Heap.lt_size st.ti
  have li1 : i1 < s.heap.objs.size := by obtain ⟨_, e, _⟩ := st.it1; exact Heap.lt_size e
  have li2 : i2 < s.heap.objs.size := by obtain ⟨_, e, _⟩ := st.it2; exact Heap.lt_size e
  have ll1 : l1 < s.heap.objs.size := by obtain ⟨_, e, _⟩ := st.ls1; exact Heap.lt_size e
  have ll2 : l2 < s.heap.objs.size := by obtain ⟨_, e, _⟩ := st.ls2; exact Heap.lt_size e
  have lTO : TO < s.heap.objs.size := by
    rcases st.zip with ⟨_, _, a, b, e⟩ | ⟨T, f1, oT, a, _⟩
    · exact Heap.lt_size e
    · have a' := hz.symm.trans a
      cases a'
  have up : ∀ b o, b ≠ s.heap.objs.size → s.heap.get? b = some o → (s.heap.push { cls := .type "list", data := .seq #[] }).get? b = some o := fun b o _ e => Heap.get?_push_of_some _ e
  have n := (⟨Nat.ne_of_lt lz, Nat.ne_of_lt lTI, Nat.ne_of_lt lTO, Nat.ne_of_lt li1, Nat.ne_of_lt li2, Nat.ne_of_lt ll1, Nat.ne_of_lt ll2⟩ : z ≠ s.heap.objs.size ∧ TI ≠ s.heap.objs.size ∧ TO ≠ s.heap.objs.size ∧ i1 ≠ s.heap.objs.size ∧ i2 ≠ s.heap.objs.size ∧ l1 ≠ s.heap.objs.size ∧ l2 ≠ s.heap.objs.size)
  refine ⟨⟨_, hS, rfl⟩, PySem.F.args_list_init_2 _ _, init (A := A.in1) hh D hxy hn0 hn n ⟨lz, lTO, li1, li2⟩ (Heap.get?_push_of_some _ hz) (st.keep up n) hS (fun h' tk acc c as hk hS' hl hG hacc => ?_)⟩
  exact ⟨rfl, hQ h' tk acc c as (fun b o q1 q2 q3 q4 e => hk b o (Nat.ne_of_lt (Heap.lt_size e)) q1 q2 q3 q4 (Heap.get?_push_of_some _ e)) hS' hl hG hacc⟩
end
end ZpL
namespace Rd
open PySem PySem.Spec PyProof.Rows L2
/-- pairs laid at their addresses -/
def putP : Hp → List Addr → List (V × V) → Hp
  | H, a :: as, p :: ps => putP (upd H a (.tup [p.1, p.2])) as ps
  | H, _, _ => H
theorem putP_off {b : Addr} : ∀ (as : List Addr) (ps : List (V × V)) (H : Hp), b ∉ as → putP H as ps b = H b
  | [], _, _, _ => rfl
  | _ :: _, [], _, _ => rfl
  | a :: as, p :: ps, H, h => by
    show putP (upd H a (.tup [p.1, p.2])) as ps b = H b
    rw [putP_off as ps _ (fun z => h (List.mem_cons_of_mem _ z)), upd_ne (fun z => h (by rw [z]; exact List.mem_cons_self))]
theorem putP_at : ∀ (as : List Addr) (ps : List (V × V)) (H : Hp), as.length = ps.length → as.Nodup → ∀ (i : Nat) (a : Addr) (p : V × V), as[i]? = some a → ps[i]? = some p → putP H as ps a = some (.tup [p.1, p.2])
  | [], _, _, _, _, _, _, _, h1, _ => by simp at h1
  | _ :: _, [], _, _, _, _, _, _, _, h2 => by simp at h2
  | a :: as, q :: ps, H, h, hn, i, b, p, h1, h2 => by
    have hn' := List.nodup_cons.mp hn
    show putP (upd H a (.tup [q.1, q.2])) as ps b = _
    cases i with
    | zero =>
      cases h1
      cases h2
      rw [putP_off as ps _ hn'.1, upd_same]
    | succ i => exact putP_at as ps _ (Nat.succ.inj h) hn'.2 i b p (by simpa using h1) (by simpa using h2)
/-- what list(zip(..)) tells of two lists of one length, not empty -/
def rListZip (K : PySem.W.Frag) : V → V → Hp → VK → Prop := fun x y H Q => ∃ (l1 l2 : Addr) (xs ys : List V), x = .ref l1 ∧ y = .ref l2 ∧ SqL K H l1 xs ∧ SqL K H l2 ys ∧ xs.length = ys.length ∧ 0 < xs.length ∧
  ∀ (H' : Hp) (p : Addr) (ts : List Addr), Same H H' → H p = none → H' p = some (.lst (ts.map V.ref)) → ts.length = xs.length →
    (∀ (i : Nat) (t : Addr) (u v : V), ts[i]? = some t → xs[i]? = some u → ys[i]? = some v → H' t = some (.tup [u, v])) → Q (.ref p) H'
def tListZip (K : PySem.W.Frag) (ta tb : TE) : TE := fun σ H Q => ta σ H fun x H1 => tb σ H1 fun y H2 => rListZip K x y H2 Q
theorem r_listZip {K : PySem.W.Frag} {ta tb : TE} {σ : L2.St} {H : Hp} {Q : VK} (k : ta σ H fun x H1 => tb σ H1 fun y H2 => rListZip K x y H2 Q) : tListZip K ta tb σ H Q := k
section
variable {X : Cx} {e e2 : Expr} {ta tb : TE} {p p2 cpos pos : Pos}
theorem zip_laid {pins : List (Addr × Obj)} {σ : L2.St} {H : Hp} {s : Shared} {h' : Heap} {tk : Nat} {xs ys : List V} {us ws : List Value} {acc : Array Value} {c : Nat} {as : List Addr} {S : Addr} (I : Inv X pins σ H s)
    (rx : Vals xs us) (ry : Vals ys ws) (hxy : xs.length = ys.length) (hz : xs.length ≤ sizeLine) (hk : ∀ b o, s.heap.get? b = some o → h'.get? b = some o) (hlo : s.heap.objs.size ≤ S)
    (hS : h'.get? S = some { cls := .type "list", dict := none, data := .seq acc c, slots := #[] }) (hl : as.length = us.toArray.size) (hG : ZpL.ZG us.toArray ws.toArray S h' as) (hacc : acc.toList = as.map Value.ref) :
    ∃ H' : Hp, Same H H' ∧ H S = none ∧ H' S = some (.lst (as.map V.ref)) ∧ as.length = xs.length ∧ (∀ (i : Nat) (t : Addr) (u v : V), as[i]? = some t → xs[i]? = some u → ys[i]? = some v → H' t = some (.tup [u, v])) ∧ Inv X pins σ H' { s with heap := h', toks := tk } := by
  have lx : xs.length = us.length := Paired.length rx
  have la : as.length = xs.length := by rw [hl, lx]; simp
  have hSn : S ∉ as := fun z => Nat.lt_irrefl _ (hG.above _ z)
  have nd : as.Nodup := List.Pairwise.imp (fun {a b} (h : a < b) => Nat.ne_of_lt h) hG.rise
  have new : ∀ t ∈ as, H t = none := fun t ht => I.hok.fresh (Nat.le_trans hlo (Nat.le_of_lt (hG.above t ht)))
  have newS : H S = none := I.hok.fresh hlo
  have lz : (xs.zip ys).length = xs.length := by rw [List.length_zip]; omega
  have atP := putP_at as (xs.zip ys) (upd H S (.lst (as.map V.ref))) (by omega) nd
  have off : ∀ b, b ∉ as → b ≠ S → putP (upd H S (.lst (as.map V.ref))) as (xs.zip ys) b = H b := fun b h1 h2 => by rw [putP_off as _ _ h1, upd_ne h2]
  have low : ∀ b o, s.heap.get? b = some o → b ∉ as ∧ b ≠ S := fun b o e =>
    ⟨fun z => absurd (Heap.lt_size e) (Nat.not_lt.mpr (Nat.le_trans hlo (Nat.le_of_lt (hG.above b z)))), Nat.ne_of_lt (Nat.lt_of_lt_of_le (Heap.lt_size e) hlo)⟩
  have kp : ∀ b u, H b = some u → (putP (upd H S (.lst (as.map V.ref))) as (xs.zip ys)) b = some u := fun b u e => by
    rw [off b (fun z => by rw [new b z] at e; cases e) (fun z => by rw [z, newS] at e; cases e)]
    exact e
  have eS : putP (upd H S (.lst (as.map V.ref))) as (xs.zip ys) S = some (.lst (as.map V.ref)) := by rw [putP_off as _ _ hSn, upd_same]
  have prs : ∀ (i : Nat) (t : Addr) (u v : V), as[i]? = some t → xs[i]? = some u → ys[i]? = some v → putP (upd H S (.lst (as.map V.ref))) as (xs.zip ys) t = some (.tup [u, v]) := fun i t u v h1 h2 h3 =>
    atP i t (u, v) h1 (by rw [List.getElem?_zip_eq_some]; exact ⟨h2, h3⟩)
  refine ⟨putP (upd H S (.lst (as.map V.ref))) as (xs.zip ys), kp, newS, eS, la, prs, ?_⟩
  refine I.call' (ch := []) rfl ⟨fun b o q _ _ _ => hk b o q, fun b o q _ _ _ => ⟨o.slots, hk b o q⟩, fun b o q n _ => ?_, fun b o q _ => ⟨o, hk b o q⟩, fun b xs q => kp b _ q, fun b o u q => kp b _ q, fun b ps q => ⟨#[], by rw [kp b _ q]; simp⟩⟩ (fun b u q => ?_) I.bare fun b z => by simp at z
  · obtain ⟨z1, z2⟩ := low b o q
    rw [off b z1 z2]
    exact n
  · by_cases hb : b ∈ as
    · obtain ⟨j, ej⟩ := List.mem_iff_getElem?.mp hb
      have hj : j < as.length := (List.getElem?_eq_some_iff.mp ej).1
      have h1 : xs[j]? = some (xs[j]'(by omega)) := List.getElem?_eq_getElem _
      have h2 : ys[j]? = some (ys[j]'(by omega)) := List.getElem?_eq_getElem _
      rw [prs j b _ _ ej h1 h2] at q
      cases q
      obtain ⟨x', y', e1, e2, e3⟩ := hG.pairs j b ej
      obtain ⟨u1, f1, r1⟩ := Vals.get rx h1
      obtain ⟨u2, f2, r2⟩ := Vals.get ry h2
      rw [List.getElem?_toArray] at e1 e2
      rw [f1] at e1
      rw [f2] at e2
      cases e1
      cases e2
      exact ⟨by show 2 ≤ sizeLine; decide, [x', y'], .cons r1 (.cons r2 .nil), ⟨_, e3, rfl, _, rfl⟩⟩
    · by_cases hb2 : b = S
      · rw [hb2] at q ⊢
        rw [eS] at q
        cases q
        refine ⟨by rw [List.length_map]; omega, acc.toList, c, by rw [hacc]; exact LiI.vals_refs as, ?_⟩
        rw [Array.toArray_toList]
        exact hS
      · rw [off b hb hb2] at q
        exact (I.hok b u q).stay (fun d v _ y => hk d v y) (fun d y => kp d _ y) fun d xs y => kp d _ y
theorem zip_apart {n l1 l2 : Nat} (h1 : l1 < n) (h2 : l2 < n) : ZipApart (n + 4) (n + 2) (n + 3) n (n + 1) l1 l2 := by
  constructor <;> (show ¬ ((_ : Nat) = _); omega)
/-- list(zip(a, b)) -/
theorem pe_listZip {K : PySem.W.Frag} (hK : X.K = K) (hc : X.calm = true) (hg : Gl X "list") (hm : X.mg "list" = none) (hg2 : Gl X "zip") (hm2 : X.mg "zip" = none) (ha : PE X e ta) (hb : PE X e2 tb)
    (hs : starEach [.Call (.Name "zip" p2) [e, e2] [] cpos] X.env = (false, eval (.Call (.Name "zip" p2) [e, e2] [] cpos) X.env) :: starEach [] X.env := by rfl)
    (hs2 : starEach [e, e2] X.env = (false, eval e X.env) :: starEach [e2] X.env := by rfl) (hs3 : starEach [e2] X.env = (false, eval e2 X.env) :: starEach [] X.env := by rfl) (hpl : (backTo cpos (starEach [e2] X.env)).any (·.1) = false := by rfl) :
    PE X (.Call (.Name "list" p) [.Call (.Name "zip" p2) [e, e2] [] cpos] [] pos) (tListZip K ta tb) := by
  subst hK
  refine ⟨fun pins s σ H Q I hq => ?_⟩
  refine wpAny_Call_Name_kw (ld_blt (u := .type "list") I hg hm (by decide +kernel) ?_)
  refine PyProof.Rows.callWith_type1 ?_ hs rfl
  rw [hs]
  show wpAny _ _ (spliced ((false, eval (.Call (.Name "zip" p2) [e, e2] [] cpos) X.env) :: backTo pos (starEach [] X.env))) _ _ s
  refine Calls.spliced_cons ?_
  refine wpAny_Call_Name_kw (ld_blt I hg2 hm2 PyProof.Rows.boot_zip ?_)
  refine PyProof.Rows.callWith_type1 ?_ hs2 hpl
  have args : PA X [e, e2] (tCons ta (tCons tb tNil)) := pa_cons ha (pa_cons hb pa_nil hs3) hs2
  refine thn (args.run cpos pins s σ H (fun vs H2 => match vs with | [x, y] => rListZip X.K x y H2 Q | _ => False) I hq) fun us s1 ⟨vs, H1, I1, r1, hv⟩ => ?_
  match vs, r1, hv with
  | [x, y], r1, ⟨l1, l2, xs, ys, ex, ey, h1, h2, hxy, h0, q⟩ =>
    subst ex ey
    cases r1 with
    | cons ra rr =>
      cases rr with
      | cons rb rn =>
        cases rn
        cases ra
        cases rb
        obtain ⟨it1, rv1, p1, z1⟩ := I1.list h1
        obtain ⟨it2, rv2, p2', z2⟩ := I1.list h2
        refine call_zip_2 p1.isList p2'.isList fun h5 a1 a2 a3 a4 a5 a6 a7 => ?_
        refine Calls.spliced_nil ?_
        have ll1 : l1 < s1.heap.objs.size := by obtain ⟨_, e, _⟩ := p1.isList; exact Heap.lt_size e
        have ll2 : l2 < s1.heap.objs.size := by obtain ⟨_, e, _⟩ := p2'.isList; exact Heap.lt_size e
        have D := zip_apart ll1 ll2
        have e1 : it1.toArray.size = xs.length := by rw [List.size_toArray]; exact (Paired.length rv1).symm
        have e2 : it2.toArray.size = ys.length := by rw [List.size_toArray]; exact (Paired.length rv2).symm
        refine ZpL.call_list_zip (s := { s1 with heap := h5 }) (I1.ok.hd hc) D (by rw [e1, e2, hxy]) (by rw [e1]; exact h0) (by rw [e1]; exact z1) a1
          (fun S hS => ⟨a2, a4, a5, p1.isList.at fun o e => a7 _ o e, p2'.isList.at fun o e => a7 _ o e, .inl ⟨rfl, a1, _, _, a3⟩⟩) fun h6 tk acc c as k6 hS6 hl6 hG6 hacc => ?_
        have old : ∀ b o, s1.heap.get? b = some o → h6.get? b = some o := fun b o e => by
          have lt : b < s1.heap.objs.size := Heap.lt_size e
          exact k6 b o (Nat.ne_of_lt (Nat.lt_add_right 4 lt)) (Nat.ne_of_lt (Nat.lt_add_right 3 lt)) (Nat.ne_of_lt lt) (Nat.ne_of_lt (Nat.lt_add_right 1 lt)) (a7 b o e)
        obtain ⟨H', g1, g2, g3, g4, g5, J⟩ := zip_laid (tk := tk) I1 rv1 rv2 hxy z1 old (by show s1.heap.objs.size ≤ h5.objs.size; rw [a6]; exact Nat.le_add_right _ _) hS6 hl6 hG6 hacc
        exact ⟨.ref _, H', J, rfl, q H' _ as g1 g2 g3 g4 g5⟩
end
end Rd

/-! ## len(set(xs)), xs a list of ints -/
namespace Rd
open PySem PySem.Spec L2 PyProof.Rows
def dd (ns : List Int) : List Int := firstMet (fun i => ns.getD i 0) ns.length
theorem ints_vals : ∀ {ns : List Int} {us : List Value}, Vals (ns.map V.int) us → IntsAre us ns
  | [], _, .nil => .nil
  | n :: ns, _, .cons r t => by
    obtain ⟨k, rfl⟩ := r
    exact .cons n k (ints_vals t)
def tLenSetD (K : PySem.W.Frag) (ta : TE) : TE := fun σ H Q => ta σ H fun x H1 => ∃ (l : Addr) (ns : List Int), x = .ref l ∧ SqL K H1 l (ns.map V.int) ∧ ns.length ≤ 4000 ∧ Q (.int ((dd ns).length : Nat)) H1
theorem pe_lenSetD {X : Cx} {K : PySem.W.Frag} {a : Expr} {ta : TE} {p p2 q pos : Pos} (hK : X.K = K) (hg : Gl X "len") (hm : X.mg "len" = none) (hg2 : Gl X "set") (hm2 : X.mg "set" = none) (ha : PE X a ta) (hc : X.calm = true := by rfl)
    (na : starEach [a] X.env = (false, eval a X.env) :: starEach [] X.env := by rfl) : PE X (.Call (.Name "len" p) [.Call (.Name "set" p2) [a] [] q] [] pos) (tLenSetD K ta) := by
  subst hK
  refine ⟨fun pins s σ H Q I h => ?_⟩
  refine Call_ (ld_blt I hg hm boot_len ?_)
  refine PyProof.Rows.callWith_builtin1 (PyProof.Rows.args_cons ?_ rfl) rfl rfl
  refine Call_ (ld_blt I hg2 hm2 boot_set ?_)
  refine PyProof.Rows.callWith_type1 (PyProof.Rows.args_cons (thn (ha.run pins s σ H _ I h) fun v s1 ⟨x, H1, I1, r1, q1⟩ => PyProof.Rows.args_nil ?_) na) na rfl
  obtain ⟨l, ns, rfl, hq, hl, q1⟩ := q1
  cases r1
  obtain ⟨its, r, pl, hz⟩ := I1.list hq
  have hlen : its.toArray.size = ns.length := by rw [List.size_toArray, ← r.length, List.length_map]
  refine call_set_list (I1.ok.hd hc) pl.isList (by simpa using ints_vals r) (by rw [hlen]; unfold scanBound; omega) fun h' tk hS hk => ?_
  refine PyProof.Rows.args_nil ?_
  rw [hlen] at hS
  have hle : (dd ns).length ≤ ns.length := firstMet_length_le _ _
  obtain ⟨o, es, ep, t, ho, hex, hd, _, _, _, hf, hn⟩ := hS
  have I2 : Inv X pins σ H1 { s1 with heap := h', toks := tk } := I1.kept fun b o e => hk b o (Heap.lt_size e) e
  have hn' : es.size = (dd ns).length := hn
  exact call_len_set ho hex hd hf (by rw [hn'] <;> omega) ⟨.int (dd ns).length, H1, I2.tok _, ⟨_, by rw [hn']⟩, q1⟩
theorem r_lenSetD {K : PySem.W.Frag} {ta : TE} {σ : L2.St} {H : Hp} {Q : VK} (k : ta σ H fun x H1 => ∃ (l : Addr) (ns : List Int), x = .ref l ∧ SqL K H1 l (ns.map V.int) ∧ ns.length ≤ 4000 ∧ Q (.int ((dd ns).length : Nat)) H1) : tLenSetD K ta σ H Q := k
theorem any_iff {ks : List Int} {k : Int} : ks.any (· == k) = true ↔ k ∈ ks := by
  rw [List.any_eq_true]
  constructor
  · rintro ⟨x, hx, e⟩
    have : x = k := eq_of_beq e
    exact this ▸ hx
  · exact fun h => ⟨k, h, beq_self_eq_true k⟩
theorem firstMet_run (f : Nat → Int) : ∀ n, (∀ i, i < n → f (i + 1) = f i ∨ f (i + 1) = f i + 1) → firstMet f (n + 1) = (List.range ((f n - f 0).toNat + 1)).map (fun i : Nat => f 0 + (i : Int)) ∧ f 0 ≤ f n
  | 0, _ => by
    refine ⟨?_, Int.le_refl _⟩
    rw [Int.sub_self]
    show [f 0] = [f 0 + 0]
    rw [Int.add_zero]
  | n + 1, h => by
    obtain ⟨e, le⟩ := firstMet_run f n fun i hi => h i (by omega)
    rw [firstMet_succ, e]
    rcases h n (by omega) with c | c
    · rw [c]
      refine ⟨?_, le⟩
      unfold step_dedup
      rw [if_pos (any_iff.mpr (List.mem_map.mpr ⟨(f n - f 0).toNat, List.mem_range.mpr (by omega), by omega⟩))]
    · rw [c]
      refine ⟨?_, by omega⟩
      unfold step_dedup
      rw [if_neg]
      · rw [show (f n + 1 - f 0).toNat = (f n - f 0).toNat + 1 by omega, List.range_succ (n := (f n - f 0).toNat + 1), List.map_append]
        congr 1
        show [f n + 1] = [f 0 + (((f n - f 0).toNat + 1 : Nat) : Int)]
        congr 1
        omega
      · intro z
        obtain ⟨i, hi, e2⟩ := List.mem_map.mp (any_iff.mp z)
        rw [List.mem_range] at hi
        omega
end Rd

namespace Rd
open PySem L2
section
variable {P : Program} {w : World} {K : PySem.W.Frag} {mg : Str → Option Value} {base : Heap}
def spStart (K : PySem.W.Frag) : Sp := fun vs H Q _ => ∃ (a : Addr) (ns : List Int), vs = [.ref a] ∧ SqL K H a (ns.map V.int) ∧ ∀ st H', H st = none → Same H H' → St H' st a → Q (.ref st) H'
theorem spStart_i {a : Addr} {ns : List Int} {H : Hp} {Q : VK} {E : XK} (hS : SqL K H a (ns.map V.int)) (k : ∀ st H', H st = none → Same H H' → St H' st a → Q (.ref st) H') : spStart K [.ref a] H Q E := ⟨a, ns, rfl, hS, k⟩
def spLaw (K : PySem.W.Frag) : Sp := fun vs H Q _ => ∃ (a : Addr) (ns : List Int), vs = [.ref a] ∧ SqL K H a (ns.map V.int) ∧ ns.length ≤ 63 ∧ ∀ H', Q (.bl true) H'
theorem ok_law_start (F : FunAt K mg "_law_start" s_law_start) : Has P w K mg base CX0 1 "_law_start" (spStart K) := by
  refine F.ok sc_law_start bo_law_start (fun vs H Q E h => ?_) (fun f cdv A outer s H vs Q E hr h => ?_)
  · obtain ⟨a, ns, rfl, _⟩ := h
    rfl
  · obtain ⟨a, ns, rfl, hS, k⟩ := h
    refine ⟨_, (pss_cons (ps_set (i := 1) sc_law_start.nd rfl (by first | exact Or.inl rfl | exact Or.inr rfl) pe_int)
 (pss_cons (ps_for PassesOwn.never rfl (kpi_list (K := K) rfl (pv 0)) (pg_name (i := 2) sc_law_start.nd rfl (by first | exact Or.inl rfl | exact Or.inr rfl)) (pss_one (ps_set (i := 1) sc_law_start.nd rfl (by first | exact Or.inl rfl | exact Or.inr rfl) (pe_op op_mod (pe_op (kop_add (K := K) rfl) (pe_op (kop_add (K := K) rfl) (pe_op op_mul (pv 1) pe_int) (pv 2)) pe_int) pe_int))))
 (pss_one (ps_ret (pe_lst (pa_cons (pv 0) (pa_cons pe_int (pa_cons (pv 1) (pa_cons pe_int pa_nil))))))))), ?_⟩
    refine r_start (σ' := [some (.ref a), none, none]) rfl ?_
    walk_at "go"
    refine ⟨_, rfl, ⟨_, hS⟩, fw_list (K := K) (a := a) (xs := ns.map V.int) (fun i σ H2 => H2 = H ∧ ∃ m v, σ = [some (.ref a), some (.int m), v] ∧ 0 ≤ m ∧ m < 2147483647) ⟨rfl, 1, none, rfl, by decide, by decide⟩ (fun i σ H2 _ h => h.1 ▸ hS) ?_ ?_⟩
    · rintro i y σ H2 hi ⟨rfl, m, v, rfl, h0, h1⟩
      obtain ⟨z, hz, rfl⟩ := map_at hi
      walk_at "go"
      refine r_I (.inl ⟨by omega, by omega⟩) ?_
      walk_at "go"
      refine r_I (by decide) ?_
      walk_at "go"
      exact ⟨rfl, _, _, rfl, Int.emod_nonneg _ (by decide), Int.emod_lt_of_pos _ (by decide)⟩
    · rintro σ H2 ⟨rfl, m, v, rfl, h0, h1⟩
      walk_at "go"
      intro p np
      walk_at "go"
      exact k p _ np (same_new np) ⟨_, _, _, upd_same, by omega, h0, h1, by omega⟩
def spDrawn (K : PySem.W.Frag) : Sp := fun vs H Q _ => ∃ (st a : Addr) (ns : List Int) (many : Int), vs = [.ref st, .int many] ∧ St H st a ∧ SqL K H a (ns.map V.int) ∧ 0 < many ∧ many.natAbs < 2 ^ 200 ∧
  ∀ (v : Int) (H' : Hp), 0 ≤ v → v < many → St H' st a → Fr H H' → Q (.int v) H'
theorem spDrawn_i {st a : Addr} {ns : List Int} {many : Int} {H : Hp} {Q : VK} {E : XK} (s : St H st a) (hS : SqL K H a (ns.map V.int)) (h0 : 0 < many) (h1 : many.natAbs < 2 ^ 200)
    (k : ∀ (v : Int) (H' : Hp), 0 ≤ v → v < many → St H' st a → Fr H H' → Q (.int v) H') : spDrawn K [.ref st, .int many] H Q E := ⟨st, a, ns, many, rfl, s, hS, h0, h1, k⟩
theorem ok_law_drawn (B : Bl mg) (F : FunAt K mg "_law_drawn" s_law_drawn) : Has P w K mg base CX0 1 "_law_drawn" (spDrawn K) := by
  refine F.ok sc_law_drawn bo_law_drawn (fun vs H Q E h => ?_) (fun f cdv A outer s H vs Q E hr h => ?_)
  · obtain ⟨st, a, ns, many, rfl, _⟩ := h
    rfl
  · obtain ⟨st, a, ns, many, rfl, hs, hS, h0, h1, k⟩ := h
    obtain ⟨i, m, r, hst, hi, hm0, hm1, hr0⟩ := hs.ex
    have wd : CDivW 0 many := wide_div h0 h1 (by decide) (by decide)
    refine ⟨_, (pss_cons (ps_if (pt_cmpR op_gt (pe_ix (kix (K := K) rfl) (pv 0) pe_int (fun _ _ => rfl)) pe_int (nomark _)) (pss_cons (ps_set (i := 2) sc_law_drawn.nd rfl (by first | exact Or.inl rfl | exact Or.inr rfl) (pe_op op_mod (pe_ix (kix (K := K) rfl) (pv 0) pe_int (fun _ _ => rfl)) (pv 1)))
 (pss_cons (ps_asg (pe_op op_fdivW (pe_ix (kix (K := K) rfl) (pv 0) pe_int (fun _ _ => rfl)) (pv 1)) (pg_sub (pv 0) pe_int set_list))
 (pss_one (ps_ret (pv 2))))) pss_nil)
 (pss_cons (ps_asg (pe_op (kop_add (K := K) rfl) (pe_ix (kix (K := K) rfl) (pv 0) pe_int (fun _ _ => rfl)) pe_int) (pg_sub (pv 0) pe_int set_list))
 (pss_cons (ps_if (pt_cmpR op_le (pe_ix (kix (K := K) rfl) (pv 0) pe_int (fun _ _ => rfl)) (pe_callB (kc_len (K := K) rfl) rfl B.len (by decide +kernel) (pa_cons (pe_ix (kix (K := K) rfl) (pv 0) pe_int (fun _ _ => rfl)) pa_nil)) (nomark _)) (pss_cons (ps_set (i := 3) sc_law_drawn.nd rfl (by first | exact Or.inl rfl | exact Or.inr rfl) (pe_ix (kix (K := K) rfl) (pe_ix (kix (K := K) rfl) (pv 0) pe_int (fun _ _ => rfl)) (pe_op op_sub (pe_ix (kix (K := K) rfl) (pv 0) pe_int (fun _ _ => rfl)) pe_int) (fun _ _ => rfl)))
 (pss_cons (ps_asg (pe_ifExp (pt_cmpR op_ge (pv 3) (pe_op op_pow pe_int pe_int) (nomark _)) (pe_op op_fdivW (pv 3) (pv 1)) pe_int) (pg_sub (pv 0) pe_int set_list))
 (pss_one (ps_ret (pe_op op_mod (pv 3) (pv 1)))))) pss_nil)
 (pss_cons (ps_asg (pe_op op_mod (pe_op (kop_add (K := K) rfl) (pe_op op_mul (pe_ix (kix (K := K) rfl) (pv 0) pe_int (fun _ _ => rfl)) pe_int) pe_int) pe_int) (pg_sub (pv 0) pe_int set_list))
 (pss_one (ps_ret (pe_op op_mod (pe_op op_fdivW (pe_ix (kix (K := K) rfl) (pv 0) pe_int (fun _ _ => rfl)) pe_int) (pv 1)))))))), ?_⟩
    refine r_start (σ' := [some (.ref st), some (.int many), none, none]) rfl ?_
    have wr : ∀ {H1 H2 : Hp} {i m r : Int}, H1 st = some (.lst [.ref a, .int i, .int m, .int r]) → (∀ b o, b ≠ st → H1 b = some o → H2 b = some o) → Fr H1 H2 := fun e w b o q n => w b o (fun z => by subst z; rw [e] at q; cases q; exact n _ _ _ _ rfl) q
    walk_at "go"
    refine iteD (fun hp => ?_) (fun hp => ?_)
    · walk_at "go"
      refine r_I h0 ?_
      walk_at "go"
      refine r_I (show CDivW r many from wd) ?_
      walk_at "go"
      refine r_setA (j := 3) hst rfl rfl fun H1 e1 w1 => ?_
      walk_at "go"
      exact k _ _ (Int.emod_nonneg _ (by omega)) (Int.emod_lt_of_pos _ h0) ⟨_, _, _, e1, hi, hm0, hm1, Int.ediv_nonneg hr0 (by omega)⟩ (wr hst w1)
    · walk_at "go"
      refine r_setA (j := 1) hst rfl rfl fun H1 hst1 w1 => ?_
      have R1 := wr hst w1
      have hS1 := fr_sq R1 hS
      walk_at "go"
      rw [List.length_map]
      refine iteD (fun hl => ?_) (fun hl => ?_)
      · walk_at "go"
        have hlt : i.toNat < ns.length := by omega
        refine r_ix (.inl hS1) (at_of (j := i.toNat) (by omega) (by rw [List.getElem?_map, List.getElem?_eq_getElem hlt]; rfl)) ?_
        walk_at "go"
        have fin : ∀ (r' : Int) (H2 : Hp), 0 ≤ r' → H2 st = some (.lst [.ref a, .int (i + 1), .int m, .int r']) → (∀ b o, b ≠ st → H1 b = some o → H2 b = some o) → Q (.int (ns[i.toNat] % many)) H2 := fun r' H2 hr' e2 w2 =>
          k _ _ (Int.emod_nonneg _ (by omega)) (Int.emod_lt_of_pos _ h0) ⟨_, _, _, e2, by omega, hm0, hm1, hr'⟩ (R1.trans (wr hst1 w2))
        refine iteD (fun hc => ?_) (fun hc => ?_)
        · walk_at "go"
          refine r_I (show CDivW _ many from wd) ?_
          walk_at "go"
          refine r_setA (j := 3) hst1 rfl rfl fun H2 e2 w2 => ?_
          walk_at "go"
          refine r_I h0 ?_
          walk_at "go"
          refine fin _ H2 (Int.ediv_nonneg ?_ (by omega)) e2 w2
          have : (0 : Int) ≤ 10 ^ (18 : Int).toNat := by decide
          omega
        · walk_at "go"
          refine r_setA (j := 3) hst1 rfl rfl fun H2 e2 w2 => ?_
          walk_at "go"
          refine r_I h0 ?_
          walk_at "go"
          exact fin 0 H2 (by omega) e2 w2
      · walk_at "go"
        refine r_I (.inl ⟨by omega, by omega⟩) ?_
        walk_at "go"
        refine r_I (by decide) ?_
        walk_at "go"
        refine r_setA (j := 2) hst1 rfl rfl fun H2 e2 w2 => ?_
        walk_at "go"
        refine r_I ⟨by decide, by decide +kernel⟩ ?_
        walk_at "go"
        refine r_I h0 ?_
        walk_at "go"
        exact k _ _ (Int.emod_nonneg _ (by omega)) (Int.emod_lt_of_pos _ h0) ⟨_, _, _, e2, by omega, Int.emod_nonneg _ (by decide), Int.emod_lt_of_pos _ (by decide), hr0⟩ (R1.trans (wr hst1 w2))
end
end Rd

namespace Rd
open PySem L2
section
variable {P : Program} {w : World} {K : PySem.W.Frag} {mg : Str → Option Value} {base : Heap}
theorem e6 : (10 : Int) ^ (6 : Int).toNat = 1000000 := by decide
theorem e29 : (10 : Int) ^ (29 : Int).toNat = 100000000000000000000000000000 := by decide
theorem small200 {m : Int} (h0 : 0 ≤ m) (h1 : m ≤ 1000000000000000000000000000000) : m.natAbs < 2 ^ 200 := by omega
def spGear (K : PySem.W.Frag) : Sp := fun vs H Q _ => ∃ (st a : Addr) (ns : List Int) (b : Bool), vs = [.ref st, .bl b] ∧ St H st a ∧ SqL K H a (ns.map V.int) ∧
  ∀ (g : Addr) (r p : Int) (H' : Hp), 2 ≤ r → r ≤ 1000000 → 0 ≤ p → p ≤ 1000000 → (b = true → r ≤ 8 ∧ p ≤ 4) → St H' st a → Fr H H' → H' g = some (.tup [.int r, .int p]) → Q (.ref g) H'
theorem spGear_i {st a : Addr} {ns : List Int} {b : Bool} {H : Hp} {Q : VK} {E : XK} (s : St H st a) (hS : SqL K H a (ns.map V.int))
    (k : ∀ (g : Addr) (r p : Int) (H' : Hp), 2 ≤ r → r ≤ 1000000 → 0 ≤ p → p ≤ 1000000 → (b = true → r ≤ 8 ∧ p ≤ 4) → St H' st a → Fr H H' → H' g = some (.tup [.int r, .int p]) → Q (.ref g) H') : spGear K [.ref st, .bl b] H Q E := ⟨st, a, ns, b, rfl, s, hS, k⟩
theorem ok_law_gear (B : Bl mg) (F : FunAt K mg "_law_gear" s_law_gear) (H_law_drawn : Has P w K mg base CX0 1 "_law_drawn" (spDrawn K)) : Has P w K mg base CX0 2 "_law_gear" (spGear K) := by
  refine F.ok sc_law_gear bo_law_gear (fun vs H Q E h => ?_) (fun f cdv A outer s H vs Q E hr h => ?_)
  · obtain ⟨st, a, ns, b, rfl, _⟩ := h
    rfl
  · obtain ⟨st, a, ns, b, rfl, hs, hS, k⟩ := h
    refine ⟨_, (pss_cons (ps_set (i := 2) sc_law_gear.nd rfl (by first | exact Or.inl rfl | exact Or.inr rfl) (pe_ix (kix (K := K) rfl) (pe_lst (pa_cons pe_int (pa_cons pe_int pa_nil))) (pe_callTy call_intA rfl B.int (by decide +kernel) (pa_cons (pv 1) pa_nil)) (fun _ _ => rfl)))
 (pss_cons (ps_set (i := 3) sc_law_gear.nd rfl (by first | exact Or.inl rfl | exact Or.inr rfl) (pe_op (kop_add (K := K) rfl) pe_int (pe_has H_law_drawn hr (by omega) rfl pass0 (pa_cons (pv 0) (pa_cons (pe_ix (kix (K := K) rfl) (pe_lst (pa_cons pe_int (pa_cons pe_int (pa_cons pe_int (pa_cons (pe_op op_sub (pe_op op_pow pe_int pe_int) pe_int) pa_nil))))) (pe_has H_law_drawn hr (by omega) rfl pass0 (pa_cons (pv 0) (pa_cons (pv 2) pa_nil))) (fun _ _ => rfl)) pa_nil)))))
 (pss_cons (ps_set (i := 4) sc_law_gear.nd rfl (by first | exact Or.inl rfl | exact Or.inr rfl) (pe_lst (pa_cons pe_int (pa_cons (pe_has H_law_drawn hr (by omega) rfl pass0 (pa_cons (pv 0) (pa_cons pe_int pa_nil))) (pa_cons (pe_has H_law_drawn hr (by omega) rfl pass0 (pa_cons (pv 0) (pa_cons (pe_ix (kix (K := K) rfl) (pe_lst (pa_cons pe_int (pa_cons pe_int (pa_cons pe_int (pa_cons (pe_op (kop_add (K := K) rfl) (pe_op op_pow pe_int pe_int) pe_int) pa_nil))))) (pe_has H_law_drawn hr (by omega) rfl pass0 (pa_cons (pv 0) (pa_cons (pv 2) pa_nil))) (fun _ _ => rfl)) pa_nil))) pa_nil)))))
 (pss_one (ps_ret (pe_tup (pa_cons (pv 3) (pa_cons (pe_ix (kix (K := K) rfl) (pv 4) (pe_has H_law_drawn hr (by omega) rfl pass0 (pa_cons (pv 0) (pa_cons pe_int pa_nil))) (fun _ _ => rfl)) pa_nil)))))))), ?_⟩
    refine r_start (σ' := [some (.ref st), some (.bl b), none, none, none]) rfl ?_
    walk_at "go"
    intro p1 n1
    walk_at "go"
    -- sorts
    obtain ⟨so, eso, hso⟩ : ∃ so : Int, atI [V.int 4, V.int 2] (if b = true then 1 else 0) = some (.int so) ∧ (so = 4 ∧ b = false ∨ so = 2 ∧ b = true) := by
      cases b
      · exact ⟨4, rfl, .inl ⟨rfl, rfl⟩⟩
      · exact ⟨2, rfl, .inr ⟨rfl, rfl⟩⟩
    refine r_ix (by walk_at "sq") eso ?_
    walk_at "go"
    -- around
    intro p2 n2
    walk_at "go"
    refine spDrawn_i (by walk_at "ss") (by walk_at "sq") (by omega) (small200 (by omega) (by omega)) fun v1 H1 a1 b1 s1 R1 => ?_
    walk_at "go"
    obtain ⟨w1, ew1, hw1⟩ := pick4 7 7 60 (10 ^ (6 : Int).toNat - 1) a1 (by omega)
    rw [e6] at hw1
    refine r_ix (by walk_at "sq") ew1 ?_
    walk_at "go"
    refine spDrawn_i s1 (by walk_at "sq") (by omega) (small200 (by omega) (by omega)) fun v2 H2 a2 b2 s2 R2 => ?_
    walk_at "go"
    refine spDrawn_i s2 (by walk_at "sq") (by omega) (by decide) fun v3 H3 a3 b3 s3 R3 => ?_
    walk_at "go"
    intro p4 n4
    walk_at "go"
    refine spDrawn_i (by walk_at "ss") (by walk_at "sq") (by omega) (small200 (by omega) (by omega)) fun v4 H4 a4 b4 s4 R4 => ?_
    walk_at "go"
    obtain ⟨w2, ew2, hw2⟩ := pick4 5 5 60 (10 ^ (6 : Int).toNat + 1) a4 (by omega)
    rw [e6] at hw2
    refine r_ix (by walk_at "sq") ew2 ?_
    walk_at "go"
    refine spDrawn_i s4 (by walk_at "sq") (by omega) (small200 (by omega) (by omega)) fun v5 H5 a5 b5 s5 R5 => ?_
    walk_at "go"
    intro p6 n6
    walk_at "go"
    refine spDrawn_i (by walk_at "ss") (by walk_at "sq") (by omega) (by decide) fun v6 H6 a6 b6 s6 R6 => ?_
    obtain ⟨pl, epl, mpl⟩ := pick3 0 v3 v5 a6 (by omega)
    refine r_ix (by walk_at "sq") epl ?_
    walk_at "go"
    intro g ng
    walk_at "go"
    refine k g _ _ _ (by omega) (by omega) (by omega) (by omega) (fun hb => ?_) (by walk_at "ss") (by walk_at "fr") upd_same
    rcases hso with ⟨_, q⟩ | ⟨q, _⟩
    · rw [q] at hb
      cases hb
    · omega
def spStanding (K : PySem.W.Frag) : Sp := fun vs H Q _ => ∃ (st a : Addr) (ns : List Int) (g : Addr) (r p : Int), vs = [.ref st, .ref g] ∧ St H st a ∧ SqL K H a (ns.map V.int) ∧ H g = some (.tup [.int r, .int p]) ∧ 0 ≤ p ∧ p ≤ 1000000 ∧
  ∀ (z : Addr) (m s : Int) (H' : Hp), m - p ≤ s → s ≤ m → -100000000000000000000000000000 ≤ m → m ≤ 100000000000000000000000000000 → St H' st a → Fr H H' → H' z = some (.tup [.int m, .int s]) → Q (.ref z) H'
theorem spStanding_i {st a g : Addr} {ns : List Int} {r p : Int} {H : Hp} {Q : VK} {E : XK} (s : St H st a) (hS : SqL K H a (ns.map V.int)) (hg : H g = some (.tup [.int r, .int p])) (h0 : 0 ≤ p) (h1 : p ≤ 1000000)
    (k : ∀ (z : Addr) (m s : Int) (H' : Hp), m - p ≤ s → s ≤ m → -100000000000000000000000000000 ≤ m → m ≤ 100000000000000000000000000000 → St H' st a → Fr H H' → H' z = some (.tup [.int m, .int s]) → Q (.ref z) H') : spStanding K [.ref st, .ref g] H Q E := ⟨st, a, ns, g, r, p, rfl, s, hS, hg, h0, h1, k⟩
theorem ok_law_standing (B : Bl mg) (F : FunAt K mg "_law_standing" s_law_standing) (H_law_drawn : Has P w K mg base CX0 1 "_law_drawn" (spDrawn K)) : Has P w K mg base CX0 2 "_law_standing" (spStanding K) := by
  refine F.ok sc_law_standing bo_law_standing (fun vs H Q E h => ?_) (fun f cdv A outer s H vs Q E hr h => ?_)
  · obtain ⟨st, a, ns, g, r, p, rfl, _⟩ := h
    rfl
  · obtain ⟨st, a, ns, g, r, p, rfl, hs, hS, hg, hp0, hp1, k⟩ := h
    refine ⟨_, (pss_cons (ps_set (i := 2) sc_law_standing.nd rfl (by first | exact Or.inl rfl | exact Or.inr rfl) (pe_ix (kix (K := K) rfl) (pe_lst (pa_cons pe_int (pa_cons pe_int (pa_cons (pe_op op_pow pe_int pe_int) pa_nil)))) (pe_has H_law_drawn hr (by omega) rfl pass0 (pa_cons (pv 0) (pa_cons pe_int pa_nil))) (fun _ _ => rfl)))
 (pss_cons (ps_set (i := 3) sc_law_standing.nd rfl (by first | exact Or.inl rfl | exact Or.inr rfl) (pe_op op_sub (pe_has H_law_drawn hr (by omega) rfl pass0 (pa_cons (pv 0) (pa_cons (pv 2) pa_nil))) (pe_op op_mul (pe_has H_law_drawn hr (by omega) rfl pass0 (pa_cons (pv 0) (pa_cons pe_int pa_nil))) (pv 2))))
 (pss_one (ps_ret (pe_tup (pa_cons (pv 3) (pa_cons (pe_op op_sub (pv 3) (pe_ix (kix (K := K) rfl) (pe_lst (pa_cons pe_int (pa_cons (pe_ix (kix (K := K) rfl) (pv 1) pe_int (fun _ _ => rfl)) (pa_cons (pe_has H_law_drawn hr (by omega) rfl pass0 (pa_cons (pv 0) (pa_cons (pe_op (kop_add (K := K) rfl) (pe_ix (kix (K := K) rfl) (pv 1) pe_int (fun _ _ => rfl)) pe_int) pa_nil))) pa_nil)))) (pe_has H_law_drawn hr (by omega) rfl pass0 (pa_cons (pv 0) (pa_cons pe_int pa_nil))) (fun _ _ => rfl))) pa_nil))))))), ?_⟩
    refine r_start (σ' := [some (.ref st), some (.ref g), none, none]) rfl ?_
    walk_at "go"
    intro p1 n1
    walk_at "go"
    refine spDrawn_i (by walk_at "ss") (by walk_at "sq") (by omega) (by decide) fun v1 H1 a1 b1 s1 R1 => ?_
    obtain ⟨far, e1, m1⟩ := pick3 10 1000 (10 ^ (29 : Int).toNat) a1 (by omega)
    rw [e29] at m1
    refine r_ix (by walk_at "sq") e1 ?_
    walk_at "go"
    refine spDrawn_i s1 (by walk_at "sq") (by omega) (small200 (by omega) (by omega)) fun v2 H2 a2 b2 s2 R2 => ?_
    walk_at "go"
    refine spDrawn_i s2 (by walk_at "sq") (by omega) (by decide) fun v3 H3 a3 b3 s3 R3 => ?_
    walk_at "go"
    refine r_I (.inl ⟨by omega, by omega⟩) ?_
    walk_at "go"
    refine spDrawn_i s3 (by walk_at "sq") (by omega) (small200 (by omega) (by omega)) fun v4 H4 a4 b4 s4 R4 => ?_
    walk_at "go"
    intro p5 n5
    walk_at "go"
    refine spDrawn_i (by walk_at "ss") (by walk_at "sq") (by omega) (by decide) fun v5 H5 a5 b5 s5 R5 => ?_
    obtain ⟨o, e5, m5⟩ := pick3 0 p v4 a5 (by omega)
    refine r_ix (by walk_at "sq") e5 ?_
    walk_at "go"
    intro z nz
    walk_at "go"
    have hv : 0 ≤ v3 * far ∧ v3 * far ≤ far := by
      have : v3 = 0 ∨ v3 = 1 := by omega
      rcases this with rfl | rfl <;> omega
    exact k z _ _ _ (by omega) (by omega) (by omega) (by omega) (by walk_at "ss") (by walk_at "fr") upd_same
def spMoves (K : PySem.W.Frag) : Sp := fun vs H Q _ => ∃ (st a : Addr) (ns : List Int) (g : Addr) (r p most : Int), vs = [.ref st, .ref g, .int most] ∧ St H st a ∧ SqL K H a (ns.map V.int) ∧ H g = some (.tup [.int r, .int p]) ∧ 0 < r ∧ r ≤ 1000000 ∧ 0 ≤ p ∧ p ≤ 1000000 ∧ 0 ≤ most ∧ most ≤ 1000 ∧
  ∀ (l : Addr) (ms : List Int) (H' : Hp), ms.length ≤ most.toNat → (∀ m ∈ ms, -100000000000000000000000000000 ≤ m ∧ m ≤ 100000000000000000000000000000) → St H' st a → Fr H H' → H' l = some (.lst (ms.map V.int)) → Q (.ref l) H'
theorem spMoves_i {st a g : Addr} {ns : List Int} {r p most : Int} {H : Hp} {Q : VK} {E : XK} (s : St H st a) (hS : SqL K H a (ns.map V.int)) (hg : H g = some (.tup [.int r, .int p])) (r0 : 0 < r) (r1 : r ≤ 1000000) (h0 : 0 ≤ p) (h1 : p ≤ 1000000) (m0 : 0 ≤ most) (m1 : most ≤ 1000)
    (k : ∀ (l : Addr) (ms : List Int) (H' : Hp), ms.length ≤ most.toNat → (∀ m ∈ ms, -100000000000000000000000000000 ≤ m ∧ m ≤ 100000000000000000000000000000) → St H' st a → Fr H H' → H' l = some (.lst (ms.map V.int)) → Q (.ref l) H') : spMoves K [.ref st, .ref g, .int most] H Q E := ⟨st, a, ns, g, r, p, most, rfl, s, hS, hg, r0, r1, h0, h1, m0, m1, k⟩
theorem ok_law_moves (B : Bl mg) (F : FunAt K mg "_law_moves" s_law_moves) (H_law_drawn : Has P w K mg base CX0 1 "_law_drawn" (spDrawn K)) : Has P w K mg base CX0 2 "_law_moves" (spMoves K) := by
  refine F.ok sc_law_moves bo_law_moves (fun vs H Q E h => ?_) (fun f cdv A outer s H vs Q E hr h => ?_)
  · obtain ⟨st, a, ns, g, r, p, most, rfl, _⟩ := h
    rfl
  · obtain ⟨st, a, ns, g, r, p, most, rfl, hs, hS, hg, hr0, hr1, hp0, hp1, hm0, hm1, k⟩ := h
    refine ⟨_, (pss_cons (ps_set (i := 3) sc_law_moves.nd rfl (by first | exact Or.inl rfl | exact Or.inr rfl) (pe_lst pa_nil))
 (pss_cons (ps_for PassesOwn.never rfl (pi_range1 rfl B.range (pa_cons (pe_has H_law_drawn hr (by omega) rfl pass0 (pa_cons (pv 0) (pa_cons (pe_op (kop_add (K := K) rfl) (pv 2) pe_int) pa_nil))) pa_nil)) (pg_name (i := 4) sc_law_moves.nd rfl (by first | exact Or.inl rfl | exact Or.inr rfl)) (pss_cons (ps_set (i := 5) sc_law_moves.nd rfl (by first | exact Or.inl rfl | exact Or.inr rfl) (pe_lst (pa_cons (pe_has H_law_drawn hr (by omega) rfl pass0 (pa_cons (pv 0) (pa_cons pe_int pa_nil))) (pa_cons (pe_has H_law_drawn hr (by omega) rfl pass0 (pa_cons (pv 0) (pa_cons (pe_op (kop_add (K := K) rfl) (pe_ix (kix (K := K) rfl) (pv 1) pe_int (fun _ _ => rfl)) pe_int) pa_nil))) (pa_cons (pe_has H_law_drawn hr (by omega) rfl pass0 (pa_cons (pv 0) (pa_cons (pe_op op_mul pe_int (pe_ix (kix (K := K) rfl) (pv 1) pe_int (fun _ _ => rfl))) pa_nil))) pa_nil)))))
 (pss_cons (ps_set (i := 5) sc_law_moves.nd rfl (by first | exact Or.inl rfl | exact Or.inr rfl) (pe_ix (kix (K := K) rfl) (pv 5) (pe_has H_law_drawn hr (by omega) rfl pass0 (pa_cons (pv 0) (pa_cons pe_int pa_nil))) (fun _ _ => rfl)))
 (pss_cut (ps_if (pt_cmpR (kop_eq (K := K) rfl hr.units) (pe_has H_law_drawn hr (by omega) rfl pass0 (pa_cons (pv 0) (pa_cons pe_int pa_nil))) pe_int (nomark _)) (pss_one (ps_set (i := 5) sc_law_moves.nd rfl (by first | exact Or.inl rfl | exact Or.inr rfl) (pe_has H_law_drawn hr (by omega) rfl pass0 (pa_cons (pv 0) (pa_cons (pe_op op_pow pe_int pe_int) pa_nil))))) pss_nil)
 (pss_one (ps_expr (kpe_bm (K := K) rfl PySem.F.plainAttrs_list PySem.F.slot_list_append PySem.F.type_list_append mt_append (pv 3) (pa_cons (pe_ix (kix (K := K) rfl) (pe_lst (pa_cons (pv 5) (pa_cons (pe_op op_sub pe_int (pv 5)) pa_nil))) (pe_has H_law_drawn hr (by omega) rfl pass0 (pa_cons (pv 0) (pa_cons pe_int pa_nil))) (fun _ _ => rfl)) pa_nil))))))))
 (pss_one (ps_ret (pv 3))))), ?_⟩
    refine r_start (σ' := [some (.ref st), some (.ref g), some (.int most), none, none, none]) rfl ?_
    walk_at "go"
    intro l nl
    walk_at "go"
    refine spDrawn_i (by walk_at "ss") (by walk_at "sq") (by omega) (small200 (by omega) (by omega)) fun n H0 a0 b0 s0 R0 => ?_
    have f0 : Fr H H0 := by walk_at "fr"
    refine ⟨_, rfl, by omega, by omega, fw_range (fun i σ H2 => ∃ (ms : List Int) (u v : Option V), σ = [some (.ref st), some (.ref g), some (.int most), some (.ref l), u, v] ∧ ms.length = i ∧ (∀ m ∈ ms, -100000000000000000000000000000 ≤ m ∧ m ≤ 100000000000000000000000000000) ∧ St H2 st a ∧ Fr H H2 ∧ H2 l = some (.lst (ms.map V.int)))
      ⟨[], none, none, rfl, rfl, by simp, s0, f0, R0 _ _ upd_same nst_nil⟩ ?_ ?_⟩
    · rintro i σ H2 hi ⟨ms, u, v, rfl, hlen, hms, s2, f2, hl⟩
      walk_at "go"
      refine spDrawn_i s2 (by walk_at "sq") (by omega) (by decide) fun v1 H3 a1 b1 s3 R3 => ?_
      walk_at "go"
      refine spDrawn_i s3 (by walk_at "sq") (by omega) (small200 (by omega) (by omega)) fun v2 H4 a2 b2 s4 R4 => ?_
      walk_at "go"
      refine r_I (.inl ⟨by omega, by omega⟩) ?_
      walk_at "go"
      refine spDrawn_i s4 (by walk_at "sq") (by omega) (small200 (by omega) (by omega)) fun v3 H5 a3 b3 s5 R5 => ?_
      walk_at "go"
      intro p6 n6
      walk_at "go"
      refine spDrawn_i (by walk_at "ss") (by walk_at "sq") (by omega) (by decide) fun v6 H6 a6 b6 s6 R6 => ?_
      obtain ⟨sz, e6, m6⟩ := pick3 v1 v2 v3 a6 (by omega)
      refine r_ix (by walk_at "sq") e6 ?_
      walk_at "go"
      refine r_cut (fun σ' H' => ∃ sz' : Int, σ' = [some (.ref st), some (.ref g), some (.int most), some (.ref l), some (.int (0 + i)), some (.int sz')] ∧ 0 ≤ sz' ∧ sz' ≤ 100000000000000000000000000000 ∧ St H' st a ∧ Fr H H' ∧ H' l = some (.lst (ms.map V.int))) ?_ ?_
      · walk_at "go"
        refine spDrawn_i s6 (by walk_at "sq") (by omega) (by decide) fun v7 H7 a7 b7 s7 R7 => ?_
        walk_at "go"
        refine iteD (fun _ => ?_) (fun _ => ?_)
        · walk_at "go"
          refine spDrawn_i s7 (by walk_at "sq") (by rw [e29]; omega) (by rw [e29]; decide) fun v8 H8 a8 b8 s8 R8 => ?_
          rw [e29] at b8
          walk_at "go"
          exact ⟨v8, rfl, by omega, by omega, s8, by walk_at "fr", by walk_at "hp"⟩
        · walk_at "go"
          exact ⟨sz, rfl, by omega, by omega, s7, by walk_at "fr", by walk_at "hp"⟩
      · rintro σ' H9 ⟨sz', rfl, hz0, hz1, s9, f9, hl9⟩
        walk_at "go"
        refine ⟨r_tyL hl9, ?_⟩
        walk_at "go"
        intro p10 n10
        walk_at "go"
        refine spDrawn_i (by walk_at "ss") (by walk_at "sq") (by omega) (by decide) fun v11 H11 a11 b11 s11 R11 => ?_
        obtain ⟨z, e11, m11⟩ := pick2 sz' (0 - sz') a11 (by omega)
        refine r_ix (by walk_at "sq") e11 ?_
        walk_at "go"
        have hl11 : H11 l = some (.lst (ms.map V.int)) := by walk_at "hp"
        refine r_appA hl11 (by rw [List.length_map]; exact small1000 (by omega)) fun H12 e12 w12 => ?_
        walk_at "go"
        have ne : st ≠ l := s11.ne hl11 nst_ints
        obtain ⟨i', m', r', hst, q⟩ := s11.ex
        refine ⟨ms ++ [z], _, _, rfl, by simp [hlen], fun x hx => ?_, ⟨i', m', r', w12 _ _ ne hst, q⟩, fun b o e n => ?_, by rw [e12]; simp⟩
        · simp at hx
          rcases hx with hx | rfl
          · exact hms x hx
          · omega
        · have nb : b ≠ l := ne_of_none e nl
          have : Fr H H11 := by walk_at "fr"
          exact w12 _ _ nb (this _ _ e n)
    · rintro σ H2 ⟨ms, u, v, rfl, hlen, hms, s2, f2, hl⟩
      walk_at "go"
      exact k l ms H2 (by omega) hms s2 f2 hl
end
end Rd

namespace Rd
/-! ## the shaft: plain -/
/-- where the shaft stands behind k steps, as the program reckons it -/
def pb (p m s k : Int) : Int := min (m + k) (max (m + k - p) s)
/-- .. as the law does -/
def lb (p m s k : Int) : Int := if 0 < k then s + max 0 (k - (p - (m - s))) else s + min 0 (k + (m - s))
theorem lb_pb {p m s k : Int} (h0 : m - p ≤ s) (h1 : s ≤ m) : lb p m s k = pb p m s k := by
  unfold lb pb
  split <;> omega
def nx (p : Int) (z : Int × Int) (k : Int) : Int × Int := (z.1 + k, pb p z.1 z.2 k)
def pos (p : Int) (z : Int × Int) (ks : List Int) : Int × Int := ks.foldl (nx p) z
def traj (p : Int) : Int × Int → List Int → List (Int × Int)
  | _, [] => []
  | z, k :: r => nx p z k :: traj p (nx p z k) r
theorem pos_snoc (p : Int) (z : Int × Int) (ks : List Int) (k : Int) : pos p z (ks ++ [k]) = nx p (pos p z ks) k := by
  unfold pos
  rw [List.foldl_append]
  rfl
theorem pos_app (p : Int) (z : Int × Int) (ks ls : List Int) : pos p z (ks ++ ls) = pos p (pos p z ks) ls := by
  unfold pos
  rw [List.foldl_append]
theorem traj_snoc (p : Int) : ∀ (ks : List Int) (z : Int × Int) (k : Int), traj p z (ks ++ [k]) = traj p z ks ++ [nx p (pos p z ks) k]
  | [], _, _ => rfl
  | _ :: r, z, k => by
    show _ :: traj p _ (r ++ [k]) = _ :: (traj p _ r ++ _)
    rw [traj_snoc p r]
    rfl
theorem traj_len (p : Int) : ∀ (ks : List Int) (z : Int × Int), (traj p z ks).length = ks.length
  | [], _ => rfl
  | _ :: r, z => by
    show _ + 1 = _ + 1
    rw [traj_len p r]
theorem traj_last (p : Int) : ∀ (ks : List Int) (z : Int × Int), (z :: traj p z ks)[ks.length]? = some (pos p z ks)
  | [], _ => rfl
  | k :: r, z => traj_last p r (nx p z k)
/-- a standing of a gear of the play p -/
def Stg (p : Int) (z : Int × Int) : Prop := z.1 - p ≤ z.2 ∧ z.2 ≤ z.1
theorem Stg.nx {p : Int} {z : Int × Int} (h : Stg p z) (hp : 0 ≤ p) (k : Int) : Stg p (Rd.nx p z k) := by
  obtain ⟨a, b⟩ := h
  unfold Stg Rd.nx pb
  dsimp only
  omega
theorem Stg.pos {p : Int} (hp : 0 ≤ p) : ∀ {ks : List Int} {z : Int × Int}, Stg p z → Stg p (Rd.pos p z ks)
  | [], _, h => h
  | k :: r, z, h => Stg.pos hp (ks := r) (h.nx hp k)
theorem take_snoc {α : Type} {l : List α} {i : Nat} {x : α} (h : l[i]? = some x) : l.take (i + 1) = l.take i ++ [x] := by
  rw [List.take_add_one, h]
  rfl
end Rd

namespace Rd
open PySem L2
/-- tuples of two ints at the addresses as -/
def Tups (H : Hp) (as : List Addr) (xs : List (Int × Int)) : Prop := as.length = xs.length ∧ ∀ (i : Nat) (a : Addr) (x : Int × Int), as[i]? = some a → xs[i]? = some x → H a = some (.tup [.int x.1, .int x.2])
theorem Tups.nil {H : Hp} : Tups H [] [] := ⟨rfl, fun i a x h => by simp at h⟩
theorem Tups.mono {H H' : Hp} {as : List Addr} {xs : List (Int × Int)} (t : Tups H as xs) (R : ∀ b xs, H b = some (.tup xs) → H' b = some (.tup xs)) : Tups H' as xs := ⟨t.1, fun i a x h1 h2 => R _ _ (t.2 i a x h1 h2)⟩
theorem Tups.snoc {H : Hp} {as : List Addr} {xs : List (Int × Int)} {a : Addr} {x : Int × Int} (t : Tups H as xs) (h : H a = some (.tup [.int x.1, .int x.2])) : Tups H (as ++ [a]) (xs ++ [x]) := by
  refine ⟨by simp [t.1], fun i b y h1 h2 => ?_⟩
  by_cases hi : i < as.length
  · rw [List.getElem?_append_left hi] at h1
    rw [List.getElem?_append_left (by rw [← t.1]; exact hi)] at h2
    exact t.2 i b y h1 h2
  · rw [List.getElem?_append_right (by omega)] at h1
    rw [List.getElem?_append_right (by rw [← t.1]; omega)] at h2
    have e : i - as.length = 0 := by
      cases q : i - as.length with
      | zero => rfl
      | succ n => rw [q] at h1; simp at h1
    rw [e] at h1
    rw [← t.1, e] at h2
    cases h1
    cases h2
    exact h
theorem Tups.all {H : Hp} : ∀ {as : List Addr} {xs : List (Int × Int)}, Tups H as xs → IsAll H (as.map V.ref) (xs.map dPair)
  | [], [], _ => .nil
  | [], _ :: _, t => nomatch t.1
  | _ :: _, [], t => nomatch t.1
  | a :: as, x :: xs, t => .cons (Is.pair (t.2 0 a x rfl rfl)) (Tups.all ⟨Nat.succ.inj t.1, fun i b y h1 h2 => t.2 (i + 1) b y (by simpa using h1) (by simpa using h2)⟩)
section
variable {P : Program} {w : World} {K : PySem.W.Frag} {mg : Str → Option Value} {base : Heap}
/-- a gear stands at g -/
structure GearAt (H : Hp) (g : Addr) (r p : Int) : Prop where
  at_ : H g = some (.tup [.int r, .int p])
  r2 : 2 ≤ r
  r6 : r ≤ 1000000
  p0 : 0 ≤ p
  p6 : p ≤ 1000000
theorem GearAt.mono {H H' : Hp} {g : Addr} {r p : Int} (G : GearAt H g r p) (h : H' g = some (.tup [.int r, .int p])) : GearAt H' g r p := ⟨h, G.r2, G.r6, G.p0, G.p6⟩
def spNG : Sp := fun vs H Q _ => ∃ (g : Addr) (r p : Int), vs = [.ref g] ∧ GearAt H g r p ∧ Q .non H
theorem spNG_i {g : Addr} {r p : Int} {H : Hp} {Q : VK} {E : XK} (G : GearAt H g r p) (k : Q .non H) : spNG [.ref g] H Q E := ⟨g, r, p, rfl, G, k⟩
theorem ok_need_gear (F : FunAt K mg "need_gear" s_need_gear) (M_MOST : Cn mg "MOST" 1000000) : Has P w K mg base CX0 1 "need_gear" spNG := by
  refine F.ok sc_need_gear bo_need_gear (fun vs H Q E h => ?_) (fun f cdv A outer s H vs Q E hr h => ?_)
  · obtain ⟨g, r, p, rfl, _⟩ := h
    rfl
  · obtain ⟨g, r, p, rfl, G, k⟩ := h
    have hg := G.at_
    have h1 := G.r2
    have h2 := G.r6
    have h3 := G.p0
    have h4 := G.p6
    refine ⟨_, (pss_cons (ps_asg (pv 0) (kpg_tup (K := K) rfl rfl (pgs_cons (pg_name (i := 1) sc_need_gear.nd rfl (by first | exact Or.inl rfl | exact Or.inr rfl)) (pgs_cons (pg_name (i := 2) sc_need_gear.nd rfl (by first | exact Or.inl rfl | exact Or.inr rfl)) pgs_nil))))
 (pss_one (ps_if (PW.pt (pw_or (pt_not (pt_chain op_le op_le pe_int (pv 1) (pe_cn M_MOST rfl))) (pw_or1 (pt_not (pt_chain op_le op_le pe_int (pv 2) (pe_cn M_MOST rfl)))))) (pss_one ps_never) pss_nil))), ?_⟩
    refine r_start (σ' := [some (.ref g), none, none]) rfl ?_
    walk_at "go"
    refine iteDT (by omega) ?_
    walk_at "go"
    refine iteNF (by omega) ?_
    walk_at "go"
    refine iteDT (by omega) ?_
    walk_at "go"
    refine iteNF (by omega) ?_
    walk_at "go"
    exact k
def spNS : Sp := fun vs H Q _ => ∃ (g : Addr) (r p : Int) (z : Addr) (x : Int × Int), vs = [.ref g, .ref z] ∧ GearAt H g r p ∧ H z = some (.tup [.int x.1, .int x.2]) ∧ Stg p x ∧ Q .non H
theorem spNS_i {g z : Addr} {r p : Int} {x : Int × Int} {H : Hp} {Q : VK} {E : XK} (G : GearAt H g r p) (hz : H z = some (.tup [.int x.1, .int x.2])) (hs : Stg p x) (k : Q .non H) : spNS [.ref g, .ref z] H Q E := ⟨g, r, p, z, x, rfl, G, hz, hs, k⟩
def spNM (K : PySem.W.Frag) : Sp := fun vs H Q _ => ∃ (l : Addr) (ms : List Int), vs = [.ref l] ∧ SqL K H l (ms.map V.int) ∧ ms.length ≤ 100 ∧ Q .non H
theorem spNM_i {l : Addr} {ms : List Int} {H : Hp} {Q : VK} {E : XK} (hl : SqL K H l (ms.map V.int)) (h : ms.length ≤ 100) (k : Q .non H) : spNM K [.ref l] H Q E := ⟨l, ms, rfl, hl, h, k⟩
theorem ok_need_moves (B : Bl mg) (F : FunAt K mg "need_moves" s_need_moves) (M_MOST_MOVES : Cn mg "MOST_MOVES" 100) : Has P w K mg base CX0 1 "need_moves" (spNM K) := by
  refine F.ok sc_need_moves bo_need_moves (fun vs H Q E h => ?_) (fun f cdv A outer s H vs Q E hr h => ?_)
  · obtain ⟨l, ms, rfl, _⟩ := h
    rfl
  · obtain ⟨l, ms, rfl, hl, hm, k⟩ := h
    refine ⟨_, (pss_one (ps_if (pt_cmpR op_gt (pe_callB (kc_len (K := K) rfl) rfl B.len (by decide +kernel) (pa_cons (pv 0) pa_nil)) (pe_cn M_MOST_MOVES rfl) (nomark _)) (pss_one ps_never) pss_nil)), ?_⟩
    refine r_start (σ' := [some (.ref l)]) rfl ?_
    walk_at "go"
    rw [List.length_map]
    refine iteDF (by omega) ?_
    walk_at "go"
    exact k
def spBehind : Sp := fun vs H Q _ => ∃ (g : Addr) (r p : Int) (z : Addr) (x : Int × Int) (k : Int), vs = [.ref g, .ref z, .int k] ∧ H g = some (.tup [.int r, .int p]) ∧ H z = some (.tup [.int x.1, .int x.2]) ∧
  ∀ (q : Addr) (H' : Hp), H q = none → Same H H' → H' q = some (.tup [.int (nx p x k).1, .int (nx p x k).2]) → Q (.ref q) H'
theorem spBehind_i {g z : Addr} {r p k : Int} {x : Int × Int} {H : Hp} {Q : VK} {E : XK} (hg : H g = some (.tup [.int r, .int p])) (hz : H z = some (.tup [.int x.1, .int x.2]))
    (h : ∀ (q : Addr) (H' : Hp), H q = none → Same H H' → H' q = some (.tup [.int (nx p x k).1, .int (nx p x k).2]) → Q (.ref q) H') : spBehind [.ref g, .ref z, .int k] H Q E := ⟨g, r, p, z, x, k, rfl, hg, hz, h⟩
theorem ok_behind (B : Bl mg) (F : FunAt K mg "behind" s_behind) : Has P w K mg base CX0 1 "behind" spBehind := by
  refine F.ok sc_behind bo_behind (fun vs H Q E h => ?_) (fun f cdv A outer s H vs Q E hr h => ?_)
  · obtain ⟨g, r, p, z, x, k, rfl, _⟩ := h
    rfl
  · obtain ⟨g, r, p, z, x, k, rfl, hg, hz, h⟩ := h
    refine ⟨_, (pss_cons (ps_set (i := 3) sc_behind.nd rfl (by first | exact Or.inl rfl | exact Or.inr rfl) (pe_op (kop_add (K := K) rfl) (pe_ix (kix (K := K) rfl) (pv 1) pe_int (fun _ _ => rfl)) (pv 2)))
 (pss_one (ps_ret (pe_tup (pa_cons (pv 3) (pa_cons (pe_callB (kc_min (K := K) rfl rfl) rfl B.min (by decide +kernel) (pa_cons (pv 3) (pa_cons (pe_callB (kc_max (K := K) rfl rfl) rfl B.max (by decide +kernel) (pa_cons (pe_op op_sub (pv 3) (pe_ix (kix (K := K) rfl) (pv 0) pe_int (fun _ _ => rfl))) (pa_cons (pe_ix (kix (K := K) rfl) (pv 1) pe_int (fun _ _ => rfl)) pa_nil))) pa_nil))) pa_nil)))))), ?_⟩
    refine r_start (σ' := [some (.ref g), some (.ref z), some (.int k), none]) rfl ?_
    walk_at "go"
    intro q nq
    walk_at "go"
    exact h q _ nq (same_new nq) upd_same
def spAB (K : PySem.W.Frag) : Sp := fun vs H Q _ => ∃ (g : Addr) (r p : Int) (z : Addr) (x : Int × Int) (l : Addr) (ms : List Int), vs = [.ref g, .ref z, .ref l] ∧ H g = some (.tup [.int r, .int p]) ∧ H z = some (.tup [.int x.1, .int x.2]) ∧ SqL K H l (ms.map V.int) ∧ ms.length ≤ 1000 ∧
  ∀ (q : Addr) (as : List Addr) (H' : Hp), H q = none → Same H H' → H' q = some (.lst (as.map V.ref)) → Tups H' as (traj p x ms) → Q (.ref q) H'
theorem spAB_i {g z l : Addr} {r p : Int} {x : Int × Int} {ms : List Int} {H : Hp} {Q : VK} {E : XK} (hg : H g = some (.tup [.int r, .int p])) (hz : H z = some (.tup [.int x.1, .int x.2])) (hl : SqL K H l (ms.map V.int)) (hm : ms.length ≤ 1000)
    (h : ∀ (q : Addr) (as : List Addr) (H' : Hp), H q = none → Same H H' → H' q = some (.lst (as.map V.ref)) → Tups H' as (traj p x ms) → Q (.ref q) H') : spAB K [.ref g, .ref z, .ref l] H Q E := ⟨g, r, p, z, x, l, ms, rfl, hg, hz, hl, hm, h⟩
theorem ok_all_behind (B : Bl mg) (F : FunAt K mg "all_behind" s_all_behind) (H_behind : Has P w K mg base CX0 1 "behind" spBehind) : Has P w K mg base CX0 2 "all_behind" (spAB K) := by
  refine F.ok sc_all_behind bo_all_behind (fun vs H Q E h => ?_) (fun f cdv A outer s H vs Q E hr h => ?_)
  · obtain ⟨g, r, p, z, x, l, ms, rfl, _⟩ := h
    rfl
  · obtain ⟨g, r, p, z, x, l, ms, rfl, hg, hz, hl, hm, h⟩ := h
    refine ⟨_, (pss_cons (ps_set (i := 3) sc_all_behind.nd rfl (by first | exact Or.inl rfl | exact Or.inr rfl) (pe_lst pa_nil))
 (pss_cons (ps_for PassesOwn.never rfl (kpi_list (K := K) rfl (pv 2)) (pg_name (i := 4) sc_all_behind.nd rfl (by first | exact Or.inl rfl | exact Or.inr rfl)) (pss_cons (ps_set (i := 1) sc_all_behind.nd rfl (by first | exact Or.inl rfl | exact Or.inr rfl) (pe_has H_behind hr (by omega) rfl pass0 (pa_cons (pv 0) (pa_cons (pv 1) (pa_cons (pv 4) pa_nil)))))
 (pss_one (ps_expr (kpe_bm (K := K) rfl PySem.F.plainAttrs_list PySem.F.slot_list_append PySem.F.type_list_append mt_append (pv 3) (pa_cons (pv 1) pa_nil))))))
 (pss_one (ps_ret (pv 3))))), ?_⟩
    refine r_start (σ' := [some (.ref g), some (.ref z), some (.ref l), none, none]) rfl ?_
    walk_at "go"
    intro q nq
    walk_at "go"
    refine ⟨_, rfl, ⟨_, by walk_at "sq"⟩, fw_list (K := K) (a := l) (xs := ms.map V.int) (fun i σ H2 => ∃ (z' : Addr) (as : List Addr) (v : Option V), σ = [some (.ref g), some (.ref z'), some (.ref l), some (.ref q), v] ∧ Same H H2 ∧ H2 q = some (.lst (as.map V.ref)) ∧
        H2 z' = some (.tup [.int (pos p x (ms.take i)).1, .int (pos p x (ms.take i)).2]) ∧ Tups H2 as (traj p x (ms.take i)))
      ⟨z, [], none, rfl, same_new nq, upd_same, at_new nq hz, Tups.nil⟩ (fun i σ H2 _ ⟨_, _, _, _, s2, _⟩ => s2.seq hl) ?_ ?_⟩
    · rintro i y σ H2 hi ⟨z', as, v, rfl, s2, hq, hz', ht⟩
      obtain ⟨k, hk, rfl⟩ := map_at hi
      walk_at "go"
      refine spBehind_i (by walk_at "hp") hz' fun z2 H3 nz2 s3 hz2 => ?_
      walk_at "go"
      have hq3 : H3 q = some (.lst (as.map V.ref)) := s3 _ _ hq
      refine ⟨r_tyL hq3, ?_⟩
      walk_at "go"
      have hil : i < ms.length := (List.getElem?_eq_some_iff.mp hk).1
      have hlen : as.length = i := by rw [ht.1, traj_len, List.length_take]; omega
      refine r_appA hq3 (by rw [List.length_map]; exact small1000 (by omega)) fun H4 e4 w4 => ?_
      walk_at "go"
      have keep : ∀ b xs, H3 b = some (.tup xs) → H4 b = some (.tup xs) := fun b xs e => w4 _ _ (ne_of e hq3 (fun z => nomatch z)) e
      refine ⟨z2, as ++ [z2], _, rfl, fun b o e => w4 _ _ (ne_of_none e nq) (s3 _ _ (s2 _ _ e)), by rw [e4]; simp, ?_, ?_⟩
      · rw [take_snoc hk, pos_snoc]
        exact keep _ _ hz2
      · rw [take_snoc hk, traj_snoc]
        exact ((ht.mono fun b xs e => s3 _ _ e).mono keep).snoc (keep _ _ hz2)
    · rintro σ H2 ⟨z', as, v, rfl, s2, hq, hz', ht⟩
      walk_at "go"
      rw [List.length_map, List.take_length] at ht
      exact h q as H2 nq s2 hq ht
end
end Rd

namespace Rd
open PySem L2
section
variable {P : Program} {w : World} {K : PySem.W.Frag} {mg : Str → Option Value} {base : Heap}
theorem FunAt.void {x : Str} {st : Stmt} {ps : List Str} (F : FunAt K mg x st) (bo : BindOk x st ps) : Has P w K mg base CX0 0 x (fun _ _ _ _ => False) := by
  obtain ⟨f, fd, F, hm⟩ := F.ex
  exact ⟨f, fd, ps, ⟨fun _ _ _ _ h => h.elim, fun _ _ _ _ _ _ _ _ _ _ _ _ _ h => h.elim⟩, hm, F.kp, F.binds bo⟩
/-- asked of the same data twice: True -/
def spSame : Nat → Sp
  | 0 => fun _ _ _ _ => False
  | n + 1 => fun vs H Q _ => ∃ (x y : V) (d : PyData), vs = [x, y] ∧ Is H x d ∧ Is H y d ∧ Fl n d ∧ ∀ H', Same H H' → Q (.bl true) H'
theorem spSame_i {n : Nat} {x y : V} {d : PyData} {H : Hp} {Q : VK} {E : XK} (hx : Is H x d) (hy : Is H y d) (f : Fl n d) (k : ∀ H', Same H H' → Q (.bl true) H') : spSame (n + 1) [x, y] H Q E := ⟨x, y, d, rfl, hx, hy, f, k⟩
theorem Fl.get {n i : Nat} {ds : List PyData} {d : PyData} (h : PyData.canLayAll0 ds = true ∧ PyData.depthAll ds ≤ n) (e : ds[i]? = some d) : Fl n d := by
  induction ds generalizing i with
  | nil => simp at e
  | cons a r ih =>
    obtain ⟨h1, h2⟩ := h
    rw [PyData.canLayAll0, Bool.and_eq_true] at h1
    rw [PyData.depthAll] at h2
    cases i with
    | zero =>
      cases e
      exact ⟨h1.1, by omega⟩
    | succ i => exact ih (i := i) ⟨h1.2, by omega⟩ (by simpa using e)
set_option maxHeartbeats 8000000 in
theorem ok_law_same (B : Bl mg) (F : FunAt K mg "_law_same" s_law_same) : ∀ n, Has P w K mg base CX0 n "_law_same" (spSame n)
  | 0 => F.void bo_law_same
  | n + 1 => by
    have H_law_same : Has P w K mg base CX0 n "_law_same" (spSame n) := ok_law_same B F n
    refine F.ok sc_law_same bo_law_same (fun vs H Q E h => ?_) (fun f cdv A outer s H vs Q E hr h => ?_)
    · obtain ⟨x, y, d, rfl, _⟩ := h
      rfl
    · obtain ⟨x, y, d, rfl, hx, hy, hf, k⟩ := h
      refine ⟨_, (pss_cons (ps_if (pt_val (pe_callB (kcc_isi (K := K) rfl) rfl B.isinstance (by decide +kernel) (pa_cons (pv 1) (pa_cons (pe_tup (pa_cons (pe_bltn rfl B.tuple (by decide +kernel) (v := .ty "tuple") rfl) (pa_cons (pe_bltn rfl B.list (by decide +kernel) (v := .ty "list") rfl) pa_nil))) pa_nil)))) (pss_cons (ps_if (PW.pt (pw_or (pt_not (pt_val (pe_callB (kcc_isi (K := K) rfl) rfl B.isinstance (by decide +kernel) (pa_cons (pv 0) (pa_cons (pe_tup (pa_cons (pe_bltn rfl B.tuple (by decide +kernel) (v := .ty "tuple") rfl) (pa_cons (pe_bltn rfl B.list (by decide +kernel) (v := .ty "list") rfl) pa_nil))) pa_nil))))) (pw_or1 (pt_cmpR (kop_ne (K := K) rfl hr.units) (pe_callB (kcc_isi (K := K) rfl) rfl B.isinstance (by decide +kernel) (pa_cons (pv 0) (pa_cons (pe_bltn rfl B.list (by decide +kernel) (v := .ty "list") rfl) pa_nil))) (pe_callB (kcc_isi (K := K) rfl) rfl B.isinstance (by decide +kernel) (pa_cons (pv 1) (pa_cons (pe_bltn rfl B.list (by decide +kernel) (v := .ty "list") rfl) pa_nil))) (nomark _))))) (pss_one (ps_ret pe_bl)) pss_nil)
 (pss_cons (ps_if (pt_cmpR (kop_ne (K := K) rfl hr.units) (pe_callB (kc_len (K := K) rfl) rfl B.len (by decide +kernel) (pa_cons (pv 0) pa_nil)) (pe_callB (kc_len (K := K) rfl) rfl B.len (by decide +kernel) (pa_cons (pv 1) pa_nil)) (nomark _)) (pss_one (ps_ret pe_bl)) pss_nil)
 (pss_one (ps_ret (pe_cmpR (kop_eq (K := K) rfl hr.units) (pe_lc (own := [("_law_k", 2)]) (g := (gName 2)) rfl sc_law_same.nd (pi_range1 rfl B.range (pa_cons (pe_callB (kc_len (K := K) rfl) rfl B.len (by decide +kernel) (pa_cons (pv 1) pa_nil)) pa_nil)) (blkOk_by (N := ["_law_found", "_law_due", "_law_k"]) (sc := defScope s_law_same) (own := [("_law_k", 2)]) (by decide +kernel)) (fun _ _ _ _ _ => (pg_name (i := 2) sc_law_same.nd rfl (by first | exact Or.inl rfl | exact Or.inr rfl))) (fun _ _ _ _ _ => (pts_one (pt_not (pt_val (pe_has H_law_same hr (by omega) rfl pass0 (pa_cons (pe_ix (kix (K := K) rfl) (pv 0) (pv 2) (fun _ _ => rfl)) (pa_cons (pe_ix (kix (K := K) rfl) (pv 1) (pv 2) (fun _ _ => rfl)) pa_nil))))))) (fun _ _ _ _ _ => (pv 2))) (pe_lst pa_nil) (nomark _)))))) pss_nil)
 (pss_cons (ps_if (pt_cmpR op_isN (pv 1) pe_non (nomark _)) (pss_one (ps_ret (pe_cmpR op_isN (pv 0) pe_non (nomark _)))) pss_nil)
 (pss_cons (ps_if (pt_val (pe_callB (kcc_isi (K := K) rfl) rfl B.isinstance (by decide +kernel) (pa_cons (pv 1) (pa_cons (pe_bltn rfl B.str (by decide +kernel) (v := .ty "str") rfl) pa_nil)))) (pss_one (ps_ret (pe_and (pe_callB (kcc_isi (K := K) rfl) rfl B.isinstance (by decide +kernel) (pa_cons (pv 0) (pa_cons (pe_bltn rfl B.str (by decide +kernel) (v := .ty "str") rfl) pa_nil))) (pe_one (pe_cmpR (kop_eq (K := K) rfl hr.units) (pv 0) (pv 1) (nomark _)))))) pss_nil)
 (pss_cons (ps_if (PW.pt (pw_or (pt_val (pe_callB (kcc_isi (K := K) rfl) rfl B.isinstance (by decide +kernel) (pa_cons (pv 1) (pa_cons (pe_bltn rfl B.bool (by decide +kernel) (v := .ty "bool") rfl) pa_nil)))) (pw_or1 (pt_val (pe_callB (kcc_isi (K := K) rfl) rfl B.isinstance (by decide +kernel) (pa_cons (pv 0) (pa_cons (pe_bltn rfl B.bool (by decide +kernel) (v := .ty "bool") rfl) pa_nil))))))) (pss_one (ps_ret (pe_and (pe_callB (kcc_isi (K := K) rfl) rfl B.isinstance (by decide +kernel) (pa_cons (pv 1) (pa_cons (pe_bltn rfl B.bool (by decide +kernel) (v := .ty "bool") rfl) pa_nil))) (pe_and (pe_callB (kcc_isi (K := K) rfl) rfl B.isinstance (by decide +kernel) (pa_cons (pv 0) (pa_cons (pe_bltn rfl B.bool (by decide +kernel) (v := .ty "bool") rfl) pa_nil))) (pe_one (pe_cmpR (kop_eq (K := K) rfl hr.units) (pv 0) (pv 1) (nomark _))))))) pss_nil)
 (pss_one (ps_ret (pe_and (pe_callB (kcc_isi (K := K) rfl) rfl B.isinstance (by decide +kernel) (pa_cons (pv 0) (pa_cons (pe_bltn rfl B.int (by decide +kernel) (v := .ty "int") rfl) pa_nil))) (pe_one (pe_cmpR (kop_eq (K := K) rfl hr.units) (pv 0) (pv 1) (nomark _)))))))))), ?_⟩
      refine r_start (σ' := [some x, some y, none]) rfl ?_
      cases d with
      | dict kvs => cases hx
      | none =>
        cases hx
        cases hy
        walk_at "go"
        intro t nt
        walk_at "go"
        refine r_isi2 upd_same (.base .non) (b1 := false) (b2 := false) (by decide +kernel) (by decide +kernel) ?_
        walk_at "go"
        refine iteF ?_
        walk_at "go"
        refine ⟨rfl, ?_⟩
        walk_at "go"
        refine iteDT rfl ?_
        walk_at "go"
        exact ⟨rfl, k _ (same_new nt)⟩
      | bool v =>
        cases hx
        cases hy
        walk_at "go"
        intro t nt
        walk_at "go"
        refine r_isi2 upd_same (.base (.bl v)) (b1 := false) (b2 := false) (by decide +kernel) (by decide +kernel) ?_
        walk_at "go"
        refine iteF ?_
        walk_at "go"
        refine ⟨rfl, ?_⟩
        walk_at "go"
        refine iteDF (by simp) ?_
        walk_at "go"
        refine r_isi (.base (.bl v)) (b := false) (by decide +kernel) ?_
        walk_at "go"
        refine iteF ?_
        walk_at "go"
        refine r_isi (.base (.bl v)) (b := true) (by decide +kernel) ?_
        walk_at "go"
        refine iteT ?_
        walk_at "go"
        refine iteT ?_
        walk_at "go"
        refine r_isi (.base (.bl v)) (b := true) (by decide +kernel) ?_
        walk_at "go"
        refine iteT ?_
        walk_at "go"
        refine r_isi (.base (.bl v)) (b := true) (by decide +kernel) ?_
        walk_at "go"
        refine iteT ?_
        walk_at "go"
        rw [decide_eq_true rfl]
        exact k _ (same_new nt)
      | int v =>
        cases hx
        cases hy
        walk_at "go"
        intro t nt
        walk_at "go"
        refine r_isi2 upd_same (.base (.int v)) (b1 := false) (b2 := false) (by decide +kernel) (by decide +kernel) ?_
        walk_at "go"
        refine iteF ?_
        walk_at "go"
        refine ⟨rfl, ?_⟩
        walk_at "go"
        refine iteDF (by simp) ?_
        walk_at "go"
        refine r_isi (.base (.int v)) (b := false) (by decide +kernel) ?_
        walk_at "go"
        refine iteF ?_
        walk_at "go"
        refine r_isi (.base (.int v)) (b := false) (by decide +kernel) ?_
        walk_at "go"
        refine iteF ?_
        walk_at "go"
        refine r_isi (.base (.int v)) (b := false) (by decide +kernel) ?_
        walk_at "go"
        refine iteF ?_
        walk_at "go"
        refine r_isi (.base (.int v)) (b := true) (by decide +kernel) ?_
        walk_at "go"
        refine iteT ?_
        walk_at "go"
        rw [decide_eq_true rfl]
        exact k _ (same_new nt)
      | str v =>
        cases hx
        cases hy
        walk_at "go"
        intro t nt
        walk_at "go"
        refine r_isi2 upd_same (.base (.str v)) (b1 := false) (b2 := false) (by decide +kernel) (by decide +kernel) ?_
        walk_at "go"
        refine iteF ?_
        walk_at "go"
        refine ⟨rfl, ?_⟩
        walk_at "go"
        refine iteDF (by simp) ?_
        walk_at "go"
        refine r_isi (.base (.str v)) (b := true) (by decide +kernel) ?_
        walk_at "go"
        refine iteT ?_
        walk_at "go"
        refine r_isi (.base (.str v)) (b := true) (by decide +kernel) ?_
        walk_at "go"
        refine iteT ?_
        walk_at "go"
        refine .inl ⟨rfl, ?_⟩
        rw [decide_eq_true rfl]
        exact k _ (same_new nt)
      | list ds =>
        cases hx with
        | lst ha hxs =>
        rename_i a xs
        cases hy with
        | lst hb hys =>
        rename_i b ys
        have hd : PyData.canLayAll0 ds = true ∧ PyData.depthAll ds + 1 ≤ n := by
          have h1 := hf.1
          have h2 := hf.2
          rw [PyData.canLay0] at h1
          rw [PyData.depth] at h2
          exact ⟨h1, h2⟩
        obtain ⟨n', rfl⟩ : ∃ n', n = n' + 1 := ⟨n - 1, by omega⟩
        walk_at "go"
        intro t nt
        walk_at "go"
        refine r_isi2 upd_same (.base (.lst (at_new nt hb))) (b1 := false) (b2 := true) (by decide +kernel) (by decide +kernel) ?_
        walk_at "go"
        refine iteT ?_
        walk_at "go"
        intro t2 nt2
        walk_at "go"
        refine r_isi2 upd_same (.base (.lst (at_new nt2 (at_new nt ha)))) (b1 := false) (b2 := true) (by decide +kernel) (by decide +kernel) ?_
        walk_at "go"
        refine iteF ?_
        walk_at "go"
        refine r_isi (.base (.lst (at_new nt2 (at_new nt ha)))) (b := true) (by decide +kernel) ?_
        walk_at "go"
        refine r_isi (.base (.lst (at_new nt2 (at_new nt hb)))) (b := true) (by decide +kernel) ?_
        walk_at "go"
        refine iteF ?_
        walk_at "go"
        have hlen : xs.length = ys.length := by rw [hxs.len, hys.len]
        refine iteNF (by rw [hlen]) ?_
        walk_at "go"
        have s2 : Same H (upd (upd H t (.tup [.ty "tuple", .ty "list"])) t2 (.tup [.ty "tuple", .ty "list"])) := (same_new nt).trans (same_new nt2)
        generalize upd (upd H t (.tup [.ty "tuple", .ty "list"])) t2 (.tup [.ty "tuple", .ty "list"]) = H2 at s2 ⊢
        refine ⟨_, rfl, by omega, by omega, fun D nD => lcw_range (σw := [some (.ref a), some (.ref b), none]) (fun i H3 => Same H H3 ∧ H3 D = some (.lst [])) rfl ⟨s2.trans (same_new nD), upd_same⟩ (fun i H3 hi h3 => ?_) fun H3 h3 => ?_⟩
        · obtain ⟨s3, hD⟩ := h3
          walk_at "go"
          refine ⟨rfl, ?_⟩
          have hi' : i < ds.length := by rw [← hys.len]; simpa using hi
          obtain ⟨u, d1, g1, g2, g3⟩ := hxs.get hi'
          obtain ⟨v, d2, g4, g5, g6⟩ := hys.get hi'
          have e12 : d2 = d1 := Option.some.inj (g5.symm.trans g2)
          subst e12
          walk_at "go"
          refine r_ix (.inl (SqL.of (s3 _ _ ha))) (at_of (j := i) (by omega) g1) ?_
          walk_at "go"
          refine r_ix (.inl (SqL.of (s3 _ _ hb))) (at_of (j := i) (by omega) g4) ?_
          walk_at "go"
          refine spSame_i (Is.mono s3 _ _ g3) (Is.mono s3 _ _ g6) (Fl.get ⟨hd.1, by omega⟩ g2) fun H4 s4 => ?_
          walk_at "go"
          refine iteF ?_
          exact ⟨s3.trans s4, s4 _ _ hD⟩
        · obtain ⟨s3, hD⟩ := h3
          walk_at "go"
          intro e ne
          walk_at "go"
          refine r_eqIs (d := .list []) (n := 1) (.lst (at_new ne hD) .nil) (.lst upd_same .nil) (Fl.list (by simp)) ?_
          walk_at "go"
          exact k _ (s3.trans (same_new ne))
      | tuple ds =>
        cases hx with
        | tup ha hxs =>
        rename_i a xs
        cases hy with
        | tup hb hys =>
        rename_i b ys
        have hd : PyData.canLayAll0 ds = true ∧ PyData.depthAll ds + 1 ≤ n := by
          have h1 := hf.1
          have h2 := hf.2
          rw [PyData.canLay0] at h1
          rw [PyData.depth] at h2
          exact ⟨h1, h2⟩
        obtain ⟨n', rfl⟩ : ∃ n', n = n' + 1 := ⟨n - 1, by omega⟩
        walk_at "go"
        intro t nt
        walk_at "go"
        refine r_isi2 upd_same (.base (.tup (at_new nt hb))) (b1 := true) (b2 := false) (by decide +kernel) (by decide +kernel) ?_
        walk_at "go"
        refine iteT ?_
        walk_at "go"
        intro t2 nt2
        walk_at "go"
        refine r_isi2 upd_same (.base (.tup (at_new nt2 (at_new nt ha)))) (b1 := true) (b2 := false) (by decide +kernel) (by decide +kernel) ?_
        walk_at "go"
        refine iteF ?_
        walk_at "go"
        refine r_isi (.base (.tup (at_new nt2 (at_new nt ha)))) (b := false) (by decide +kernel) ?_
        walk_at "go"
        refine r_isi (.base (.tup (at_new nt2 (at_new nt hb)))) (b := false) (by decide +kernel) ?_
        walk_at "go"
        refine iteF ?_
        walk_at "go"
        have hlen : xs.length = ys.length := by rw [hxs.len, hys.len]
        refine iteNF (by rw [hlen]) ?_
        walk_at "go"
        have s2 : Same H (upd (upd H t (.tup [.ty "tuple", .ty "list"])) t2 (.tup [.ty "tuple", .ty "list"])) := (same_new nt).trans (same_new nt2)
        generalize upd (upd H t (.tup [.ty "tuple", .ty "list"])) t2 (.tup [.ty "tuple", .ty "list"]) = H2 at s2 ⊢
        refine ⟨_, rfl, by omega, by omega, fun D nD => lcw_range (σw := [some (.ref a), some (.ref b), none]) (fun i H3 => Same H H3 ∧ H3 D = some (.lst [])) rfl ⟨s2.trans (same_new nD), upd_same⟩ (fun i H3 hi h3 => ?_) fun H3 h3 => ?_⟩
        · obtain ⟨s3, hD⟩ := h3
          walk_at "go"
          refine ⟨rfl, ?_⟩
          have hi' : i < ds.length := by rw [← hys.len]; simpa using hi
          obtain ⟨u, d1, g1, g2, g3⟩ := hxs.get hi'
          obtain ⟨v, d2, g4, g5, g6⟩ := hys.get hi'
          have e12 : d2 = d1 := Option.some.inj (g5.symm.trans g2)
          subst e12
          walk_at "go"
          refine r_ix (.inr (SqT.of (s3 _ _ ha))) (at_of (j := i) (by omega) g1) ?_
          walk_at "go"
          refine r_ix (.inr (SqT.of (s3 _ _ hb))) (at_of (j := i) (by omega) g4) ?_
          walk_at "go"
          refine spSame_i (Is.mono s3 _ _ g3) (Is.mono s3 _ _ g6) (Fl.get ⟨hd.1, by omega⟩ g2) fun H4 s4 => ?_
          walk_at "go"
          refine iteF ?_
          exact ⟨s3.trans s4, s4 _ _ hD⟩
        · obtain ⟨s3, hD⟩ := h3
          walk_at "go"
          intro e ne
          walk_at "go"
          refine r_eqIs (d := .list []) (n := 1) (.lst (at_new ne hD) .nil) (.lst upd_same .nil) (Fl.list (by simp)) ?_
          walk_at "go"
          exact k _ (s3.trans (same_new ne))
end
end Rd

namespace Rd
open PySem L2
section
variable {P : Program} {w : World} {K : PySem.W.Frag} {mg : Str → Option Value} {base : Heap}
def lx (p : Int) (x : Int × Int) (k : Int) : Int × Int := (x.1 + k, lb p x.1 x.2 k)
theorem lx_nx {p : Int} {x : Int × Int} (h : Stg p x) (k : Int) : lx p x k = nx p x k := by
  unfold lx nx
  rw [lb_pb h.1 h.2]
def spLB : Sp := fun vs H Q _ => ∃ (g : Addr) (r p : Int) (z : Addr) (x : Int × Int) (k : Int), vs = [.ref g, .ref z, .int k] ∧ H g = some (.tup [.int r, .int p]) ∧ H z = some (.tup [.int x.1, .int x.2]) ∧
  ∀ (q : Addr) (H' : Hp), H q = none → Same H H' → H' q = some (.tup [.int (lx p x k).1, .int (lx p x k).2]) → Q (.ref q) H'
theorem spLB_i {g z : Addr} {r p k : Int} {x : Int × Int} {H : Hp} {Q : VK} {E : XK} (hg : H g = some (.tup [.int r, .int p])) (hz : H z = some (.tup [.int x.1, .int x.2]))
    (h : ∀ (q : Addr) (H' : Hp), H q = none → Same H H' → H' q = some (.tup [.int (lx p x k).1, .int (lx p x k).2]) → Q (.ref q) H') : spLB [.ref g, .ref z, .int k] H Q E := ⟨g, r, p, z, x, k, rfl, hg, hz, h⟩
theorem ok_law_behind (B : Bl mg) (F : FunAt K mg "_law_behind" s_law_behind) : Has P w K mg base CX0 1 "_law_behind" spLB := by
  refine F.ok sc_law_behind bo_law_behind (fun vs H Q E h => ?_) (fun f cdv A outer s H vs Q E hr h => ?_)
  · obtain ⟨g, r, p, z, x, k, rfl, _⟩ := h
    rfl
  · obtain ⟨g, r, p, z, x, k, rfl, hg, hz, h⟩ := h
    refine ⟨_, (pss_cons (ps_asg (pv 1) (kpg_tup (K := K) rfl rfl (pgs_cons (pg_name (i := 3) sc_law_behind.nd rfl (by first | exact Or.inl rfl | exact Or.inr rfl)) (pgs_cons (pg_name (i := 4) sc_law_behind.nd rfl (by first | exact Or.inl rfl | exact Or.inr rfl)) pgs_nil))))
 (pss_cons (ps_if (pt_cmpR op_gt (pv 2) pe_int (nomark _)) (pss_cons (ps_set (i := 5) sc_law_behind.nd rfl (by first | exact Or.inl rfl | exact Or.inr rfl) (pe_op op_sub (pe_ix (kix (K := K) rfl) (pv 0) pe_int (fun _ _ => rfl)) (pe_op op_sub (pv 3) (pv 4))))
 (pss_one (ps_ret (pe_tup (pa_cons (pe_op (kop_add (K := K) rfl) (pv 3) (pv 2)) (pa_cons (pe_op (kop_add (K := K) rfl) (pv 4) (pe_callB (kc_max (K := K) rfl rfl) rfl B.max (by decide +kernel) (pa_cons pe_int (pa_cons (pe_op op_sub (pv 2) (pv 5)) pa_nil)))) pa_nil)))))) pss_nil)
 (pss_cons (ps_set (i := 5) sc_law_behind.nd rfl (by first | exact Or.inl rfl | exact Or.inr rfl) (pe_op op_sub (pv 3) (pv 4)))
 (pss_one (ps_ret (pe_tup (pa_cons (pe_op (kop_add (K := K) rfl) (pv 3) (pv 2)) (pa_cons (pe_op (kop_add (K := K) rfl) (pv 4) (pe_callB (kc_min (K := K) rfl rfl) rfl B.min (by decide +kernel) (pa_cons pe_int (pa_cons (pe_op (kop_add (K := K) rfl) (pv 2) (pv 5)) pa_nil)))) pa_nil)))))))), ?_⟩
    refine r_start (σ' := [some (.ref g), some (.ref z), some (.int k), none, none, none]) rfl ?_
    walk_at "go"
    refine iteD (fun hk => ?_) (fun hk => ?_)
    · walk_at "go"
      intro q nq
      walk_at "go"
      refine h q _ nq (same_new nq) ?_
      rw [upd_same]
      unfold lx lb
      rw [if_pos hk]
    · walk_at "go"
      intro q nq
      walk_at "go"
      refine h q _ nq (same_new nq) ?_
      rw [upd_same]
      unfold lx lb
      rw [if_neg hk]
end
end Rd

namespace Rd
open PySem L2
section
variable {P : Program} {w : World} {K : PySem.W.Frag} {mg : Str → Option Value} {base : Heap}
/-- the standings behind no move and behind each -/
def ends (p : Int) (z : Int × Int) (ms : List Int) : List (Int × Int) := z :: traj p z ms
theorem ends_at (p : Int) (z : Int × Int) (ms : List Int) {i : Nat} (h : i ≤ ms.length) : (ends p z ms)[i]? = some (pos p z (ms.take i)) := by
  induction ms generalizing z i with
  | nil =>
    have : i = 0 := by simpa using h
    subst this
    rfl
  | cons k r ih =>
    cases i with
    | zero => rfl
    | succ i => exact ih (nx p z k) (by simpa using h)
theorem ends_len (p : Int) (z : Int × Int) (ms : List Int) : (ends p z ms).length = ms.length + 1 := by
  unfold ends
  rw [List.length_cons, traj_len]
/-- pairs of two pairs -/
def Duos (H : Hp) (ts : List Addr) (xs ys : List (Int × Int)) : Prop := ts.length = xs.length ∧ ∀ (i : Nat) (t : Addr) (x y : Int × Int), ts[i]? = some t → xs[i]? = some x → ys[i]? = some y →
  ∃ a b : Addr, H t = some (.tup [.ref a, .ref b]) ∧ H a = some (.tup [.int x.1, .int x.2]) ∧ H b = some (.tup [.int y.1, .int y.2])
theorem Duos.mono {H H' : Hp} {ts : List Addr} {xs ys : List (Int × Int)} (d : Duos H ts xs ys) (R : Same H H') : Duos H' ts xs ys := ⟨d.1, fun i t x y h1 h2 h3 => by
  obtain ⟨a, b, e1, e2, e3⟩ := d.2 i t x y h1 h2 h3
  exact ⟨a, b, R _ _ e1, R _ _ e2, R _ _ e3⟩⟩
def spBE (K : PySem.W.Frag) : Sp := fun vs H Q _ => ∃ (g : Addr) (r p : Int) (l : Addr) (ms : List Int), vs = [.ref g, .ref l] ∧ H g = some (.tup [.int r, .int p]) ∧ SqL K H l (ms.map V.int) ∧ ms.length ≤ 100 ∧
  ∀ (q : Addr) (ts : List Addr) (H' : Hp), H q = none → Same H H' → H' q = some (.lst (ts.map V.ref)) → Duos H' ts (ends p (0, -p) ms) (ends p (0, 0) ms) → Q (.ref q) H'
theorem spBE_i {g l : Addr} {r p : Int} {ms : List Int} {H : Hp} {Q : VK} {E : XK} (hg : H g = some (.tup [.int r, .int p])) (hl : SqL K H l (ms.map V.int)) (hm : ms.length ≤ 100)
    (h : ∀ (q : Addr) (ts : List Addr) (H' : Hp), H q = none → Same H H' → H' q = some (.lst (ts.map V.ref)) → Duos H' ts (ends p (0, -p) ms) (ends p (0, 0) ms) → Q (.ref q) H') : spBE K [.ref g, .ref l] H Q E := ⟨g, r, p, l, ms, rfl, hg, hl, hm, h⟩
theorem ok_both_ends (B : Bl mg) (F : FunAt K mg "both_ends" s_both_ends) (H_all_behind : Has P w K mg base CX0 2 "all_behind" (spAB K)) : Has P w K mg base CX0 3 "both_ends" (spBE K) := by
  refine F.ok sc_both_ends bo_both_ends (fun vs H Q E h => ?_) (fun f cdv A outer s H vs Q E hr h => ?_)
  · obtain ⟨g, r, p, l, ms, rfl, _⟩ := h
    rfl
  · obtain ⟨g, r, p, l, ms, rfl, hg, hl, hm, h⟩ := h
    refine ⟨_, (pss_cons (ps_set (i := 2) sc_both_ends.nd rfl (by first | exact Or.inl rfl | exact Or.inr rfl) (pe_lst (pa_cons (pe_tup (pa_cons pe_int (pa_cons (pe_op op_sub pe_int (pe_ix (kix (K := K) rfl) (pv 0) pe_int (fun _ _ => rfl))) pa_nil))) pa_nil)))
 (pss_cons (ps_set (i := 3) sc_both_ends.nd rfl (by first | exact Or.inl rfl | exact Or.inr rfl) (pe_lst (pa_cons (pe_tup (pa_cons pe_int (pa_cons pe_int pa_nil))) pa_nil)))
 (pss_one (ps_ret (pe_listZip (K := K) rfl rfl rfl B.list rfl B.zip (pe_op (kop_add (K := K) rfl) (pv 2) (pe_has H_all_behind hr (by omega) rfl pass0 (pa_cons (pv 0) (pa_cons (pe_ix (kix (K := K) rfl) (pv 2) pe_int (fun _ _ => rfl)) (pa_cons (pv 1) pa_nil))))) (pe_op (kop_add (K := K) rfl) (pv 3) (pe_has H_all_behind hr (by omega) rfl pass0 (pa_cons (pv 0) (pa_cons (pe_ix (kix (K := K) rfl) (pv 3) pe_int (fun _ _ => rfl)) (pa_cons (pv 1) pa_nil)))))))))), ?_⟩
    refine r_start (σ' := [some (.ref g), some (.ref l), none, none]) rfl ?_
    walk_at "go"
    intro t1 n1
    walk_at "go"
    intro lo n2
    walk_at "go"
    intro t3 n3
    walk_at "go"
    intro hi n4
    walk_at "go"
    refine r_listZip ?_
    walk_at "go"
    -- the four that were made
    have s4 := (same_new (u := .tup [.int 0, .int (0 - p)]) n1).trans ((same_new (u := .lst [.ref t1]) n2).trans ((same_new (u := .tup [.int 0, .int 0]) n3).trans (same_new (u := .lst [.ref t3]) n4)))
    have e1 : upd (upd (upd (upd H t1 (.tup [.int 0, .int (0 - p)])) lo (.lst [.ref t1])) t3 (.tup [.int 0, .int 0])) hi (.lst [.ref t3]) t1 = some (.tup [.int 0, .int (0 - p)]) := by walk_at "hp"
    have e2 : upd (upd (upd (upd H t1 (.tup [.int 0, .int (0 - p)])) lo (.lst [.ref t1])) t3 (.tup [.int 0, .int 0])) hi (.lst [.ref t3]) lo = some (.lst [.ref t1]) := by walk_at "hp"
    have e3 : upd (upd (upd (upd H t1 (.tup [.int 0, .int (0 - p)])) lo (.lst [.ref t1])) t3 (.tup [.int 0, .int 0])) hi (.lst [.ref t3]) t3 = some (.tup [.int 0, .int 0]) := by walk_at "hp"
    have e4 : upd (upd (upd (upd H t1 (.tup [.int 0, .int (0 - p)])) lo (.lst [.ref t1])) t3 (.tup [.int 0, .int 0])) hi (.lst [.ref t3]) hi = some (.lst [.ref t3]) := upd_same
    generalize upd (upd (upd (upd H t1 (.tup [.int 0, .int (0 - p)])) lo (.lst [.ref t1])) t3 (.tup [.int 0, .int 0])) hi (.lst [.ref t3]) = H4 at s4 e1 e2 e3 e4 ⊢
    refine spAB_i (s4 _ _ hg) (x := (0, 0 - p)) e1 (s4.seq hl) (by omega) fun q5 as5 H5 nq5 s5 hq5 ht5 => ?_
    refine r_addL (s5 _ _ e2) hq5 (by rw [List.length_map, ht5.1, traj_len]; show 1 + _ ≤ _; exact Nat.le_of_lt (small1000 (by omega))) fun d6 nd6 => ?_
    walk_at "go"
    have s6 : Same H4 (upd H5 d6 (.lst ([V.ref t1] ++ as5.map V.ref))) := by walk_at "fr"
    have e6 : upd H5 d6 (.lst ([V.ref t1] ++ as5.map V.ref)) d6 = some (.lst ([V.ref t1] ++ as5.map V.ref)) := upd_same
    have ht6 : Tups (upd H5 d6 (.lst ([V.ref t1] ++ as5.map V.ref))) as5 (traj p (0, 0 - p) ms) := ht5.mono fun b xs e => at_new nd6 e
    generalize upd H5 d6 (.lst ([V.ref t1] ++ as5.map V.ref)) = H6 at s6 e6 ht6 ⊢
    have hg6 : H6 g = some (.tup [.int r, .int p]) := by walk_at "hp"
    have e36 : H6 t3 = some (.tup [.int 0, .int 0]) := by walk_at "hp"
    have e46 : H6 hi = some (.lst [.ref t3]) := by walk_at "hp"
    walk_at "go"
    refine spAB_i hg6 (x := (0, 0)) e36 (s6.seq (s4.seq hl)) (by omega) fun q7 as7 H7 nq7 s7 hq7 ht7 => ?_
    refine r_addL (s7 _ _ e46) hq7 (by rw [List.length_map, ht7.1, traj_len]; show 1 + _ ≤ _; exact Nat.le_of_lt (small1000 (by omega))) fun d8 nd8 => ?_
    have s8 : Same H6 (upd H7 d8 (.lst ([V.ref t3] ++ as7.map V.ref))) := by walk_at "fr"
    have e8 : upd H7 d8 (.lst ([V.ref t3] ++ as7.map V.ref)) d8 = some (.lst ([V.ref t3] ++ as7.map V.ref)) := upd_same
    have ht8 : Tups (upd H7 d8 (.lst ([V.ref t3] ++ as7.map V.ref))) as7 (traj p (0, 0) ms) := ht7.mono fun b xs e => at_new nd8 e
    generalize upd H7 d8 (.lst ([V.ref t3] ++ as7.map V.ref)) = H8 at s8 e8 ht8 ⊢
    have l5 : as5.length = ms.length := by rw [ht5.1, traj_len]
    have l7 : as7.length = ms.length := by rw [ht7.1, traj_len]
    have e1' : H8 t1 = some (.tup [.int (0, 0 - p).1, .int (0, 0 - p).2]) := s8 _ _ (s6 _ _ e1)
    have e3' : H8 t3 = some (.tup [.int ((0, 0) : Int × Int).1, .int ((0, 0) : Int × Int).2]) := s8 _ _ e36
    have T1 : Tups H8 (t1 :: as5) (ends p (0, 0 - p) ms) := ⟨by rw [ends_len, List.length_cons, l5], fun i a x h1 h2 => by
      cases i with
      | zero => cases h1; cases h2; exact e1'
      | succ i => exact (ht6.mono fun b xs e => s8 _ _ e).2 i a x h1 h2⟩
    have T2 : Tups H8 (t3 :: as7) (ends p (0, 0) ms) := ⟨by rw [ends_len, List.length_cons, l7], fun i a x h1 h2 => by
      cases i with
      | zero => cases h1; cases h2; exact e3'
      | succ i => exact ht8.2 i a x h1 h2⟩
    refine ⟨d6, d8, [V.ref t1] ++ as5.map V.ref, [V.ref t3] ++ as7.map V.ref, rfl, rfl, SqL.of (s8 _ _ e6), SqL.of e8, by simp [l5, l7], by simp, fun H9 p9 ts s9 np9 hp9 lts hts => ?_⟩
    have s09 : Same H H9 := s4.trans (s6.trans (s8.trans s9))
    walk_at "go"
    have z0 : (0 : Int) - p = -p := by omega
    rw [z0] at T1
    refine h p9 ts H9 ?_ s09 hp9 ⟨by rw [lts, ends_len]; simp [l5], fun i t x y h1 h2 h3 => ?_⟩
    · exact (s4.trans (s6.trans s8)).free np9
    · have hi : i < ms.length + 1 := by
        have := (List.getElem?_eq_some_iff.mp h2).1
        rwa [ends_len] at this
      have a1 : (t1 :: as5)[i]? = some ((t1 :: as5)[i]'(by simp [l5]; omega)) := List.getElem?_eq_getElem _
      have a2 : (t3 :: as7)[i]? = some ((t3 :: as7)[i]'(by simp [l7]; omega)) := List.getElem?_eq_getElem _
      refine ⟨_, _, hts i t _ _ h1 (show ((t1 :: as5).map V.ref)[i]? = _ by rw [List.getElem?_map, a1]; rfl) (show ((t3 :: as7).map V.ref)[i]? = _ by rw [List.getElem?_map, a2]; rfl), s9 _ _ (T1.2 i _ x a1 h2), s9 _ _ (T2.2 i _ y a2 h3)⟩
def spKnown (K : PySem.W.Frag) : Sp := fun vs H Q _ => ∃ (g : Addr) (r p : Int) (l : Addr) (ms : List Int), vs = [.ref g, .ref l] ∧ GearAt H g r p ∧ SqL K H l (ms.map V.int) ∧ ms.length ≤ 100 ∧
  ∀ (q : Addr) (H' : Hp), H q = none → Same H H' → H' q = some (.tup [.int (pos p (0, -p) ms).1, .int (pos p (0, -p) ms).2, .int (pos p (0, 0) ms).2]) → Q (.ref q) H'
theorem spKnown_i {g l : Addr} {r p : Int} {ms : List Int} {H : Hp} {Q : VK} {E : XK} (G : GearAt H g r p) (hl : SqL K H l (ms.map V.int)) (hm : ms.length ≤ 100)
    (h : ∀ (q : Addr) (H' : Hp), H q = none → Same H H' → H' q = some (.tup [.int (pos p (0, -p) ms).1, .int (pos p (0, -p) ms).2, .int (pos p (0, 0) ms).2]) → Q (.ref q) H') : spKnown K [.ref g, .ref l] H Q E := ⟨g, r, p, l, ms, rfl, G, hl, hm, h⟩
theorem ok_known (F : FunAt K mg "known" s_known) (H_need_gear : Has P w K mg base CX0 1 "need_gear" spNG) (H_need_moves : Has P w K mg base CX0 1 "need_moves" (spNM K)) (H_both_ends : Has P w K mg base CX0 3 "both_ends" (spBE K)) : Has P w K mg base CX0 4 "known" (spKnown K) := by
  refine F.ok sc_known bo_known (fun vs H Q E h => ?_) (fun f cdv A outer s H vs Q E hr h => ?_)
  · obtain ⟨g, r, p, l, ms, rfl, _⟩ := h
    rfl
  · obtain ⟨g, r, p, l, ms, rfl, G, hl, hm, h⟩ := h
    refine ⟨_, (pss_cons (ps_expr (pe_has H_need_gear hr (by omega) rfl pass0 (pa_cons (pv 0) pa_nil)))
 (pss_cons (ps_expr (pe_has H_need_moves hr (by omega) rfl pass0 (pa_cons (pv 1) pa_nil)))
 (pss_cons (ps_asg (pe_ix (kix (K := K) rfl) (pe_has H_both_ends hr (by omega) rfl pass0 (pa_cons (pv 0) (pa_cons (pv 1) pa_nil))) (pe_un un_neg pe_int) (fun _ _ => rfl)) (kpg_tup (K := K) rfl rfl (pgs_cons (pg_name (i := 2) sc_known.nd rfl (by first | exact Or.inl rfl | exact Or.inr rfl)) (pgs_cons (pg_name (i := 3) sc_known.nd rfl (by first | exact Or.inl rfl | exact Or.inr rfl)) pgs_nil))))
 (pss_one (ps_ret (pe_tup (pa_cons (pe_ix (kix (K := K) rfl) (pv 2) pe_int (fun _ _ => rfl)) (pa_cons (pe_ix (kix (K := K) rfl) (pv 2) pe_int (fun _ _ => rfl)) (pa_cons (pe_ix (kix (K := K) rfl) (pv 3) pe_int (fun _ _ => rfl)) pa_nil))))))))), ?_⟩
    refine r_start (σ' := [some (.ref g), some (.ref l), none, none]) rfl ?_
    walk_at "go"
    refine spNG_i G ?_
    walk_at "go"
    refine spNM_i hl hm ?_
    walk_at "go"
    refine spBE_i G.at_ hl hm fun q ts H1 nq s1 hq hd => ?_
    walk_at "go"
    have lt : ts.length = ms.length + 1 := by rw [hd.1, ends_len]
    obtain ⟨t, ht⟩ : ∃ t, ts[ms.length]? = some t := ⟨ts[ms.length]'(by omega), List.getElem?_eq_getElem _⟩
    have x1 := ends_at p (0, -p) ms (Nat.le_refl _)
    have x2 := ends_at p (0, 0) ms (Nat.le_refl _)
    rw [List.take_length] at x1 x2
    obtain ⟨a, b, g1, g2, g3⟩ := hd.2 _ t _ _ ht x1 x2
    refine r_ix (.inl (SqL.of hq)) (at_neg1 (n := ms.length) (by rw [List.length_map]; exact lt) (by rw [List.getElem?_map, ht]; rfl)) ?_
    walk_at "go"
    intro q2 nq2
    walk_at "go"
    exact h q2 _ (s1.free nq2) (by walk_at "fr") upd_same
end
end Rd

namespace Rd
open PySem L2
section
variable {P : Program} {w : World} {K : PySem.W.Frag} {mg : Str → Option Value} {base : Heap}
/-- behind i moves the shaft is known -/
def Kn (p : Int) (ms : List Int) (i : Nat) : Prop := pos p (0, -p) (ms.take i) = pos p (0, 0) (ms.take i)
instance (p : Int) (ms : List Int) (i : Nat) : Decidable (Kn p ms i) := inferInstanceAs (Decidable (_ = _))
/-- what settled tells -/
def SetV (p : Int) (ms : List Int) (v : V) : Prop := (∃ j : Nat, v = .int j ∧ j ≤ ms.length ∧ Kn p ms j ∧ ∀ i, i < j → ¬ Kn p ms i) ∨ (v = .non ∧ ∀ i, i ≤ ms.length → ¬ Kn p ms i)
theorem SetV.one {p : Int} {ms : List Int} {u v : V} (a : SetV p ms u) (b : SetV p ms v) : u = v := by
  rcases a with ⟨j, rfl, hj, kj, fj⟩ | ⟨rfl, na⟩
  · rcases b with ⟨i, rfl, hi, ki, fi⟩ | ⟨rfl, nb⟩
    · have : i = j := by
        rcases Nat.lt_trichotomy i j with h | h | h
        · exact absurd ki (fj i h)
        · exact h
        · exact absurd kj (fi j h)
      rw [this]
    · exact absurd kj (nb j hj)
  · rcases b with ⟨i, rfl, hi, ki, fi⟩ | ⟨rfl, nb⟩
    · exact absurd ki (na i hi)
    · rfl
def spSettled (K : PySem.W.Frag) : Sp := fun vs H Q _ => ∃ (g : Addr) (r p : Int) (l : Addr) (ms : List Int), vs = [.ref g, .ref l] ∧ GearAt H g r p ∧ SqL K H l (ms.map V.int) ∧ ms.length ≤ 100 ∧
  ∀ (v : V) (H' : Hp), Same H H' → SetV p ms v → Q v H'
theorem spSettled_i {g l : Addr} {r p : Int} {ms : List Int} {H : Hp} {Q : VK} {E : XK} (G : GearAt H g r p) (hl : SqL K H l (ms.map V.int)) (hm : ms.length ≤ 100)
    (h : ∀ (v : V) (H' : Hp), Same H H' → SetV p ms v → Q v H') : spSettled K [.ref g, .ref l] H Q E := ⟨g, r, p, l, ms, rfl, G, hl, hm, h⟩
theorem ok_settled (B : Bl mg) (F : FunAt K mg "settled" s_settled) (H_need_gear : Has P w K mg base CX0 1 "need_gear" spNG) (H_need_moves : Has P w K mg base CX0 1 "need_moves" (spNM K)) (H_both_ends : Has P w K mg base CX0 3 "both_ends" (spBE K)) : Has P w K mg base CX0 4 "settled" (spSettled K) := by
  refine F.ok sc_settled bo_settled (fun vs H Q E h => ?_) (fun f cdv A outer s H vs Q E hr h => ?_)
  · obtain ⟨g, r, p, l, ms, rfl, _⟩ := h
    rfl
  · obtain ⟨g, r, p, l, ms, rfl, G, hl, hm, h⟩ := h
    refine ⟨_, (pss_cons (ps_expr (pe_has H_need_gear hr (by omega) rfl pass0 (pa_cons (pv 0) pa_nil)))
 (pss_cons (ps_expr (pe_has H_need_moves hr (by omega) rfl pass0 (pa_cons (pv 1) pa_nil)))
 (pss_cons (ps_for PassesOwn.never rfl (kpi_enum (K := K) rfl rfl B.enumerate (pa_cons (pe_has H_both_ends hr (by omega) rfl pass0 (pa_cons (pv 0) (pa_cons (pv 1) pa_nil))) pa_nil)) (kpg_tup (K := K) rfl rfl (pgs_cons (pg_name (i := 2) sc_settled.nd rfl (by first | exact Or.inl rfl | exact Or.inr rfl)) (pgs_cons (kpg_tup (K := K) rfl rfl (pgs_cons (pg_name (i := 3) sc_settled.nd rfl (by first | exact Or.inl rfl | exact Or.inr rfl)) (pgs_cons (pg_name (i := 4) sc_settled.nd rfl (by first | exact Or.inl rfl | exact Or.inr rfl)) pgs_nil))) pgs_nil))) (pss_one (ps_if (pt_cmpR (kop_eq (K := K) rfl hr.units) (pv 3) (pv 4) (nomark _)) (pss_one (ps_ret (pv 2))) pss_nil)))
 (pss_one (ps_ret pe_non))))), ?_⟩
    refine r_start (σ' := [some (.ref g), some (.ref l), none, none, none]) rfl ?_
    walk_at "go"
    refine spNG_i G ?_
    walk_at "go"
    refine spNM_i hl hm ?_
    walk_at "go"
    refine spBE_i G.at_ hl hm fun q ts H1 nq s1 hq hd => ?_
    have lt : ts.length = ms.length + 1 := by rw [hd.1, ends_len]
    refine ⟨_, _, rfl, SqL.of hq, fw_enum (K := K) (a := q) (xs := ts.map V.ref) (fun i σ H2 => ∃ v2 v3 v4, σ = [some (.ref g), some (.ref l), v2, v3, v4] ∧ Same H1 H2 ∧ ∀ j, j < i → ¬ Kn p ms j)
      ⟨_, _, _, rfl, Same.refl _, fun j hj => by omega⟩ (fun i σ H2 _ ⟨_, _, _, _, h2, _⟩ => SqL.of (h2 _ _ hq)) ?_ ?_⟩
    · rintro i y σ H2 T hi ⟨v2, v3, v4, rfl, h2, hn⟩ nT
      obtain ⟨t, ht, rfl⟩ := map_at hi
      have hil : i ≤ ms.length := by
        have := (List.getElem?_eq_some_iff.mp ht).1
        omega
      obtain ⟨a, b, e1, e2, e3⟩ := hd.2 i t _ _ ht (ends_at p (0, -p) ms hil) (ends_at p (0, 0) ms hil)
      have e1' := at_new (u := .tup [.int (i : Nat), .ref t]) nT (h2 _ _ e1)
      have e2' := at_new (u := .tup [.int (i : Nat), .ref t]) nT (h2 _ _ e2)
      have e3' := at_new (u := .tup [.int (i : Nat), .ref t]) nT (h2 _ _ e3)
      have s3 : Same H1 (upd H2 T (.tup [.int (i : Nat), .ref t])) := h2.trans (same_new nT)
      have eT : upd H2 T (.tup [.int (i : Nat), .ref t]) T = some (.tup [.int (i : Nat), .ref t]) := upd_same
      generalize upd H2 T (.tup [.int (i : Nat), .ref t]) = H3 at e1' e2' e3' s3 eT ⊢
      walk_at "go"
      refine r_eqPair e2' e3' ?_
      walk_at "go"
      refine iteD (fun c => ?_) (fun c => ?_)
      · walk_at "go"
        exact h _ _ (s1.trans s3) (.inl ⟨i, rfl, hil, c, hn⟩)
      · walk_at "go"
        refine ⟨_, _, _, rfl, s3, fun j hj => ?_⟩
        by_cases e : j = i
        · subst e
          exact c
        · exact hn j (by omega)
    · rintro σ H2 ⟨v2, v3, v4, rfl, h2, hn⟩
      walk_at "go"
      rw [List.length_map] at hn
      exact h _ _ (s1.trans h2) (.inr ⟨rfl, fun i hi => hn i (by omega)⟩)
end
end Rd

namespace Rd
/-- where the motor is behind i moves -/
def mot (ms : List Int) (i : Nat) : Int := (ms.take i).sum
theorem pos_mot (p : Int) (ms : List Int) (z : Int × Int) : (pos p z ms).1 = z.1 + ms.sum := by
  induction ms generalizing z with
  | nil => show z.1 = z.1 + 0; omega
  | cons k r ih =>
    show (pos p (nx p z k) r).1 = z.1 + (k :: r).sum
    rw [ih (nx p z k), List.sum_cons]
    show z.1 + k + r.sum = _
    omega
/-- hi and lo are the greatest and the least place of the motor behind no more than i moves -/
structure Ext (ms : List Int) (i : Nat) (lo hi : Int) : Prop where
  lo_in : ∃ j, j ≤ i ∧ mot ms j = lo
  hi_in : ∃ j, j ≤ i ∧ mot ms j = hi
  all : ∀ j, j ≤ i → lo ≤ mot ms j ∧ mot ms j ≤ hi
theorem Ext.one {ms : List Int} {i : Nat} {a b c d : Int} (x : Ext ms i a b) (y : Ext ms i c d) : a = c ∧ b = d := by
  obtain ⟨j1, h1, e1⟩ := x.lo_in
  obtain ⟨j2, h2, e2⟩ := x.hi_in
  obtain ⟨j3, h3, e3⟩ := y.lo_in
  obtain ⟨j4, h4, e4⟩ := y.hi_in
  have a1 := x.all j3 h3
  have a2 := x.all j4 h4
  have a3 := y.all j1 h1
  have a4 := y.all j2 h2
  omega
theorem Ext.zero (ms : List Int) : Ext ms 0 0 0 := ⟨⟨0, Nat.le_refl _, rfl⟩, ⟨0, Nat.le_refl _, rfl⟩, fun j hj => by
  have : j = 0 := by omega
  subst this
  exact ⟨Int.le_refl _, Int.le_refl _⟩⟩
theorem Ext.succ {ms : List Int} {i : Nat} {lo hi : Int} (x : Ext ms i lo hi) : Ext ms (i + 1) (min lo (mot ms (i + 1))) (max hi (mot ms (i + 1))) := by
  obtain ⟨j1, h1, e1⟩ := x.lo_in
  obtain ⟨j2, h2, e2⟩ := x.hi_in
  refine ⟨?_, ?_, fun j hj => ?_⟩
  · by_cases c : lo ≤ mot ms (i + 1)
    · exact ⟨j1, by omega, by rw [Int.min_eq_left c]; exact e1⟩
    · exact ⟨i + 1, Nat.le_refl _, by rw [Int.min_eq_right (by omega)]⟩
  · by_cases c : mot ms (i + 1) ≤ hi
    · exact ⟨j2, by omega, by rw [Int.max_eq_left c]; exact e2⟩
    · exact ⟨i + 1, Nat.le_refl _, by rw [Int.max_eq_right (by omega)]⟩
  · by_cases e : j = i + 1
    · subst e
      omega
    · have := x.all j (by omega)
      omega
/-- what may be, by the swing -/
def Span (p lo hi : Int) (u v : Int × Int) : Prop := (hi - lo < p ∧ u.2 = hi - p ∧ v.2 = lo) ∨ (p ≤ hi - lo ∧ u.2 = v.2)
theorem span_at {p : Int} (hp : 0 ≤ p) (ms : List Int) : ∀ i, i ≤ ms.length → ∃ lo hi, Ext ms i lo hi ∧ Span p lo hi (pos p (0, -p) (ms.take i)) (pos p (0, 0) (ms.take i))
  | 0, _ => ⟨0, 0, Ext.zero ms, by
    show Span p 0 0 (0, -p) (0, 0)
    unfold Span
    dsimp only
    omega⟩
  | i + 1, h => by
    obtain ⟨lo, hi, x, s⟩ := span_at hp ms i (by omega)
    obtain ⟨k, hk⟩ : ∃ k, ms[i]? = some k := ⟨ms[i], List.getElem?_eq_getElem (by omega)⟩
    refine ⟨_, _, x.succ, ?_⟩
    have em : mot ms (i + 1) = mot ms i + k := by
      unfold mot
      rw [take_snoc hk, List.sum_append]
      simp
    have e1 : (pos p (0, -p) (ms.take i)).1 = mot ms i := by rw [pos_mot]; unfold mot; dsimp only; omega
    have e2 : (pos p (0, 0) (ms.take i)).1 = mot ms i := by rw [pos_mot]; unfold mot; dsimp only; omega
    have g1 : Stg p (pos p (0, -p) (ms.take i)) := Stg.pos hp (by unfold Stg; dsimp only; omega)
    have g2 : Stg p (pos p (0, 0) (ms.take i)) := Stg.pos hp (by unfold Stg; dsimp only; omega)
    have ii := x.all i (Nat.le_refl _)
    rw [take_snoc hk, pos_snoc, pos_snoc, em]
    generalize pos p (0, -p) (ms.take i) = u at s e1 g1
    generalize pos p (0, 0) (ms.take i) = v at s e2 g2
    obtain ⟨g11, g12⟩ := g1
    obtain ⟨g21, g22⟩ := g2
    unfold Span nx pb at *
    dsimp only
    rw [e1] at g11 g12 ⊢
    rw [e2] at g21 g22 ⊢
    generalize mot ms i = m at *
    omega
/-- it has swung -/
def Sw (p : Int) (ms : List Int) (i : Nat) : Prop := ∃ lo hi, Ext ms i lo hi ∧ p ≤ hi - lo
theorem kn_sw {p : Int} (hp : 0 ≤ p) {ms : List Int} {i : Nat} (h : i ≤ ms.length) : Kn p ms i ↔ Sw p ms i := by
  obtain ⟨lo, hi, x, s⟩ := span_at hp ms i h
  have e : (pos p (0, -p) (ms.take i)).1 = (pos p (0, 0) (ms.take i)).1 := by rw [pos_mot, pos_mot]
  constructor
  · intro k
    unfold Kn at k
    refine ⟨lo, hi, x, ?_⟩
    rcases s with ⟨a, b, c⟩ | ⟨a, _⟩
    · rw [k] at b
      omega
    · exact a
  · rintro ⟨lo', hi', x', hs⟩
    obtain ⟨q1, q2⟩ := x.one x'
    subst q1 q2
    rcases s with ⟨a, _⟩ | ⟨_, b⟩
    · omega
    · exact Prod.ext e b
theorem sw_mono {p : Int} {ms : List Int} {i j : Nat} (hj : i ≤ j) (h : Sw p ms i) : Sw p ms j := by
  induction hj with
  | refl => exact h
  | step _ ih =>
    obtain ⟨lo, hi, x, s⟩ := ih
    exact ⟨_, _, x.succ, by omega⟩
/-- how much is not known never grows, and is never less than nothing -/
theorem gap_step {p k : Int} (hp : 0 ≤ p) {u v : Int × Int} (e : u.1 = v.1) (h : u.2 ≤ v.2) : 0 ≤ (nx p v k).2 - (nx p u k).2 ∧ (nx p v k).2 - (nx p u k).2 ≤ v.2 - u.2 := by
  unfold nx pb
  dsimp only
  rw [e]
  omega
theorem gap_at {p : Int} (hp : 0 ≤ p) (ms : List Int) {i : Nat} (h : i < ms.length) : 
    0 ≤ (pos p (0, 0) (ms.take (i + 1))).2 - (pos p (0, -p) (ms.take (i + 1))).2 ∧ (pos p (0, 0) (ms.take (i + 1))).2 - (pos p (0, -p) (ms.take (i + 1))).2 ≤ (pos p (0, 0) (ms.take i)).2 - (pos p (0, -p) (ms.take i)).2 := by
  have base : ∀ j, j ≤ ms.length → (pos p (0, -p) (ms.take j)).2 ≤ (pos p (0, 0) (ms.take j)).2 := fun j => by
    induction j with
    | zero => intro _; show -p ≤ 0; omega
    | succ j ih =>
      intro hj
      obtain ⟨k, hk⟩ : ∃ k, ms[j]? = some k := ⟨ms[j], List.getElem?_eq_getElem (by omega)⟩
      rw [take_snoc hk, pos_snoc, pos_snoc]
      have := (gap_step (k := k) hp (u := pos p (0, -p) (ms.take j)) (v := pos p (0, 0) (ms.take j)) (by rw [pos_mot, pos_mot]) (ih (by omega))).1
      omega
  obtain ⟨k, hk⟩ : ∃ k, ms[i]? = some k := ⟨ms[i], List.getElem?_eq_getElem (by omega)⟩
  rw [take_snoc hk, pos_snoc, pos_snoc]
  exact gap_step hp (by rw [pos_mot, pos_mot]) (base i (by omega))
/-- between the least and the greatest from the start, between them at the end -/
theorem between {p : Int} (ms : List Int) : ∀ {u v z : Int × Int}, u.1 = z.1 → v.1 = z.1 → u.2 ≤ z.2 → z.2 ≤ v.2 → (pos p u ms).2 ≤ (pos p z ms).2 ∧ (pos p z ms).2 ≤ (pos p v ms).2 := by
  induction ms with
  | nil => exact fun _ _ a b => ⟨a, b⟩
  | cons k r ih =>
    intro u v z e1 e2 a b
    refine ih (u := nx p u k) (v := nx p v k) (z := nx p z k) ?_ ?_ ?_ ?_
    · show u.1 + k = z.1 + k; rw [e1]
    · show v.1 + k = z.1 + k; rw [e2]
    · unfold nx pb
      dsimp only
      rw [e1]
      omega
    · unfold nx pb
      dsimp only
      rw [e2]
      omega
theorem mem_mots {ms : List Int} {n k : Nat} (h : k < n) {x : Int} : x ∈ ((List.range n).map (mot ms)).take (k + 1) ↔ ∃ j, j ≤ k ∧ mot ms j = x := by
  rw [← List.map_take, List.take_range, Nat.min_eq_left (by omega), List.mem_map]
  constructor
  · rintro ⟨j, hj, e⟩
    exact ⟨j, by have := List.mem_range.mp hj; omega, e⟩
  · rintro ⟨j, hj, e⟩
    exact ⟨j, List.mem_range.mpr (by omega), e⟩
theorem ext_of {ms : List Int} {n k : Nat} (h : k < n) {a b : Int} (ha : a ∈ ((List.range n).map (mot ms)).take (k + 1)) (la : ∀ y ∈ ((List.range n).map (mot ms)).take (k + 1), a ≤ y)
    (hb : b ∈ ((List.range n).map (mot ms)).take (k + 1)) (lb : ∀ y ∈ ((List.range n).map (mot ms)).take (k + 1), y ≤ b) : Ext ms k a b :=
  ⟨(mem_mots h).mp ha, (mem_mots h).mp hb, fun j hj => ⟨la _ ((mem_mots h).mpr ⟨j, hj, rfl⟩), lb _ ((mem_mots h).mpr ⟨j, hj, rfl⟩)⟩⟩
/-- the numbers of the moves behind which it has swung -/
def swl (p : Int) (ms : List Int) (n : Nat) : List Nat := (List.range n).filter fun k => decide (Kn p ms k)
theorem swl_succ (p : Int) (ms : List Int) (n : Nat) : swl p ms (n + 1) = swl p ms n ++ (if Kn p ms n then [n] else []) := by
  unfold swl
  rw [List.range_succ, List.filter_append, List.filter_cons, List.filter_nil]
  congr 1
  by_cases c : Kn p ms n
  · rw [if_pos c, if_pos (decide_eq_true c)]
  · rw [if_neg c, if_neg (by simpa using c)]
theorem swl_head (p : Int) (ms : List Int) (n : Nat) : (swl p ms n = [] ∧ ∀ i, i < n → ¬ Kn p ms i) ∨ ∃ j r, swl p ms n = j :: r ∧ j < n ∧ Kn p ms j ∧ ∀ i, i < j → ¬ Kn p ms i := by
  induction n with
  | zero => exact .inl ⟨rfl, fun i hi => by omega⟩
  | succ n ih =>
    rw [swl_succ]
    rcases ih with ⟨e, h⟩ | ⟨j, r, e, hj, kj, h⟩
    · by_cases c : Kn p ms n
      · refine .inr ⟨n, [], ?_, by omega, c, h⟩
        rw [e, if_pos c]
        rfl
      · refine .inl ⟨by rw [e, if_neg c]; rfl, fun i hi => ?_⟩
        by_cases q : i = n
        · subst q
          exact c
        · exact h i (by omega)
    · refine .inr ⟨j, r ++ (if Kn p ms n then [n] else []), by rw [e]; rfl, by omega, kj, h⟩
end Rd

namespace Rd
open PySem L2 PyProof.Rows
theorem r_lstRg {ta tb : TE} {σ : L2.St} {H : Hp} {Q : VK} (k : ta σ H fun x H1 => tb σ H1 fun y H2 => ∃ i j, x = .int i ∧ y = .int j ∧ RgOk i j ∧ ∀ q, H2 q = none → Q (.ref q) (upd H2 q (.lst (rgV i j)))) : tLstRg (tRg2 ta tb) σ H Q := k
/-- the places where the shaft may be behind k moves, one for each at first -/
def plc (p : Int) (ms : List Int) (k : Nat) : List Int := (List.range (p.toNat + 1)).map fun i : Nat => (pos p (0, -p + (i : Int)) (ms.take k)).2
theorem plc_len (p : Int) (ms : List Int) (k : Nat) : (plc p ms k).length = p.toNat + 1 := by
  unfold plc
  rw [List.length_map, List.length_range]
theorem plc_at {p : Int} {ms : List Int} {k i : Nat} (h : i ≤ p.toNat) : (plc p ms k)[i]? = some (pos p (0, -p + (i : Int)) (ms.take k)).2 := by
  unfold plc
  rw [List.getElem?_map, List.getElem?_range (by omega)]
  rfl
theorem plc_rg {p : Int} (hp : 0 ≤ p) (ms : List Int) : rgV (0 - p) 1 = (plc p ms 0).map V.int := by
  unfold rgV plc
  rw [show (1 - (0 - p)).toNat = p.toNat + 1 by omega, List.map_map]
  refine List.map_congr_left fun i _ => ?_
  show V.int (0 - p + (i : Int)) = V.int (-p + (i : Int))
  congr 1
  omega
theorem gap_pos {p : Int} (hp : 0 ≤ p) : ∀ (ms : List Int) {u v : Int × Int}, u.1 = v.1 → u.2 ≤ v.2 → 0 ≤ (pos p v ms).2 - (pos p u ms).2 ∧ (pos p v ms).2 - (pos p u ms).2 ≤ v.2 - u.2
  | [], u, v, _, h => by
    show 0 ≤ v.2 - u.2 ∧ v.2 - u.2 ≤ v.2 - u.2
    omega
  | k :: r, u, v, e, h => by
    have a := gap_step (k := k) hp e h
    have b := gap_pos hp r (u := nx p u k) (v := nx p v k) (by unfold nx; dsimp only; rw [e]) (by omega)
    show 0 ≤ (pos p (nx p v k) r).2 - (pos p (nx p u k) r).2 ∧ (pos p (nx p v k) r).2 - (pos p (nx p u k) r).2 ≤ v.2 - u.2
    omega
theorem plc_ends {p : Int} (hp : 0 ≤ p) : (-p + ((p.toNat : Nat) : Int)) = 0 := by omega
theorem plc_dd {p : Int} (hp : 0 ≤ p) (ms : List Int) (k : Nat) : ((dd (plc p ms k)).length : Int) = (pos p (0, 0) (ms.take k)).2 - (pos p (0, -p) (ms.take k)).2 + 1 := by
  unfold dd
  rw [plc_len]
  have g : ∀ i : Nat, i ≤ p.toNat → (plc p ms k).getD i 0 = (pos p (0, -p + (i : Int)) (ms.take k)).2 := fun i hi => by
    rw [List.getD_eq_getElem?_getD, plc_at hi]
    rfl
  obtain ⟨e, le⟩ := firstMet_run (fun i => (plc p ms k).getD i 0) p.toNat fun i hi => by
    show (plc p ms k).getD (i + 1) 0 = (plc p ms k).getD i 0 ∨ (plc p ms k).getD (i + 1) 0 = (plc p ms k).getD i 0 + 1
    rw [g i (by omega), g (i + 1) (by omega)]
    have h := gap_pos hp (ms.take k) (u := (0, -p + (i : Int))) (v := (0, -p + ((i + 1 : Nat) : Int))) rfl (by dsimp only; omega)
    dsimp only at h
    omega
  rw [e, List.length_map, List.length_range]
  rw [g 0 (by omega), g _ (Nat.le_refl _), plc_ends hp] at le ⊢
  have z : (-p + ((0 : Nat) : Int)) = -p := by omega
  rw [z] at le ⊢
  omega
theorem plc_lo {p m : Int} (hp : 0 ≤ p) {ms : List Int} {k : Nat} (h1 : m ∈ plc p ms k) (h2 : ∀ y ∈ plc p ms k, m ≤ y) : m = (pos p (0, -p) (ms.take k)).2 := by
  have a := h2 _ (List.mem_of_getElem? (plc_at (p := p) (ms := ms) (k := k) (i := 0) (by omega)))
  obtain ⟨i, hi⟩ := List.getElem?_of_mem h1
  have hl : i ≤ p.toNat := by
    have := (List.getElem?_eq_some_iff.mp hi).1
    rw [plc_len] at this
    omega
  rw [plc_at hl] at hi
  have b := gap_pos hp (ms.take k) (u := (0, -p)) (v := (0, -p + (i : Int))) rfl (by dsimp only; omega)
  have z : (-p + ((0 : Nat) : Int)) = -p := by omega
  rw [z] at a
  cases hi
  omega
theorem plc_hi {p m : Int} (hp : 0 ≤ p) {ms : List Int} {k : Nat} (h1 : m ∈ plc p ms k) (h2 : ∀ y ∈ plc p ms k, y ≤ m) : m = (pos p (0, 0) (ms.take k)).2 := by
  have a := h2 _ (List.mem_of_getElem? (plc_at (p := p) (ms := ms) (k := k) (i := p.toNat) (Nat.le_refl _)))
  obtain ⟨i, hi⟩ := List.getElem?_of_mem h1
  have hl : i ≤ p.toNat := by
    have := (List.getElem?_eq_some_iff.mp hi).1
    rw [plc_len] at this
    omega
  rw [plc_at hl] at hi
  have b := gap_pos hp (ms.take k) (u := (0, -p + (i : Int))) (v := (0, 0)) rfl (by dsimp only; omega)
  rw [plc_ends hp] at a
  cases hi
  omega
theorem plc_kn {p : Int} (hp : 0 ≤ p) (ms : List Int) (k : Nat) : ((dd (plc p ms k)).length : Int) = 1 ↔ Kn p ms k := by
  rw [plc_dd hp]
  have e1 : (pos p (0, -p) (ms.take k)).1 = (pos p (0, 0) (ms.take k)).1 := by rw [pos_mot, pos_mot]
  unfold Kn
  constructor
  · exact fun e => Prod.ext e1 (by omega)
  · intro e
    rw [e]
    omega
theorem plc_succ {p x : Int} {ms : List Int} {k i : Nat} (h : ms[k]? = some x) : (pos p (0, -p + (i : Int)) (ms.take (k + 1))).2 = (nx p (pos p (0, -p + (i : Int)) (ms.take k)) x).2 := by
  rw [take_snoc h, pos_snoc]
/-- the first move so far behind which it is one place -/
def Fst (p : Int) (ms : List Int) (k : Nat) (v : V) : Prop := (∃ j : Nat, v = .int j ∧ j ≤ k ∧ Kn p ms j ∧ ∀ i, i < j → ¬ Kn p ms i) ∨ (v = .non ∧ ∀ i, i ≤ k → ¬ Kn p ms i)
theorem kn_zero {p : Int} (ms : List Int) : Kn p ms 0 ↔ p = 0 := by
  show ((0 : Int), -p) = (0, 0) ↔ p = 0
  constructor
  · intro e
    have := congrArg Prod.snd e
    dsimp only at this
    omega
  · intro e
    rw [e]
    rfl
end Rd

namespace Rd
open PySem L2
section
variable {P : Program} {w : World} {K : PySem.W.Frag} {mg : Str → Option Value} {base : Heap}
set_option maxHeartbeats 8000000 in
theorem ok_law {f : Addr} {fd : FuncData} (B : Bl mg) (F : Fun K "law" "law" s_law f fd) (H_law_start : Has P w K mg base CX0 1 "_law_start" (spStart K)) (H_law_drawn : Has P w K mg base CX0 1 "_law_drawn" (spDrawn K))
    (H_law_same : Has P w K mg base CX0 2 "_law_same" (spSame 2)) (H_law_gear : Has P w K mg base CX0 2 "_law_gear" (spGear K)) (H_law_moves : Has P w K mg base CX0 2 "_law_moves" (spMoves K)) (H_law_behind : Has P w K mg base CX0 1 "_law_behind" spLB)
    (H_known : Has P w K mg base CX0 4 "known" (spKnown K)) (H_settled : Has P w K mg base CX0 4 "settled" (spSettled K)) :
    FnOk P w K mg base CX0 6 f fd ["_law_script"] (spLaw K) := by
  refine F.ok sc_law (fun vs H Q E h => ?_) (fun cdv A outer s H vs Q E hr h => ?_)
  · obtain ⟨a, ns, rfl, _⟩ := h
    rfl
  · obtain ⟨a, ns, rfl, hS, hlen, k⟩ := h
    refine ⟨_, (pss_cons (ps_set (i := 1) sc_law.nd rfl (by first | exact Or.inl rfl | exact Or.inr rfl) (pe_has H_law_start hr (by omega) rfl pass0 (pa_cons (pv 0) pa_nil)))
 (pss_cons (ps_for PassesOwn.never rfl (pi_range1 rfl B.range (pa_cons pe_int pa_nil)) (pg_name (i := 2) sc_law.nd rfl (by first | exact Or.inl rfl | exact Or.inr rfl)) (pss_cons (ps_set (i := 3) sc_law.nd rfl (by first | exact Or.inl rfl | exact Or.inr rfl) (pe_has H_law_gear hr (by omega) rfl pass0 (pa_cons (pv 1) (pa_cons pe_bl pa_nil))))
 (pss_cons (ps_set (i := 3) sc_law.nd rfl (by first | exact Or.inl rfl | exact Or.inr rfl) (pe_tup (pa_cons (pe_ix (kix (K := K) rfl) (pv 3) pe_int (fun _ _ => rfl)) (pa_cons (pe_ix (kix (K := K) rfl) (pe_lst (pa_cons (pe_ix (kix (K := K) rfl) (pv 3) pe_int (fun _ _ => rfl)) (pa_cons (pe_has H_law_drawn hr (by omega) rfl pass0 (pa_cons (pv 1) (pa_cons pe_int pa_nil))) pa_nil))) (pe_has H_law_drawn hr (by omega) rfl pass0 (pa_cons (pv 1) (pa_cons pe_int pa_nil))) (fun _ _ => rfl)) pa_nil))))
 (pss_cons (ps_set (i := 4) sc_law.nd rfl (by first | exact Or.inl rfl | exact Or.inr rfl) (pe_has H_law_moves hr (by omega) rfl pass0 (pa_cons (pv 1) (pa_cons (pv 3) (pa_cons pe_int pa_nil)))))
 (pss_cons (ps_set (i := 5) sc_law.nd rfl (by first | exact Or.inl rfl | exact Or.inr rfl) (pe_listRg rfl rfl B.list (prg_2 rfl B.range (pe_op op_sub pe_int (pe_ix (kix (K := K) rfl) (pv 3) pe_int (fun _ _ => rfl))) pe_int)))
 (pss_cons (ps_set (i := 6) sc_law.nd rfl (by first | exact Or.inl rfl | exact Or.inr rfl) pe_int)
 (pss_cons (ps_set (i := 7) sc_law.nd rfl (by first | exact Or.inl rfl | exact Or.inr rfl) (pe_mid (pe_ifExp (pt_cmpR (kop_eq (K := K) rfl hr.units) (pe_ix (kix (K := K) rfl) (pv 3) pe_int (fun _ _ => rfl)) pe_int (nomark _)) pe_int pe_non)))
 (pss_cons (ps_for PassesOwn.never rfl (pi_range1 rfl B.range (pa_cons (pe_callB (kc_len (K := K) rfl) rfl B.len (by decide +kernel) (pa_cons (pv 4) pa_nil)) pa_nil)) (pg_name (i := 8) sc_law.nd rfl (by first | exact Or.inl rfl | exact Or.inr rfl)) (pss_cons (ps_setLc (i := 5) (own := [("_law_place", 11)]) (g := (gName 11)) rfl sc_law.nd rfl rfl (sw_true rfl rfl rfl (by decide +kernel)) (kpi_list (K := K) rfl (pv 5)) (blkOk_by (N := ["_law_script", "_law_state", "_law_turn", "_law_gear_here", "_law_moves_here", "_law_places", "_law_motor", "_law_first", "_law_k", "_law_handed", "_law_again", "_law_place"]) (sc := defScope s_law) (own := [("_law_place", 11)]) (by decide +kernel)) (fun _ _ _ _ _ => (pg_name (i := 11) sc_law.nd rfl (by first | exact Or.inl rfl | exact Or.inr rfl))) (fun _ _ _ _ _ => pts_nil) (fun _ _ _ _ _ => (pe_ix (kix (K := K) rfl) (pe_has H_law_behind hr (by omega) rfl pass0 (pa_cons (pv 3) (pa_cons (pe_tup (pa_cons (pv 6) (pa_cons (pv 11) pa_nil))) (pa_cons (pe_ix (kix (K := K) rfl) (pv 4) (pv 8) (fun _ _ => rfl)) pa_nil)))) pe_int (fun _ _ => rfl))))
 (pss_cons (ps_set (i := 6) sc_law.nd rfl (by first | exact Or.inl rfl | exact Or.inr rfl) (pe_op (kop_add (K := K) rfl) (pv 6) (pe_ix (kix (K := K) rfl) (pv 4) (pv 8) (fun _ _ => rfl))))
 (pss_one (ps_if (PW.pt (pw_and (pt_cmpR op_isN (pv 7) pe_non (nomark _)) (pw_and1 (pt_cmpR (kop_eq (K := K) rfl hr.units) (pe_lenSetD (K := K) rfl rfl B.len rfl B.set (pv 5)) pe_int (nomark _))))) (pss_one (ps_set (i := 7) sc_law.nd rfl (by first | exact Or.inl rfl | exact Or.inr rfl) (pe_op (kop_add (K := K) rfl) (pv 8) pe_int))) pss_nil)))))
 (pss_cons (ps_if (pt_cmpR (kop_ne (K := K) rfl hr.units) (pe_lenSetD (K := K) rfl rfl B.len rfl B.set (pv 5)) (pe_op (kop_add (K := K) rfl) (pe_op op_sub (pe_callB (kc_max (K := K) rfl rfl) rfl B.max (by decide +kernel) (pa_cons (pv 5) pa_nil)) (pe_callB (kc_min (K := K) rfl rfl) rfl B.min (by decide +kernel) (pa_cons (pv 5) pa_nil))) pe_int) (nomark _)) (pss_one (ps_ret pe_bl)) pss_nil)
 (pss_cons (ps_set (i := 9) sc_law.nd rfl (by first | exact Or.inl rfl | exact Or.inr rfl) (pe_callTy (kc_list (K := K) rfl) rfl B.list (by decide +kernel) (pa_cons (pv 4) pa_nil)))
 (pss_one (ps_for PassesOwn.never rfl (pi_range1 rfl B.range (pa_cons pe_int pa_nil)) (pg_name (i := 10) sc_law.nd rfl (by first | exact Or.inl rfl | exact Or.inr rfl)) (pss_cut (ps_if (PW.pt (pw_or (pt_not (pt_val (pe_has H_law_same hr (by omega) rfl pass0 (pa_cons (pe_has H_known hr (by omega) rfl pass0 (pa_cons (pv 3) (pa_cons (pv 9) pa_nil))) (pa_cons (pe_tup (pa_cons (pv 6) (pa_cons (pe_callB (kc_min (K := K) rfl rfl) rfl B.min (by decide +kernel) (pa_cons (pv 5) pa_nil)) (pa_cons (pe_callB (kc_max (K := K) rfl rfl) rfl B.max (by decide +kernel) (pa_cons (pv 5) pa_nil)) pa_nil)))) pa_nil))))) (pw_or1 (pt_cmpR (kop_ne (K := K) rfl hr.units) (pv 9) (pv 4) (nomark _))))) (pss_one (ps_ret pe_bl)) pss_nil)
 (pss_one (ps_if (PW.pt (pw_or (pt_not (pt_val (pe_has H_law_same hr (by omega) rfl pass0 (pa_cons (pe_has H_settled hr (by omega) rfl pass0 (pa_cons (pv 3) (pa_cons (pv 9) pa_nil))) (pa_cons (pv 7) pa_nil))))) (pw_or1 (pt_cmpR (kop_ne (K := K) rfl hr.units) (pv 9) (pv 4) (nomark _))))) (pss_one (ps_ret pe_bl)) pss_nil)))))))))))))))
 (pss_one (ps_ret pe_bl)))), ?_⟩
    refine r_start (σ' := [some (.ref a), none, none, none, none, none, none, none, none, none, none, none]) rfl ?_
    walk_at "go"
    refine spStart_i hS fun st H1 _ sm1 s1 => ?_
    walk_at "go"
    refine ⟨_, rfl, by decide, by decide, fw_range (fun i σ H2 => ∃ v2 v3 v4 v5 v6 v7 v8 v9 v10 v11, σ = [some (.ref a), some (.ref st), v2, v3, v4, v5, v6, v7, v8, v9, v10, v11] ∧ St H2 st a ∧ SqL K H2 a (ns.map V.int))
      ⟨_, _, _, _, _, _, _, _, _, _, rfl, s1, sm1.seq hS⟩ ?_ ?_⟩
    · rintro i σ H2 hi ⟨v2, v3, v4, v5, v6, v7, v8, v9, v10, v11, rfl, s2, hS2⟩
      walk_at "go"
      refine spGear_i s2 hS2 fun g0 r p0 H3 r2 r6 q0 q6 small s3 R3 hg0 => ?_
      have sm := small rfl
      have hS3 := fr_sq R3 hS2
      walk_at "go"
      refine spDrawn_i s3 hS3 (by omega) (by decide) fun w1 H4 a4 b4 s4 R4 => ?_
      have hS4 := fr_sq R4 hS3
      have hg04 : H4 g0 = some (.tup [.int r, .int p0]) := by walk_at "hp"
      walk_at "go"
      intro t5 n5
      walk_at "go"
      refine spDrawn_i (by walk_at "ss") (by walk_at "sq") (by omega) (by decide) fun w2 H5 a5 b5 s5 R5 => ?_
      obtain ⟨p, e5, m5⟩ := pick2 p0 w1 a5 (by omega)
      have p0' : 0 ≤ p := by omega
      have p60 : p ≤ 60 := by omega
      refine r_ix (by walk_at "sq") e5 ?_
      walk_at "go"
      intro g ng
      walk_at "go"
      have hS5 : SqL K H5 a (ns.map V.int) := by walk_at "sq"
      refine spMoves_i (s5.new ng) (sq_new ng hS5) upd_same (by omega) (by omega) p0' (by omega) (by omega) (by omega) fun l ms H6 hml hmb s6 R6 hl => ?_
      have G6 : GearAt H6 g r p := ⟨R6 _ _ upd_same nst_tup, r2, r6, p0', by omega⟩
      have hS6 : SqL K H6 a (ns.map V.int) := fr_sq R6 (sq_new ng hS5)
      have hml2 : ms.length ≤ 100 := by omega
      have hg6 := G6.at_
      walk_at "go"
      refine r_lstRg ?_
      walk_at "go"
      refine ⟨_, _, rfl, rfl, ⟨by omega, by omega, by omega, by omega, by omega⟩, fun pl npl => ?_⟩
      rw [plc_rg p0']
      walk_at "go"
      refine r_mid (fun v H' => H' = upd H6 pl (.lst ((plc p ms 0).map V.int)) ∧ Fst p ms 0 v) ?_ ?_
      · walk_at "go"
        refine iteD (fun c => ?_) (fun c => ?_)
        · walk_at "go"
          exact ⟨rfl, .inl ⟨0, rfl, Nat.le_refl _, (kn_zero ms).mpr c, fun i hi => by omega⟩⟩
        · walk_at "go"
          refine ⟨rfl, .inr ⟨rfl, fun i hi => ?_⟩⟩
          have : i = 0 := by omega
          subst this
          exact fun z => c ((kn_zero ms).mp z)
      rintro v0 _ ⟨rfl, hv0⟩
      walk_at "go"
      rw [List.length_map]
      refine ⟨_, rfl, by omega, by omega, fw_range (fun j σ H7 => ∃ (pl : Addr) (v7 : V) (v8 v11 : Option V), σ = [some (.ref a), some (.ref st), some (.int (0 + i)), some (.ref g), some (.ref l), some (.ref pl), some (.int (mot ms j)), some v7, v8, v9, v10, v11] ∧ Same H6 H7 ∧
          H7 pl = some (.lst ((plc p ms j).map V.int)) ∧ Fst p ms j v7)
        ⟨pl, v0, _, _, rfl, same_new npl, upd_same, hv0⟩ ?_ ?_⟩
      · rintro j σ H7 hj ⟨pl, v7, v8, v11, rfl, h7, hpl, hf⟩
        obtain ⟨x, hx⟩ : ∃ x, ms[j]? = some x := ⟨_, List.getElem?_eq_getElem hj⟩
        walk_at "go"
        refine ⟨_, rfl, ⟨_, SqL.of hpl⟩, fun D nD => lcw_list (K := K) (a := pl) (xs := (plc p ms j).map V.int) (σw := [some (.ref a), some (.ref st), some (.int (0 + i)), some (.ref g), some (.ref l), some (.ref pl), some (.int (mot ms j)), some v7, some (.int (0 + j)), v9, v10, none])
          (fun n H8 => Same H7 H8 ∧ H8 D = some (.lst (((plc p ms (j + 1)).take n).map V.int))) rfl ⟨same_new nD, upd_same⟩ (fun n H8 _ h => SqL.of (h.1 _ _ hpl)) (fun n y H8 hn h => ?_) fun H8 h => ?_⟩
        · obtain ⟨h8, hD⟩ := h
          obtain ⟨z, hz, rfl⟩ := map_at hn
          have hnl : n ≤ p.toNat := by
            have := (List.getElem?_eq_some_iff.mp hz).1
            rw [plc_len] at this
            omega
          rw [plc_at hnl] at hz
          cases hz
          have h68 : Same H6 H8 := h7.trans h8
          have hstg : Stg p (pos p (0, -p + (n : Int)) (ms.take j)) := Stg.pos p0' ⟨by dsimp only; omega, by dsimp only; omega⟩
          have em : (pos p (0, -p + (n : Int)) (ms.take j)).1 = mot ms j := by
            rw [pos_mot]
            unfold mot
            dsimp only
            omega
          generalize hX : pos p (0, -p + (n : Int)) (ms.take j) = X at hstg em ⊢
          walk_at "go"
          refine ⟨rfl, ?_⟩
          walk_at "go"
          refine iteT ?_
          walk_at "go"
          intro t nt
          walk_at "go"
          refine r_ix (v := .int x) (.inl (SqL.of (at_new nt (h68 _ _ hl)))) (at_of (j := j) (by omega) (by rw [List.getElem?_map, hx]; rfl)) ?_
          walk_at "go"
          refine spLB_i (x := X) (at_new nt (h68 _ _ hg6)) (by rw [em]; exact upd_same) fun q H9 nq h9 hq => ?_
          rw [lx_nx hstg] at hq
          walk_at "go"
          have h89 : Same H8 H9 := (same_new nt).trans h9
          have hln : ((plc p ms (j + 1)).take n).length ≤ 1000 := by rw [List.length_take, plc_len]; omega
          refine ⟨_, h89 _ _ hD, (by rw [List.length_map]; exact small1000 hln), fun b o e => at_wr (ne_of_none e nD) (h89 _ _ (h8 _ _ e)), ?_⟩
          rw [upd_same, take_snoc (plc_at hnl), plc_succ hx, hX]
          simp
        obtain ⟨h8, hD⟩ := h
        rw [List.length_map, plc_len, List.take_of_length_le (by rw [plc_len]; omega)] at hD
        have h68 : Same H6 H8 := h7.trans h8
        walk_at "go"
        refine r_ix (v := .int x) (.inl (SqL.of (h68 _ _ hl))) (at_of (j := j) (by omega) (by rw [List.getElem?_map, hx]; rfl)) ?_
        walk_at "go"
        have em : mot ms j + x = mot ms (j + 1) := by
          unfold mot
          rw [take_snoc hx, List.sum_append]
          simp
        rw [em]
        have next : ∀ v7' : V, Fst p ms (j + 1) v7' → ∃ (pl : Addr) (v7 : V) (v8 u11 : Option V), [some (.ref a), some (.ref st), some (.int (0 + (i : Int))), some (.ref g), some (.ref l), some (.ref D), some (.int (mot ms (j + 1))), some v7', some (.int (0 + (j : Int))), v9, v10, v11] =
            [some (.ref a), some (.ref st), some (.int (0 + i)), some (.ref g), some (.ref l), some (.ref pl), some (.int (mot ms (j + 1))), some v7, v8, v9, v10, u11] ∧ Same H6 H8 ∧ H8 pl = some (.lst ((plc p ms (j + 1)).map V.int)) ∧ Fst p ms (j + 1) v7 :=
          fun v7' hv => ⟨D, v7', some (.int (0 + (j : Int))), v11, rfl, h68, hD, hv⟩
        rcases hf with ⟨j0, rfl, hj0, kj, fj⟩ | ⟨rfl, hn⟩
        · refine ⟨rfl, ?_⟩
          walk_at "go"
          refine iteDF (fun z => nomatch z) ?_
          walk_at "go"
          refine iteF ?_
          walk_at "go"
          exact next _ (.inl ⟨j0, rfl, by omega, kj, fj⟩)
        · refine ⟨rfl, ?_⟩
          walk_at "go"
          refine iteDT rfl ?_
          walk_at "go"
          refine r_lenSetD ?_
          walk_at "go"
          refine ⟨_, _, rfl, SqL.of hD, by rw [plc_len]; omega, ?_⟩
          walk_at "go"
          refine iteD (fun c => ?_) (fun c => ?_)
          · walk_at "go"
            refine next _ (.inl ⟨j + 1, ?_, Nat.le_refl _, (plc_kn p0' ms _).mp c, fun i hi => hn i (by omega)⟩)
            congr 1
            omega
          · walk_at "go"
            refine next _ (.inr ⟨rfl, fun i hi => ?_⟩)
            by_cases e : i = j + 1
            · subst e
              exact fun z => c ((plc_kn p0' ms _).mpr z)
            · exact hn i (by omega)
      · rintro σ H7 ⟨pl, v7, v8, v11, rfl, h7, hpl, hf⟩
        have eN : ((ms.length : Int)).toNat = ms.length := rfl
        rw [eN] at hpl hf ⊢
        have hf' : SetV p ms v7 := hf
        have lo : ∀ m, m ∈ plc p ms ms.length → (∀ y ∈ plc p ms ms.length, m ≤ y) → m = (pos p (0, -p) ms).2 := fun m h1 h2 => by
          have := plc_lo p0' h1 h2
          rwa [List.take_length] at this
        have hi' : ∀ m, m ∈ plc p ms ms.length → (∀ y ∈ plc p ms ms.length, y ≤ m) → m = (pos p (0, 0) ms).2 := fun m h1 h2 => by
          have := plc_hi p0' h1 h2
          rwa [List.take_length] at this
        have em : mot ms ms.length = (pos p (0, -p) ms).1 := by
          rw [pos_mot]
          unfold mot
          rw [List.take_length]
          dsimp only
          omega
        rw [em]
        have hdd := plc_dd p0' ms ms.length
        rw [List.take_length] at hdd
        have hpl0 : 0 < (plc p ms ms.length).length := by rw [plc_len]; omega
        walk_at "go"
        refine r_lenSetD ?_
        walk_at "go"
        refine ⟨_, _, rfl, SqL.of hpl, by rw [plc_len]; omega, ?_⟩
        walk_at "go"
        refine r_maxL (SqL.of hpl) hpl0 fun mx mx1 mx2 => ?_
        walk_at "go"
        refine r_minL (SqL.of hpl) hpl0 fun mn mn1 mn2 => ?_
        walk_at "go"
        refine iteNF (by rw [hdd, lo mn mn1 mn2, hi' mx mx1 mx2]) ?_
        walk_at "go"
        have hl7 := h7 _ _ hl
        refine r_listOf (.inl (SqL.of hl7)) fun hd nhd => ?_
        walk_at "go"
        have h68 : Same H6 (upd H7 hd (.lst (ms.map V.int))) := by walk_at "fr"
        have hhd : upd H7 hd (.lst (ms.map V.int)) hd = some (.lst (ms.map V.int)) := upd_same
        have hpl8 : upd H7 hd (.lst (ms.map V.int)) pl = some (.lst ((plc p ms ms.length).map V.int)) := at_new nhd hpl
        generalize upd H7 hd (.lst (ms.map V.int)) = H8 at h68 hhd hpl8 ⊢
        have G8 : GearAt H8 g r p := G6.mono (h68 _ _ G6.at_)
        have hl8 := h68 _ _ hl
        refine ⟨_, rfl, by decide, by decide, fw_range (fun j σ H9 => ∃ (v10 : Option V), σ = [some (.ref a), some (.ref st), some (.int (0 + i)), some (.ref g), some (.ref l), some (.ref pl), some (.int (pos p (0, -p) ms).1), some v7, v8, some (.ref hd), v10, v11] ∧ Same H8 H9)
          ⟨_, rfl, Same.refl _⟩ ?_ ?_⟩
        · rintro j σ H9 hj ⟨v10, rfl, h9⟩
          walk_at "go"
          refine r_cut (fun σ' H' => σ' = [some (.ref a), some (.ref st), some (.int (0 + i)), some (.ref g), some (.ref l), some (.ref pl), some (.int (pos p (0, -p) ms).1), some v7, v8, some (.ref hd), some (.int (0 + j)), v11] ∧ Same H8 H') ?_ ?_
          · walk_at "go"
            refine spKnown_i (G8.mono (h9 _ _ G8.at_)) (SqL.of (h9 _ _ hhd)) hml2 fun q H10 nq h10 hq => ?_
            have h810 : Same H8 H10 := h9.trans h10
            walk_at "go"
            refine r_minL (SqL.of (h810 _ _ hpl8)) hpl0 fun mn mn1 mn2 => ?_
            rw [lo mn mn1 mn2]
            walk_at "go"
            refine r_maxL (SqL.of (h810 _ _ hpl8)) hpl0 fun mx mx1 mx2 => ?_
            rw [hi' mx mx1 mx2]
            walk_at "go"
            intro t nt
            walk_at "go"
            refine spSame_i (d := .tuple ([(pos p (0, -p) ms).1, (pos p (0, -p) ms).2, (pos p (0, 0) ms).2].map PyData.int)) (.tup (at_new nt hq) (IsAll.ints [_, _, _])) (.tup upd_same (IsAll.ints [_, _, _])) (Fl.tuple fun d h => by
              obtain ⟨i, _, rfl⟩ := List.mem_map.mp h
              exact Fl.int _ _) fun H11 h11 => ?_
            have h811 : Same H8 H11 := h810.trans ((same_new nt).trans h11)
            walk_at "go"
            refine iteF ?_
            walk_at "go"
            refine r_neIs (Is.ints (h811 _ _ hhd)) (Is.ints (h811 _ _ hl8)) (Fl.ints 0 _) ?_
            walk_at "go"
            refine iteF ?_
            walk_at "go"
            exact ⟨rfl, h811⟩
          · rintro σ' H10 ⟨rfl, h10⟩
            walk_at "go"
            refine spSettled_i (G8.mono (h10 _ _ G8.at_)) (SqL.of (h10 _ _ hhd)) hml2 fun v H11 h11 hv => ?_
            have h811 : Same H8 H11 := h10.trans h11
            walk_at "go"
            rw [hv.one hf']
            obtain ⟨d, hd1, hd2⟩ : ∃ d, (∀ H, Is H v7 d) ∧ Fl 0 d := by
              rcases hf' with ⟨j, rfl, _⟩ | ⟨rfl, _⟩
              · exact ⟨_, fun H => .int _, Fl.int _ _⟩
              · exact ⟨_, fun H => .non, Fl.non _⟩
            refine spSame_i (hd1 _) (hd1 _) (hd2.mono (by decide)) fun H12 h12 => ?_
            have h812 : Same H8 H12 := h811.trans h12
            walk_at "go"
            refine iteF ?_
            walk_at "go"
            refine r_neIs (Is.ints (h812 _ _ hhd)) (Is.ints (h812 _ _ hl8)) (Fl.ints 0 _) ?_
            walk_at "go"
            refine iteF ?_
            walk_at "go"
            exact ⟨_, rfl, h812⟩
        · rintro σ H9 ⟨v10, rfl, h9⟩
          have h69 : Same H6 H9 := h68.trans h9
          exact ⟨_, _, _, _, _, _, _, _, _, _, rfl, s6.same h69, h69.seq hS6⟩
    · rintro σ H2 ⟨v2, v3, v4, v5, v6, v7, v8, v9, v10, v11, rfl, s2, hS2⟩
      walk_at "go"
      exact k _
theorem law_fn {f : Addr} {fd : FuncData} (B : Bl mg) (F_need_gear : FunAt K mg "need_gear" s_need_gear) (F_need_moves : FunAt K mg "need_moves" s_need_moves) (F_behind : FunAt K mg "behind" s_behind) (F_all_behind : FunAt K mg "all_behind" s_all_behind) (F_both_ends : FunAt K mg "both_ends" s_both_ends) (F_known : FunAt K mg "known" s_known) (F_settled : FunAt K mg "settled" s_settled) (F_law_start : FunAt K mg "_law_start" s_law_start) (F_law_drawn : FunAt K mg "_law_drawn" s_law_drawn) (F_law_same : FunAt K mg "_law_same" s_law_same) (F_law_gear : FunAt K mg "_law_gear" s_law_gear) (F_law_moves : FunAt K mg "_law_moves" s_law_moves) (F_law_behind : FunAt K mg "_law_behind" s_law_behind) (M_MOST : Cn mg "MOST" 1000000) (M_MOST_MOVES : Cn mg "MOST_MOVES" 100) (F : Fun K "law" "law" s_law f fd) : FnOk P w K mg base CX0 6 f fd ["_law_script"] (spLaw K) := by
  have H0 : Has P w K mg base CX0 1 "_law_start" (spStart K) := ok_law_start F_law_start
  have H1 : Has P w K mg base CX0 1 "_law_drawn" (spDrawn K) := ok_law_drawn B F_law_drawn
  have H2 : Has P w K mg base CX0 1 "need_gear" spNG := ok_need_gear F_need_gear M_MOST
  have H4 : Has P w K mg base CX0 1 "need_moves" (spNM K) := ok_need_moves B F_need_moves M_MOST_MOVES
  have H5 : Has P w K mg base CX0 1 "behind" spBehind := ok_behind B F_behind
  have H6 : Has P w K mg base CX0 2 "all_behind" (spAB K) := ok_all_behind B F_all_behind H5
  have H7 : Has P w K mg base CX0 3 "both_ends" (spBE K) := ok_both_ends B F_both_ends H6
  exact ok_law B F H0 H1 (ok_law_same B F_law_same 2) (ok_law_gear B F_law_gear H1) (ok_law_moves B F_law_moves H1) (ok_law_behind B F_law_behind) (ok_known F_known H2 H4 H7) (ok_settled B F_settled H2 H4 H7)
end
theorem all_mk {l : PySem.W.OpenLaw} {w : World} {K : PySem.W.Frag} {h : Heap} {mg : Str → Option Value} {fa : Addr} (X : K.In h) (G : h.Ns mainGlobals mg) (hfa : mg "law" = some (.ref fa))
    {f0 : Addr} {od0 an0 : Option Addr} {sl0 : Array (Option Value)} {oc0 kV0 dc0 pm0 cd0 ct0 : Value}
    {f1 : Addr} {od1 an1 : Option Addr} {sl1 : Array (Option Value)} {oc1 kV1 dc1 pm1 cd1 ct1 : Value}
    {f2 : Addr} {od2 an2 : Option Addr} {sl2 : Array (Option Value)} {oc2 kV2 dc2 pm2 cd2 ct2 : Value}
    {f3 : Addr} {od3 an3 : Option Addr} {sl3 : Array (Option Value)} {oc3 kV3 dc3 pm3 cd3 ct3 : Value}
    {f4 : Addr} {od4 an4 : Option Addr} {sl4 : Array (Option Value)} {oc4 kV4 dc4 pm4 cd4 ct4 : Value}
    {f5 : Addr} {od5 an5 : Option Addr} {sl5 : Array (Option Value)} {oc5 kV5 dc5 pm5 cd5 ct5 : Value}
    {f6 : Addr} {od6 an6 : Option Addr} {sl6 : Array (Option Value)} {oc6 kV6 dc6 pm6 cd6 ct6 : Value}
    {f7 : Addr} {od7 an7 : Option Addr} {sl7 : Array (Option Value)} {oc7 kV7 dc7 pm7 cd7 ct7 : Value}
    {f8 : Addr} {od8 an8 : Option Addr} {sl8 : Array (Option Value)} {oc8 kV8 dc8 pm8 cd8 ct8 : Value}
    {f9 : Addr} {od9 an9 : Option Addr} {sl9 : Array (Option Value)} {oc9 kV9 dc9 pm9 cd9 ct9 : Value}
    {f10 : Addr} {od10 an10 : Option Addr} {sl10 : Array (Option Value)} {oc10 kV10 dc10 pm10 cd10 ct10 : Value}
    {f11 : Addr} {od11 an11 : Option Addr} {sl11 : Array (Option Value)} {oc11 kV11 dc11 pm11 cd11 ct11 : Value}
    {f12 : Addr} {od12 an12 : Option Addr} {sl12 : Array (Option Value)} {oc12 kV12 dc12 pm12 cd12 ct12 : Value}
    {f13 : Addr} {od13 an13 : Option Addr} {sl13 : Array (Option Value)} {oc13 kV13 dc13 pm13 cd13 ct13 : Value}
    {t_MOST : Tok}
    {t_MOST_MOVES : Tok}
    (a0 : PySem.W.nsIn K mainGlobals "need_gear" = some (some (.ref f0))) (l0 : K.lookup f0 = some ⟨oc0, od0, .func (PySem.W.fnOf "need_gear" "need_gear" (defArgs s_need_gear) (defBody s_need_gear) (defScope s_need_gear) .none kV0 dc0 pm0 an0 cd0 ct0), sl0⟩) (c0 : PySem.W.codeIn K cd0 "need_gear" = true) (k0 : PySem.W.keepIn K (.ref f0) = true)
    (a1 : PySem.W.nsIn K mainGlobals "need_moves" = some (some (.ref f1))) (l1 : K.lookup f1 = some ⟨oc1, od1, .func (PySem.W.fnOf "need_moves" "need_moves" (defArgs s_need_moves) (defBody s_need_moves) (defScope s_need_moves) .none kV1 dc1 pm1 an1 cd1 ct1), sl1⟩) (c1 : PySem.W.codeIn K cd1 "need_moves" = true) (k1 : PySem.W.keepIn K (.ref f1) = true)
    (a2 : PySem.W.nsIn K mainGlobals "behind" = some (some (.ref f2))) (l2 : K.lookup f2 = some ⟨oc2, od2, .func (PySem.W.fnOf "behind" "behind" (defArgs s_behind) (defBody s_behind) (defScope s_behind) .none kV2 dc2 pm2 an2 cd2 ct2), sl2⟩) (c2 : PySem.W.codeIn K cd2 "behind" = true) (k2 : PySem.W.keepIn K (.ref f2) = true)
    (a3 : PySem.W.nsIn K mainGlobals "all_behind" = some (some (.ref f3))) (l3 : K.lookup f3 = some ⟨oc3, od3, .func (PySem.W.fnOf "all_behind" "all_behind" (defArgs s_all_behind) (defBody s_all_behind) (defScope s_all_behind) .none kV3 dc3 pm3 an3 cd3 ct3), sl3⟩) (c3 : PySem.W.codeIn K cd3 "all_behind" = true) (k3 : PySem.W.keepIn K (.ref f3) = true)
    (a4 : PySem.W.nsIn K mainGlobals "both_ends" = some (some (.ref f4))) (l4 : K.lookup f4 = some ⟨oc4, od4, .func (PySem.W.fnOf "both_ends" "both_ends" (defArgs s_both_ends) (defBody s_both_ends) (defScope s_both_ends) .none kV4 dc4 pm4 an4 cd4 ct4), sl4⟩) (c4 : PySem.W.codeIn K cd4 "both_ends" = true) (k4 : PySem.W.keepIn K (.ref f4) = true)
    (a5 : PySem.W.nsIn K mainGlobals "known" = some (some (.ref f5))) (l5 : K.lookup f5 = some ⟨oc5, od5, .func (PySem.W.fnOf "known" "known" (defArgs s_known) (defBody s_known) (defScope s_known) .none kV5 dc5 pm5 an5 cd5 ct5), sl5⟩) (c5 : PySem.W.codeIn K cd5 "known" = true) (k5 : PySem.W.keepIn K (.ref f5) = true)
    (a6 : PySem.W.nsIn K mainGlobals "settled" = some (some (.ref f6))) (l6 : K.lookup f6 = some ⟨oc6, od6, .func (PySem.W.fnOf "settled" "settled" (defArgs s_settled) (defBody s_settled) (defScope s_settled) .none kV6 dc6 pm6 an6 cd6 ct6), sl6⟩) (c6 : PySem.W.codeIn K cd6 "settled" = true) (k6 : PySem.W.keepIn K (.ref f6) = true)
    (a7 : PySem.W.nsIn K mainGlobals "_law_start" = some (some (.ref f7))) (l7 : K.lookup f7 = some ⟨oc7, od7, .func (PySem.W.fnOf "_law_start" "_law_start" (defArgs s_law_start) (defBody s_law_start) (defScope s_law_start) .none kV7 dc7 pm7 an7 cd7 ct7), sl7⟩) (c7 : PySem.W.codeIn K cd7 "_law_start" = true) (k7 : PySem.W.keepIn K (.ref f7) = true)
    (a8 : PySem.W.nsIn K mainGlobals "_law_drawn" = some (some (.ref f8))) (l8 : K.lookup f8 = some ⟨oc8, od8, .func (PySem.W.fnOf "_law_drawn" "_law_drawn" (defArgs s_law_drawn) (defBody s_law_drawn) (defScope s_law_drawn) .none kV8 dc8 pm8 an8 cd8 ct8), sl8⟩) (c8 : PySem.W.codeIn K cd8 "_law_drawn" = true) (k8 : PySem.W.keepIn K (.ref f8) = true)
    (a9 : PySem.W.nsIn K mainGlobals "_law_same" = some (some (.ref f9))) (l9 : K.lookup f9 = some ⟨oc9, od9, .func (PySem.W.fnOf "_law_same" "_law_same" (defArgs s_law_same) (defBody s_law_same) (defScope s_law_same) .none kV9 dc9 pm9 an9 cd9 ct9), sl9⟩) (c9 : PySem.W.codeIn K cd9 "_law_same" = true) (k9 : PySem.W.keepIn K (.ref f9) = true)
    (a10 : PySem.W.nsIn K mainGlobals "_law_gear" = some (some (.ref f10))) (l10 : K.lookup f10 = some ⟨oc10, od10, .func (PySem.W.fnOf "_law_gear" "_law_gear" (defArgs s_law_gear) (defBody s_law_gear) (defScope s_law_gear) .none kV10 dc10 pm10 an10 cd10 ct10), sl10⟩) (c10 : PySem.W.codeIn K cd10 "_law_gear" = true) (k10 : PySem.W.keepIn K (.ref f10) = true)
    (a11 : PySem.W.nsIn K mainGlobals "_law_moves" = some (some (.ref f11))) (l11 : K.lookup f11 = some ⟨oc11, od11, .func (PySem.W.fnOf "_law_moves" "_law_moves" (defArgs s_law_moves) (defBody s_law_moves) (defScope s_law_moves) .none kV11 dc11 pm11 an11 cd11 ct11), sl11⟩) (c11 : PySem.W.codeIn K cd11 "_law_moves" = true) (k11 : PySem.W.keepIn K (.ref f11) = true)
    (a12 : PySem.W.nsIn K mainGlobals "_law_behind" = some (some (.ref f12))) (l12 : K.lookup f12 = some ⟨oc12, od12, .func (PySem.W.fnOf "_law_behind" "_law_behind" (defArgs s_law_behind) (defBody s_law_behind) (defScope s_law_behind) .none kV12 dc12 pm12 an12 cd12 ct12), sl12⟩) (c12 : PySem.W.codeIn K cd12 "_law_behind" = true) (k12 : PySem.W.keepIn K (.ref f12) = true)
    (a13 : PySem.W.nsIn K mainGlobals "law" = some (some (.ref f13))) (l13 : K.lookup f13 = some ⟨oc13, od13, .func (PySem.W.fnOf "law" "law" (defArgs s_law) (defBody s_law) (defScope s_law) .none kV13 dc13 pm13 an13 cd13 ct13), sl13⟩) (c13 : PySem.W.codeIn K cd13 "law" = true) (k13 : PySem.W.keepIn K (.ref f13) = true)
    (m_MOST : PySem.W.nsIn K mainGlobals "MOST" = some (some (.int 1000000 t_MOST)))
    (m_MOST_MOVES : PySem.W.nsIn K mainGlobals "MOST_MOVES" = some (some (.int 100 t_MOST_MOVES)))
    (z_len : PySem.W.nsIn K mainGlobals "len" = some none)
    (z_range : PySem.W.nsIn K mainGlobals "range" = some none)
    (z_abs : PySem.W.nsIn K mainGlobals "abs" = some none)
    (z_max : PySem.W.nsIn K mainGlobals "max" = some none)
    (z_min : PySem.W.nsIn K mainGlobals "min" = some none)
    (z_list : PySem.W.nsIn K mainGlobals "list" = some none)
    (z_tuple : PySem.W.nsIn K mainGlobals "tuple" = some none)
    (z_int : PySem.W.nsIn K mainGlobals "int" = some none)
    (z_isinstance : PySem.W.nsIn K mainGlobals "isinstance" = some none)
    (z_sum : PySem.W.nsIn K mainGlobals "sum" = some none)
    (z_set : PySem.W.nsIn K mainGlobals "set" = some none)
    (z_sorted : PySem.W.nsIn K mainGlobals "sorted" = some none)
    (z_zip : PySem.W.nsIn K mainGlobals "zip" = some none)
    (z_enumerate : PySem.W.nsIn K mainGlobals "enumerate" = some none)
    (z_str : PySem.W.nsIn K mainGlobals "str" = some none)
    (z_bool : PySem.W.nsIn K mainGlobals "bool" = some none) :
    ∃ fd : FuncData, (∀ (s : Shared) (v : Value), BindsTo s fd ⟨[v], []⟩ [("_law_script", v)]) ∧ ∀ base : Heap, K.In base → base.Ns mainGlobals mg → FnOk l.prog w K mg base CX0 6 fa fd ["_law_script"] (spLaw K) := by
  have e := hfa.symm.trans (PySem.W.mg_of X G a13)
  cases e
  have F := fun_mk (st := s_law) l13 c13 k13
  have B : Bl mg := ⟨PySem.W.mg_none_of X G z_len, PySem.W.mg_none_of X G z_range, PySem.W.mg_none_of X G z_abs, PySem.W.mg_none_of X G z_max, PySem.W.mg_none_of X G z_min, PySem.W.mg_none_of X G z_list, PySem.W.mg_none_of X G z_tuple, PySem.W.mg_none_of X G z_int, PySem.W.mg_none_of X G z_isinstance, PySem.W.mg_none_of X G z_sum, PySem.W.mg_none_of X G z_set, PySem.W.mg_none_of X G z_sorted, PySem.W.mg_none_of X G z_zip, PySem.W.mg_none_of X G z_enumerate, PySem.W.mg_none_of X G z_str, PySem.W.mg_none_of X G z_bool⟩
  exact ⟨_, fun s v => .of_eq rfl, fun base _ _ => law_fn B (FunAt.mk' X G a0 l0 c0 k0) (FunAt.mk' X G a1 l1 c1 k1) (FunAt.mk' X G a2 l2 c2 k2) (FunAt.mk' X G a3 l3 c3 k3) (FunAt.mk' X G a4 l4 c4 k4) (FunAt.mk' X G a5 l5 c5 k5) (FunAt.mk' X G a6 l6 c6 k6) (FunAt.mk' X G a7 l7 c7 k7) (FunAt.mk' X G a8 l8 c8 k8) (FunAt.mk' X G a9 l9 c9 k9) (FunAt.mk' X G a10 l10 c10 k10) (FunAt.mk' X G a11 l11 c11 k11) (FunAt.mk' X G a12 l12 c12 k12) ⟨_, PySem.W.mg_of X G m_MOST⟩ ⟨_, PySem.W.mg_of X G m_MOST_MOVES⟩ F⟩
end Rd
open PySem PySem.W PyProof.Rows
set_option maxRecDepth 100000 in
set_option maxHeartbeats 0 in
theorem PySem.Challenge.cw_stepgear_k03_whole_what_may_be_holds : PySem.Challenge.rw_stepgear_k03_whole_what_may_be.Holds := by
  w_on; o_law; k_head; (case hw => w_witness2)
  k_fill
  refine L2.walk_of (l := PySem.Challenge.rw_stepgear_k03_whole_what_may_be) (n := 63) (k := 6) (x := "_law_script") (CX := fun _ => L2.CX0) (sp := fun w => Rd.spLaw _) rfl (by decide) rfl ⟨rfl, by decide, by decide⟩ (fun w h Y => PySem.W.kIn_of Y) ?F (fun _ _ a ns hl _ hS => ⟨a, ns, rfl, hS, hl, fun _ => rfl⟩) (fun _ _ _ _ _ h => h)
  case F =>
    intro w mg fa h KX G hmg
    refine' Rd.all_mk KX G hmg ?a0 ?l0 ?c0 ?k0 ?a1 ?l1 ?c1 ?k1 ?a2 ?l2 ?c2 ?k2 ?a3 ?l3 ?c3 ?k3 ?a4 ?l4 ?c4 ?k4 ?a5 ?l5 ?c5 ?k5 ?a6 ?l6 ?c6 ?k6 ?a7 ?l7 ?c7 ?k7 ?a8 ?l8 ?c8 ?k8 ?a9 ?l9 ?c9 ?k9 ?a10 ?l10 ?c10 ?k10 ?a11 ?l11 ?c11 ?k11 ?a12 ?l12 ?c12 ?k12 ?a13 ?l13 ?c13 ?k13 ?m_MOST ?m_MOST_MOVES ?z_len ?z_range ?z_abs ?z_max ?z_min ?z_list ?z_tuple ?z_int ?z_isinstance ?z_sum ?z_set ?z_sorted ?z_zip ?z_enumerate ?z_str ?z_bool
    (case a0 => k_is)
    (case l0 => k_is)
    (case c0 => k_is)
    (case k0 => k_is)
    (case a1 => k_is)
    (case l1 => k_is)
    (case c1 => k_is)
    (case k1 => k_is)
    (case a2 => k_is)
    (case l2 => k_is)
    (case c2 => k_is)
    (case k2 => k_is)
    (case a3 => k_is)
    (case l3 => k_is)
    (case c3 => k_is)
    (case k3 => k_is)
    (case a4 => k_is)
    (case l4 => k_is)
    (case c4 => k_is)
    (case k4 => k_is)
    (case a5 => k_is)
    (case l5 => k_is)
    (case c5 => k_is)
    (case k5 => k_is)
    (case a6 => k_is)
    (case l6 => k_is)
    (case c6 => k_is)
    (case k6 => k_is)
    (case a7 => k_is)
    (case l7 => k_is)
    (case c7 => k_is)
    (case k7 => k_is)
    (case a8 => k_is)
    (case l8 => k_is)
    (case c8 => k_is)
    (case k8 => k_is)
    (case a9 => k_is)
    (case l9 => k_is)
    (case c9 => k_is)
    (case k9 => k_is)
    (case a10 => k_is)
    (case l10 => k_is)
    (case c10 => k_is)
    (case k10 => k_is)
    (case a11 => k_is)
    (case l11 => k_is)
    (case c11 => k_is)
    (case k11 => k_is)
    (case a12 => k_is)
    (case l12 => k_is)
    (case c12 => k_is)
    (case k12 => k_is)
    (case a13 => k_is)
    (case l13 => k_is)
    (case c13 => k_is)
    (case k13 => k_is)
    (case m_MOST => k_is)
    (case m_MOST_MOVES => k_is)
    (case z_len => k_is)
    (case z_range => k_is)
    (case z_abs => k_is)
    (case z_max => k_is)
    (case z_min => k_is)
    (case z_list => k_is)
    (case z_tuple => k_is)
    (case z_int => k_is)
    (case z_isinstance => k_is)
    (case z_sum => k_is)
    (case z_set => k_is)
    (case z_sorted => k_is)
    (case z_zip => k_is)
    (case z_enumerate => k_is)
    (case z_str => k_is)
    (case z_bool => k_is)

