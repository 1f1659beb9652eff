import PyProof.Rows.All
import Wide.All
import OpenK.AllK
import Wide.FinOn
import PyProof.ZipIter
import KE.KItemsList
import HandS.ForMost
import HandS.Wide
import HandS.TupAny
import HandS.IsInst
import HandS.Walk
import HandS.ListItems
import HandS.Conv
import HandS.EndTab
import HandS.TupLe
import KE.DataMinKey
import KE.KNestM
import PySem.Challenge.RW_stepgear_k05_whole_the_fewest_to_a_place
set_option Elab.async false
set_option linter.all false
set_option maxRecDepth 100000
set_option maxHeartbeats 4000000
namespace Rd
open PySem PySem.Spec PyProof.Rows L2
/-! ## defs by name -/
/-- the name x stands for a def that keeps the promise sp, at level k -/
structure Has (P : Program) (w : World) (K : PySem.W.Frag) (mg : Str → Option Value) (base : Heap) (CX : CXT) (k : Nat) (x : Str) (sp : Sp) : Prop where
  ex : ∃ (f : Addr) (fd : FuncData) (ps : List Str), FnOk P w K mg base CX k f fd ps sp ∧ mg x = some (.ref f) ∧ PySem.W.keepIn K (.ref f) = true ∧ Binds K fd ps []
theorem Has.imp {P : Program} {w : World} {K : PySem.W.Frag} {mg : Str → Option Value} {base : Heap} {CX : CXT} {k : Nat} {x : Str} {sp sp' : Sp} (h : Has P w K mg base CX k x sp) (i : ∀ vs H Q E, sp' vs H Q E → sp vs H Q E) : Has P w K mg base CX k x sp' := by
  obtain ⟨f, fd, ps, F, r⟩ := h.ex
  exact ⟨f, fd, ps, F.imp i, r⟩
theorem Has.mono {P : Program} {w : World} {K : PySem.W.Frag} {mg : Str → Option Value} {base : Heap} {CX : CXT} {j k : Nat} {x : Str} {sp : Sp} (h : Has P w K mg base CX j x sp) (i : j ≤ k) : Has P w K mg base CX k x sp := by
  obtain ⟨f, fd, ps, F, r⟩ := h.ex
  exact ⟨f, fd, ps, F.mono i, r⟩
/-- the def st of the text stands at the name x -/
structure FunAt (K : PySem.W.Frag) (mg : Str → Option Value) (x : Str) (st : Stmt) : Prop where
  ex : ∃ (f : Addr) (fd : FuncData), Fun K x x st f fd ∧ mg x = some (.ref f)
section
variable {P : Program} {w : World} {K : PySem.W.Frag} {mg : Str → Option Value} {base : Heap}
def BindOk (x : Str) (st : Stmt) (ps : List Str) : Prop := ∀ (kV doc pm : Value) (an : Option Addr) (cdv ct : Value) (us : List Value), us.length = ps.length → bindArgs (PySem.W.fnOf x x (defArgs st) (defBody st) (defScope st) .none kV doc pm an cdv ct) ⟨us, []⟩ = pure (ps.zip us)
/-- a def that lets no exception out -/
theorem FunAt.ok {x : Str} {st : Stmt} {N ps : List Str} {k : Nat} {sp : Sp} (F : FunAt K mg x st) (S : FnScope N ps (defScope st)) (bo : BindOk x st ps) (len : ∀ vs H Q E, sp vs H Q E → vs.length = ps.length)
    (hbody : ∀ (f : Addr) (cdv : Value) (A : Around) (outer : List Env) (s : Shared) (H : Hp) (vs : List V) (Q : VK) (E : XK), Room k (A.deeper (envOfC x (defScope st) s.heap.objs.size f cdv)) → sp vs H Q E →
      ∃ t, PSs (cxOf CX0 P w K mg base N x (defScope st) f cdv A outer s H E).nox (defBody st) t ∧ t { nx := fun _ H' => Q .non H', rt := Q } (start N vs) H) : Has P w K mg base CX0 (k + 1) x sp := by
  obtain ⟨f, fd, F, hm⟩ := F.ex
  exact ⟨f, fd, ps, F.ok S len fun cdv A outer s H vs Q E hr h => hbody f cdv A outer s H vs Q E hr h, hm, F.kp, F.binds bo⟩
theorem FunAt.mk' {x : Str} {st : Stmt} {h : Heap} (X : K.In h) (G : h.Ns mainGlobals mg) {f : Addr} {oc : Value} {od an : Option Addr} {osl : Array (Option Value)} {kV doc pm cdv ct : Value}
    (a : PySem.W.nsIn K mainGlobals x = some (some (.ref f)))
    (l : K.lookup f = some ⟨oc, od, .func (PySem.W.fnOf x x (defArgs st) (defBody st) (defScope st) .none kV doc pm an cdv ct), osl⟩)
    (c : PySem.W.codeIn K cdv x = true) (k : PySem.W.keepIn K (.ref f) = true) : FunAt K mg x st := ⟨f, _, fun_mk l c k, PySem.W.mg_of X G a⟩
end
section
variable {X : Cx} {CX : CXT} {k j : Nat} {sp : Sp} {E : XK} {x : Str} {p pos : Pos} {e : Expr} {es : List Expr} {t : TA}
theorem pe_has (h : Has X.prog X.w X.K X.mg X.base CX k x sp) (hr : Room j X.A) (hk : k ≤ j) (hg : Gl X x) (hx : Passes CX X E)
    (ha : PA X (e :: es) t) (hdb : (x == ("__debug__" : Str)) = false := by decide) (he : starEach (e :: es) X.env = (false, eval e X.env) :: starEach es X.env := by rfl) (hpl : (backTo pos (starEach es X.env)).any (·.1) = false := by rfl) :
    PE X (.Call (.Name x p) (e :: es) [] pos) (tCall sp [] E t) := by
  obtain ⟨f, fd, ps, F, hm, kp, b⟩ := h.ex
  exact pe_call F (hr.mono hk) hg hm kp b .nil hx ha hdb he hpl
end
/-- the built-ins' names are still theirs -/
structure Bl (mg : Str → Option Value) : Prop where
  len : mg "len" = none
  range : mg "range" = none
  abs : mg "abs" = none
  max : mg "max" = none
  min : mg "min" = none
  list : mg "list" = none
  tuple : mg "tuple" = none
  int : mg "int" = none
  isinstance : mg "isinstance" = none
  sum : mg "sum" = none
  set : mg "set" = none
  sorted : mg "sorted" = none
  zip : mg "zip" = none
  enumerate : mg "enumerate" = none
  str : mg "str" = none
  bool : mg "bool" = none
/-! ## unions of rules -/
section
variable {X : Cx}
def rAddA (K : PySem.W.Frag) : R2 := fun x y H Q => rI0 (fun i j => .int (i + j)) x y H Q ∨ ((∃ i j, x = .str i ∧ y = .str j ∧ i.length + j.length ≤ sizeLine ∧ Q (.str (i ++ j)) H) ∨ (rCat x y H Q ∨ rCatA K x y H Q))
theorem op_addA : OpR X (binaryOp .Add) (rAddA X.K) := OpR.or op_add (OpR.or op_add_str (OpR.or op_cat op_catA))
def rEqA (K : PySem.W.Frag) : R2 := fun x y H Q => rEq x y H Q ∨ rEqD K x y H Q
def rNeA (K : PySem.W.Frag) : R2 := fun x y H Q => rNe x y H Q ∨ rNeD K x y H Q
theorem op_eqA (hu : X.A.units + 64 < cLine) : OpR X (compareOp .Eq) (rEqA X.K) := OpR.or op_eq (op_eqD hu)
theorem op_neA (hu : X.A.units + 64 < cLine) : OpR X (compareOp .NotEq) (rNeA X.K) := OpR.or op_ne (op_neD hu)
def rLen (K : PySem.W.Frag) : List V → Hp → VK → Prop := fun xs H Q => (∃ p ys, xs = [.ref p] ∧ (SqL K H p ys ∨ SqT K H p ys) ∧ (ys.length ≤ 16777216 → Q (.int ys.length) H)) ∨ (∃ z, xs = [.str z] ∧ z.length ≤ sizeLine ∧ Q (.int z.length) H)
theorem call_lenA : CallR X (.builtin "len") (rLen X.K) := by
  refine CallR.or (fun pins s σ H xs us Q I r h => ?_) call_len_str
  obtain ⟨p, ys, e, hq, q⟩ := h
  have hz : ys.length ≤ 16777216 := by
    rcases hq with h | h
    · obtain ⟨_, _, _, z⟩ := I.list h
      rwa [PySem.sizeLine_eq] at z
    · obtain ⟨_, _, _, z⟩ := I.tuple h
      rwa [PySem.sizeLine_eq] at z
  exact call_len_seq pins s σ H xs us Q I r ⟨p, ys, e, hq, q hz⟩
def rMaxA (K : PySem.W.Frag) : List V → Hp → VK → Prop := fun xs H Q => (∃ i j, xs = [.int i, .int j] ∧ Q (.int (if j > i then j else i)) H) ∨ rMax K xs H Q
def rMinA (K : PySem.W.Frag) : List V → Hp → VK → Prop := fun xs H Q => (∃ i j, xs = [.int i, .int j] ∧ Q (.int (if j < i then j else i)) H) ∨ rMin K xs H Q
theorem call_maxA (hc : X.calm = true) : CallR X (.builtin "max") (rMaxA X.K) := CallR.or (call_max2 hc) (cr_max hc)
theorem call_minA (hc : X.calm = true) : CallR X (.builtin "min") (rMinA X.K) := CallR.or (call_min2 hc) (cr_min hc)
def rAbs : List V → Hp → VK → Prop := fun xs H Q => ∃ i, xs = [.int i] ∧ Q (.int (if i < 0 then -i else i)) H
theorem call_absA : CallR X (.builtin "abs") rAbs := call_abs
def rInt1 : List V → Hp → VK → Prop := fun xs H Q => (∃ i, xs = [.int i] ∧ Q (.int i) H) ∨ ∃ k, xs = [.bl k] ∧ Q (.int (if k then 1 else 0)) H
theorem call_intA : CallR X (.type "int") rInt1 := call_int1
def rListOf (K : PySem.W.Frag) : List V → Hp → VK → Prop := fun xs H Q => ∃ p ys, xs = [.ref p] ∧ (SqL K H p ys ∨ SqT K H p ys) ∧ ∀ l, H l = none → Q (.ref l) (upd H l (.lst ys))
theorem call_listA : CallR X (.type "list") (rListOf X.K) := call_list_of
def rTupOf (K : PySem.W.Frag) : List V → Hp → VK → Prop := fun xs H Q => ∃ p ys, xs = [.ref p] ∧ ((SqL K H p ys ∧ ∀ l, H l = none → Q (.ref l) (upd H l (.tup ys))) ∨ (SqT K H p ys ∧ Q (.ref p) H))
theorem call_tupA : CallR X (.type "tuple") (rTupOf X.K) := call_tuple_of
def rSlAll (K : PySem.W.Frag) : V → Option Int → Option Int → Hp → VK → Prop := fun x lo hi H Q => rSlL K x lo hi H Q ∨ (rSlA K x lo hi H Q ∨ rSlS x lo hi H Q)
theorem sl_all : SlR X (rSlAll X.K) := SlR.or sl_list (SlR.or sl_tupA sl_str)
end
/-! ## the rules again, the written part K named -/
section
variable {X : Cx} {K : PySem.W.Frag}
theorem kop_add (h : X.K = K) : OpR X (binaryOp .Add) (rAddA K) := by subst h; exact op_addA
theorem kop_eq (h : X.K = K) (hu : X.A.units + 64 < cLine) : OpR X (compareOp .Eq) (rEqA K) := by subst h; exact op_eqA hu
theorem kop_ne (h : X.K = K) (hu : X.A.units + 64 < cLine) : OpR X (compareOp .NotEq) (rNeA K) := by subst h; exact op_neA hu
theorem kix (h : X.K = K) : IxR X (rIx K) := by subst h; exact ix_seq
theorem ksl (h : X.K = K) : SlR X (rSlAll K) := by subst h; exact sl_all
theorem kc_len (h : X.K = K) : CallR X (.builtin "len") (rLen K) := by subst h; exact call_lenA
theorem kc_max (h : X.K = K) (hc : X.calm = true) : CallR X (.builtin "max") (rMaxA K) := by subst h; exact call_maxA hc
theorem kc_min (h : X.K = K) (hc : X.calm = true) : CallR X (.builtin "min") (rMinA K) := by subst h; exact call_minA hc
theorem kc_sum (h : X.K = K) (hc : X.calm = true) : CallR X (.builtin "sum") (rSum K) := by subst h; exact cr_sum hc
theorem kc_list (h : X.K = K) : CallR X (.type "list") (rListOf K) := by subst h; exact call_listA
theorem kc_tup (h : X.K = K) : CallR X (.type "tuple") (rTupOf K) := by subst h; exact call_tupA
theorem kc_isi (h : X.K = K) : CallR X (.builtin "isinstance") (fun xs H Q => rIsi K xs H Q ∨ rIsiT K xs H Q) := by subst h; exact CallR.or call_isi call_isiT
theorem kpg_tup {es : List Expr} {k : Nat} {t : TGs} {n : Nat} {pos : Pos} (hK : X.K = K) (hc : X.calm = true) (h : PGs X es t)
    (hn : (assignEach es X.env).length = n := by rfl) (hst : (assignEach es X.env).findIdx? (·.1) = none := by rfl) : PG X (.Tuple es k pos) (gTup K n t) := by subst hK; exact pg_tup hc h hn hst
theorem kpi_list {tg l : Expr} {tl : TE} (h : X.K = K) (hl : PE X l tl) : PI X tg l (iList K tl) := by subst h; exact pi_list hl
theorem kpi_tup {tg l : Expr} {tl : TE} (h : X.K = K) (hl : PE X l tl) : PI X tg l (iTup K tl) := by subst h; exact pi_tup hl
theorem kpe_bm {o e : Expr} {es : List Expr} {to : TE} {t : TA} {name : Str} {apos cpos : Pos} {T id : String} {r : V → List V → Hp → VK → Prop} (hK : X.K = K) (pa : PlainAttrs T) (slot : Slot T name id) (hty : typeOf (.builtin id) = pure (.type "method_descriptor")) (hm : MtR X id r) (ho : PE X o to) (ha : PA X (e :: es) t)
    (hbase : attributeBase o name X.env (eval o X.env) = eval o X.env := by rfl)
    (hfew : ((backTo cpos (starEach (e :: es) X.env)).all (fun x => !x.1) && (backToKw cpos (keywordEach [] X.env)).all (fun x => x.1.isSome)
      && decide ((e :: es).length + ([] : List Keyword).length + (if ([] : List Keyword).isEmpty then 0 else 1) < 30)) = true := by rfl)
    (hline : (apos.endLine == cpos.line) = true := by rfl) (hs : starEach (e :: es) X.env = (false, eval e X.env) :: starEach es X.env := by rfl) (hplain : (backTo cpos (starEach es X.env)).any (·.1) = false := by rfl) :
    PE X (.Call (.Attribute o name apos) (e :: es) [] cpos) (tBM K T r to t) := by subst hK; exact pe_bm pa slot hty hm ho ha hbase hfew hline hs hplain
/-- a module's constant -/
structure Cn (mg : Str → Option Value) (x : Str) (i : Int) : Prop where
  ex : ∃ t, mg x = some (.int i t)
theorem pe_cn {x : Str} {i : Int} {pos : Pos} (h : Cn X.mg x i) (hg : Gl X x) (hd : (x == ("__debug__" : Str)) = false := by decide) : PE X (.Name x pos) (tC (.int i)) := by
  obtain ⟨t, e⟩ := h.ex
  exact pe_glob hg e ⟨t, rfl⟩ hd
end
/-- an expression, its wish stated between -/
def tMid (t : TE) : TE := fun σ H Q => ∃ Q', t σ H Q' ∧ ∀ v H', Q' v H' → Q v H'
theorem pe_mid {X : Cx} {e : Expr} {t : TE} (h : PE X e t) : PE X e (tMid t) := by
  refine ⟨fun pins s σ H Q I q => ?_⟩
  obtain ⟨Q', h1, h2⟩ := q
  exact thn (h.run pins s σ H Q' I h1) fun u s' ⟨v, H', I', r, z⟩ => ⟨v, H', I', r, h2 _ _ z⟩
theorem r_mid {t : TE} {σ : L2.St} {H : Hp} {Q : VK} (Q' : VK) (h : t σ H Q') (k : ∀ v H', Q' v H' → Q v H') : tMid t σ H Q := ⟨Q', h, k⟩
/-- a block, cut behind its first statement -/
def tCut (t u : TS) : TS := fun D σ H => ∃ Mid : L2.St → Hp → Prop, t ⟨Mid, D.rt, D.bk, D.ct⟩ σ H ∧ ∀ σ' H', Mid σ' H' → u D σ' H'
theorem pss_cut {X : Cx} {st : Stmt} {rest : List Stmt} {t u : TS} (h1 : PS X st t) (h2 : PSs X rest u) : PSs X (st :: rest) (tCut t u) := by
  refine ⟨fun pins s σ H D I h => ?_⟩
  obtain ⟨Mid, h, k⟩ := h
  have p : PS X st (fun D' σ' H' => D' = ⟨u D, D.rt, D.bk, D.ct⟩ ∧ t ⟨Mid, D.rt, D.bk, D.ct⟩ σ' H') := ⟨fun pins s σ H D' I q => by
    obtain ⟨rfl, q⟩ := q
    refine thn (h1.run pins s σ H _ I q) fun f s' z => ?_
    cases f with
    | next => obtain ⟨σ', H', I', m⟩ := z; exact ⟨σ', H', I', k _ _ m⟩
    | cont => exact z
    | brk => exact z
    | ret v => exact z⟩
  exact (pss_cons p h2).run pins s σ H D I ⟨rfl, h⟩
/-! ## reading: names, constants -/
section
variable {K : PySem.W.Frag} {σ : L2.St} {H : Hp} {Q : VK}
theorem r_c {v : V} (k : Q v H) : tC v σ H Q := k
theorem r_var {i : Nat} {v : V} (h : σ[i]? = some (some v)) (k : Q v H) : tVar i σ H Q := ⟨v, h, k⟩
variable {a0 a1 a2 a3 a4 a5 a6 a7 a8 a9 a10 a11 a12 a13 a14 a15 a16 a17 a18 a19 : Option V} {v : V} {r : L2.St}
theorem r_v0 (k : Q v H) : tVar 0 (some v :: r) H Q := ⟨v, rfl, k⟩
theorem r_g0 {z : Option V} {G : L2.St → Hp → Prop} (k : G (some v :: r) H) : gName 0 v (z :: r) H G := k
theorem r_v1 {a0 : Option V} (k : Q v H) : tVar 1 (a0 :: some v :: r) H Q := ⟨v, rfl, k⟩
theorem r_g1 {a0 : Option V} {z : Option V} {G : L2.St → Hp → Prop} (k : G (a0 :: some v :: r) H) : gName 1 v (a0 :: z :: r) H G := k
theorem r_v2 {a0 a1 : Option V} (k : Q v H) : tVar 2 (a0 :: a1 :: some v :: r) H Q := ⟨v, rfl, k⟩
theorem r_g2 {a0 a1 : Option V} {z : Option V} {G : L2.St → Hp → Prop} (k : G (a0 :: a1 :: some v :: r) H) : gName 2 v (a0 :: a1 :: z :: r) H G := k
theorem r_v3 {a0 a1 a2 : Option V} (k : Q v H) : tVar 3 (a0 :: a1 :: a2 :: some v :: r) H Q := ⟨v, rfl, k⟩
theorem r_g3 {a0 a1 a2 : Option V} {z : Option V} {G : L2.St → Hp → Prop} (k : G (a0 :: a1 :: a2 :: some v :: r) H) : gName 3 v (a0 :: a1 :: a2 :: z :: r) H G := k
theorem r_v4 {a0 a1 a2 a3 : Option V} (k : Q v H) : tVar 4 (a0 :: a1 :: a2 :: a3 :: some v :: r) H Q := ⟨v, rfl, k⟩
theorem r_g4 {a0 a1 a2 a3 : Option V} {z : Option V} {G : L2.St → Hp → Prop} (k : G (a0 :: a1 :: a2 :: a3 :: some v :: r) H) : gName 4 v (a0 :: a1 :: a2 :: a3 :: z :: r) H G := k
theorem r_v5 {a0 a1 a2 a3 a4 : Option V} (k : Q v H) : tVar 5 (a0 :: a1 :: a2 :: a3 :: a4 :: some v :: r) H Q := ⟨v, rfl, k⟩
theorem r_g5 {a0 a1 a2 a3 a4 : Option V} {z : Option V} {G : L2.St → Hp → Prop} (k : G (a0 :: a1 :: a2 :: a3 :: a4 :: some v :: r) H) : gName 5 v (a0 :: a1 :: a2 :: a3 :: a4 :: z :: r) H G := k
theorem r_v6 {a0 a1 a2 a3 a4 a5 : Option V} (k : Q v H) : tVar 6 (a0 :: a1 :: a2 :: a3 :: a4 :: a5 :: some v :: r) H Q := ⟨v, rfl, k⟩
theorem r_g6 {a0 a1 a2 a3 a4 a5 : Option V} {z : Option V} {G : L2.St → Hp → Prop} (k : G (a0 :: a1 :: a2 :: a3 :: a4 :: a5 :: some v :: r) H) : gName 6 v (a0 :: a1 :: a2 :: a3 :: a4 :: a5 :: z :: r) H G := k
theorem r_v7 {a0 a1 a2 a3 a4 a5 a6 : Option V} (k : Q v H) : tVar 7 (a0 :: a1 :: a2 :: a3 :: a4 :: a5 :: a6 :: some v :: r) H Q := ⟨v, rfl, k⟩
theorem r_g7 {a0 a1 a2 a3 a4 a5 a6 : Option V} {z : Option V} {G : L2.St → Hp → Prop} (k : G (a0 :: a1 :: a2 :: a3 :: a4 :: a5 :: a6 :: some v :: r) H) : gName 7 v (a0 :: a1 :: a2 :: a3 :: a4 :: a5 :: a6 :: z :: r) H G := k
theorem r_v8 {a0 a1 a2 a3 a4 a5 a6 a7 : Option V} (k : Q v H) : tVar 8 (a0 :: a1 :: a2 :: a3 :: a4 :: a5 :: a6 :: a7 :: some v :: r) H Q := ⟨v, rfl, k⟩
theorem r_g8 {a0 a1 a2 a3 a4 a5 a6 a7 : Option V} {z : Option V} {G : L2.St → Hp → Prop} (k : G (a0 :: a1 :: a2 :: a3 :: a4 :: a5 :: a6 :: a7 :: some v :: r) H) : gName 8 v (a0 :: a1 :: a2 :: a3 :: a4 :: a5 :: a6 :: a7 :: z :: r) H G := k
theorem r_v9 {a0 a1 a2 a3 a4 a5 a6 a7 a8 : Option V} (k : Q v H) : tVar 9 (a0 :: a1 :: a2 :: a3 :: a4 :: a5 :: a6 :: a7 :: a8 :: some v :: r) H Q := ⟨v, rfl, k⟩
theorem r_g9 {a0 a1 a2 a3 a4 a5 a6 a7 a8 : Option V} {z : Option V} {G : L2.St → Hp → Prop} (k : G (a0 :: a1 :: a2 :: a3 :: a4 :: a5 :: a6 :: a7 :: a8 :: some v :: r) H) : gName 9 v (a0 :: a1 :: a2 :: a3 :: a4 :: a5 :: a6 :: a7 :: a8 :: z :: r) H G := k
theorem r_v10 {a0 a1 a2 a3 a4 a5 a6 a7 a8 a9 : Option V} (k : Q v H) : tVar 10 (a0 :: a1 :: a2 :: a3 :: a4 :: a5 :: a6 :: a7 :: a8 :: a9 :: some v :: r) H Q := ⟨v, rfl, k⟩
theorem r_g10 {a0 a1 a2 a3 a4 a5 a6 a7 a8 a9 : Option V} {z : Option V} {G : L2.St → Hp → Prop} (k : G (a0 :: a1 :: a2 :: a3 :: a4 :: a5 :: a6 :: a7 :: a8 :: a9 :: some v :: r) H) : gName 10 v (a0 :: a1 :: a2 :: a3 :: a4 :: a5 :: a6 :: a7 :: a8 :: a9 :: z :: r) H G := k
theorem r_v11 {a0 a1 a2 a3 a4 a5 a6 a7 a8 a9 a10 : Option V} (k : Q v H) : tVar 11 (a0 :: a1 :: a2 :: a3 :: a4 :: a5 :: a6 :: a7 :: a8 :: a9 :: a10 :: some v :: r) H Q := ⟨v, rfl, k⟩
theorem r_g11 {a0 a1 a2 a3 a4 a5 a6 a7 a8 a9 a10 : Option V} {z : Option V} {G : L2.St → Hp → Prop} (k : G (a0 :: a1 :: a2 :: a3 :: a4 :: a5 :: a6 :: a7 :: a8 :: a9 :: a10 :: some v :: r) H) : gName 11 v (a0 :: a1 :: a2 :: a3 :: a4 :: a5 :: a6 :: a7 :: a8 :: a9 :: a10 :: z :: r) H G := k
theorem r_v12 {a0 a1 a2 a3 a4 a5 a6 a7 a8 a9 a10 a11 : Option V} (k : Q v H) : tVar 12 (a0 :: a1 :: a2 :: a3 :: a4 :: a5 :: a6 :: a7 :: a8 :: a9 :: a10 :: a11 :: some v :: r) H Q := ⟨v, rfl, k⟩
theorem r_g12 {a0 a1 a2 a3 a4 a5 a6 a7 a8 a9 a10 a11 : Option V} {z : Option V} {G : L2.St → Hp → Prop} (k : G (a0 :: a1 :: a2 :: a3 :: a4 :: a5 :: a6 :: a7 :: a8 :: a9 :: a10 :: a11 :: some v :: r) H) : gName 12 v (a0 :: a1 :: a2 :: a3 :: a4 :: a5 :: a6 :: a7 :: a8 :: a9 :: a10 :: a11 :: z :: r) H G := k
theorem r_v13 {a0 a1 a2 a3 a4 a5 a6 a7 a8 a9 a10 a11 a12 : Option V} (k : Q v H) : tVar 13 (a0 :: a1 :: a2 :: a3 :: a4 :: a5 :: a6 :: a7 :: a8 :: a9 :: a10 :: a11 :: a12 :: some v :: r) H Q := ⟨v, rfl, k⟩
theorem r_g13 {a0 a1 a2 a3 a4 a5 a6 a7 a8 a9 a10 a11 a12 : Option V} {z : Option V} {G : L2.St → Hp → Prop} (k : G (a0 :: a1 :: a2 :: a3 :: a4 :: a5 :: a6 :: a7 :: a8 :: a9 :: a10 :: a11 :: a12 :: some v :: r) H) : gName 13 v (a0 :: a1 :: a2 :: a3 :: a4 :: a5 :: a6 :: a7 :: a8 :: a9 :: a10 :: a11 :: a12 :: z :: r) H G := k
theorem r_v14 {a0 a1 a2 a3 a4 a5 a6 a7 a8 a9 a10 a11 a12 a13 : Option V} (k : Q v H) : tVar 14 (a0 :: a1 :: a2 :: a3 :: a4 :: a5 :: a6 :: a7 :: a8 :: a9 :: a10 :: a11 :: a12 :: a13 :: some v :: r) H Q := ⟨v, rfl, k⟩
theorem r_g14 {a0 a1 a2 a3 a4 a5 a6 a7 a8 a9 a10 a11 a12 a13 : Option V} {z : Option V} {G : L2.St → Hp → Prop} (k : G (a0 :: a1 :: a2 :: a3 :: a4 :: a5 :: a6 :: a7 :: a8 :: a9 :: a10 :: a11 :: a12 :: a13 :: some v :: r) H) : gName 14 v (a0 :: a1 :: a2 :: a3 :: a4 :: a5 :: a6 :: a7 :: a8 :: a9 :: a10 :: a11 :: a12 :: a13 :: z :: r) H G := k
theorem r_v15 {a0 a1 a2 a3 a4 a5 a6 a7 a8 a9 a10 a11 a12 a13 a14 : Option V} (k : Q v H) : tVar 15 (a0 :: a1 :: a2 :: a3 :: a4 :: a5 :: a6 :: a7 :: a8 :: a9 :: a10 :: a11 :: a12 :: a13 :: a14 :: some v :: r) H Q := ⟨v, rfl, k⟩
theorem r_g15 {a0 a1 a2 a3 a4 a5 a6 a7 a8 a9 a10 a11 a12 a13 a14 : Option V} {z : Option V} {G : L2.St → Hp → Prop} (k : G (a0 :: a1 :: a2 :: a3 :: a4 :: a5 :: a6 :: a7 :: a8 :: a9 :: a10 :: a11 :: a12 :: a13 :: a14 :: some v :: r) H) : gName 15 v (a0 :: a1 :: a2 :: a3 :: a4 :: a5 :: a6 :: a7 :: a8 :: a9 :: a10 :: a11 :: a12 :: a13 :: a14 :: z :: r) H G := k
theorem r_v16 {a0 a1 a2 a3 a4 a5 a6 a7 a8 a9 a10 a11 a12 a13 a14 a15 : Option V} (k : Q v H) : tVar 16 (a0 :: a1 :: a2 :: a3 :: a4 :: a5 :: a6 :: a7 :: a8 :: a9 :: a10 :: a11 :: a12 :: a13 :: a14 :: a15 :: some v :: r) H Q := ⟨v, rfl, k⟩
theorem r_g16 {a0 a1 a2 a3 a4 a5 a6 a7 a8 a9 a10 a11 a12 a13 a14 a15 : Option V} {z : Option V} {G : L2.St → Hp → Prop} (k : G (a0 :: a1 :: a2 :: a3 :: a4 :: a5 :: a6 :: a7 :: a8 :: a9 :: a10 :: a11 :: a12 :: a13 :: a14 :: a15 :: some v :: r) H) : gName 16 v (a0 :: a1 :: a2 :: a3 :: a4 :: a5 :: a6 :: a7 :: a8 :: a9 :: a10 :: a11 :: a12 :: a13 :: a14 :: a15 :: z :: r) H G := k
theorem r_v17 {a0 a1 a2 a3 a4 a5 a6 a7 a8 a9 a10 a11 a12 a13 a14 a15 a16 : Option V} (k : Q v H) : tVar 17 (a0 :: a1 :: a2 :: a3 :: a4 :: a5 :: a6 :: a7 :: a8 :: a9 :: a10 :: a11 :: a12 :: a13 :: a14 :: a15 :: a16 :: some v :: r) H Q := ⟨v, rfl, k⟩
theorem r_g17 {a0 a1 a2 a3 a4 a5 a6 a7 a8 a9 a10 a11 a12 a13 a14 a15 a16 : Option V} {z : Option V} {G : L2.St → Hp → Prop} (k : G (a0 :: a1 :: a2 :: a3 :: a4 :: a5 :: a6 :: a7 :: a8 :: a9 :: a10 :: a11 :: a12 :: a13 :: a14 :: a15 :: a16 :: some v :: r) H) : gName 17 v (a0 :: a1 :: a2 :: a3 :: a4 :: a5 :: a6 :: a7 :: a8 :: a9 :: a10 :: a11 :: a12 :: a13 :: a14 :: a15 :: a16 :: z :: r) H G := k
theorem r_v18 {a0 a1 a2 a3 a4 a5 a6 a7 a8 a9 a10 a11 a12 a13 a14 a15 a16 a17 : Option V} (k : Q v H) : tVar 18 (a0 :: a1 :: a2 :: a3 :: a4 :: a5 :: a6 :: a7 :: a8 :: a9 :: a10 :: a11 :: a12 :: a13 :: a14 :: a15 :: a16 :: a17 :: some v :: r) H Q := ⟨v, rfl, k⟩
theorem r_g18 {a0 a1 a2 a3 a4 a5 a6 a7 a8 a9 a10 a11 a12 a13 a14 a15 a16 a17 : Option V} {z : Option V} {G : L2.St → Hp → Prop} (k : G (a0 :: a1 :: a2 :: a3 :: a4 :: a5 :: a6 :: a7 :: a8 :: a9 :: a10 :: a11 :: a12 :: a13 :: a14 :: a15 :: a16 :: a17 :: some v :: r) H) : gName 18 v (a0 :: a1 :: a2 :: a3 :: a4 :: a5 :: a6 :: a7 :: a8 :: a9 :: a10 :: a11 :: a12 :: a13 :: a14 :: a15 :: a16 :: a17 :: z :: r) H G := k
theorem r_v19 {a0 a1 a2 a3 a4 a5 a6 a7 a8 a9 a10 a11 a12 a13 a14 a15 a16 a17 a18 : Option V} (k : Q v H) : tVar 19 (a0 :: a1 :: a2 :: a3 :: a4 :: a5 :: a6 :: a7 :: a8 :: a9 :: a10 :: a11 :: a12 :: a13 :: a14 :: a15 :: a16 :: a17 :: a18 :: some v :: r) H Q := ⟨v, rfl, k⟩
theorem r_g19 {a0 a1 a2 a3 a4 a5 a6 a7 a8 a9 a10 a11 a12 a13 a14 a15 a16 a17 a18 : Option V} {z : Option V} {G : L2.St → Hp → Prop} (k : G (a0 :: a1 :: a2 :: a3 :: a4 :: a5 :: a6 :: a7 :: a8 :: a9 :: a10 :: a11 :: a12 :: a13 :: a14 :: a15 :: a16 :: a17 :: a18 :: some v :: r) H) : gName 19 v (a0 :: a1 :: a2 :: a3 :: a4 :: a5 :: a6 :: a7 :: a8 :: a9 :: a10 :: a11 :: a12 :: a13 :: a14 :: a15 :: a16 :: a17 :: a18 :: z :: r) H G := k
theorem r_v20 {a0 a1 a2 a3 a4 a5 a6 a7 a8 a9 a10 a11 a12 a13 a14 a15 a16 a17 a18 a19 : Option V} (k : Q v H) : tVar 20 (a0 :: a1 :: a2 :: a3 :: a4 :: a5 :: a6 :: a7 :: a8 :: a9 :: a10 :: a11 :: a12 :: a13 :: a14 :: a15 :: a16 :: a17 :: a18 :: a19 :: some v :: r) H Q := ⟨v, rfl, k⟩
theorem r_g20 {a0 a1 a2 a3 a4 a5 a6 a7 a8 a9 a10 a11 a12 a13 a14 a15 a16 a17 a18 a19 : Option V} {z : Option V} {G : L2.St → Hp → Prop} (k : G (a0 :: a1 :: a2 :: a3 :: a4 :: a5 :: a6 :: a7 :: a8 :: a9 :: a10 :: a11 :: a12 :: a13 :: a14 :: a15 :: a16 :: a17 :: a18 :: a19 :: some v :: r) H) : gName 20 v (a0 :: a1 :: a2 :: a3 :: a4 :: a5 :: a6 :: a7 :: a8 :: a9 :: a10 :: a11 :: a12 :: a13 :: a14 :: a15 :: a16 :: a17 :: a18 :: a19 :: z :: r) H G := k
theorem r_v21 {a0 a1 a2 a3 a4 a5 a6 a7 a8 a9 a10 a11 a12 a13 a14 a15 a16 a17 a18 a19 a20 : Option V} (k : Q v H) : tVar 21 (a0 :: a1 :: a2 :: a3 :: a4 :: a5 :: a6 :: a7 :: a8 :: a9 :: a10 :: a11 :: a12 :: a13 :: a14 :: a15 :: a16 :: a17 :: a18 :: a19 :: a20 :: some v :: r) H Q := ⟨v, rfl, k⟩
theorem r_g21 {a0 a1 a2 a3 a4 a5 a6 a7 a8 a9 a10 a11 a12 a13 a14 a15 a16 a17 a18 a19 a20 : Option V} {z : Option V} {G : L2.St → Hp → Prop} (k : G (a0 :: a1 :: a2 :: a3 :: a4 :: a5 :: a6 :: a7 :: a8 :: a9 :: a10 :: a11 :: a12 :: a13 :: a14 :: a15 :: a16 :: a17 :: a18 :: a19 :: a20 :: some v :: r) H) : gName 21 v (a0 :: a1 :: a2 :: a3 :: a4 :: a5 :: a6 :: a7 :: a8 :: a9 :: a10 :: a11 :: a12 :: a13 :: a14 :: a15 :: a16 :: a17 :: a18 :: a19 :: a20 :: z :: r) H G := k
theorem r_v22 {a0 a1 a2 a3 a4 a5 a6 a7 a8 a9 a10 a11 a12 a13 a14 a15 a16 a17 a18 a19 a20 a21 : Option V} (k : Q v H) : tVar 22 (a0 :: a1 :: a2 :: a3 :: a4 :: a5 :: a6 :: a7 :: a8 :: a9 :: a10 :: a11 :: a12 :: a13 :: a14 :: a15 :: a16 :: a17 :: a18 :: a19 :: a20 :: a21 :: some v :: r) H Q := ⟨v, rfl, k⟩
theorem r_g22 {a0 a1 a2 a3 a4 a5 a6 a7 a8 a9 a10 a11 a12 a13 a14 a15 a16 a17 a18 a19 a20 a21 : Option V} {z : Option V} {G : L2.St → Hp → Prop} (k : G (a0 :: a1 :: a2 :: a3 :: a4 :: a5 :: a6 :: a7 :: a8 :: a9 :: a10 :: a11 :: a12 :: a13 :: a14 :: a15 :: a16 :: a17 :: a18 :: a19 :: a20 :: a21 :: some v :: r) H) : gName 22 v (a0 :: a1 :: a2 :: a3 :: a4 :: a5 :: a6 :: a7 :: a8 :: a9 :: a10 :: a11 :: a12 :: a13 :: a14 :: a15 :: a16 :: a17 :: a18 :: a19 :: a20 :: a21 :: z :: r) H G := k
theorem r_v23 {a0 a1 a2 a3 a4 a5 a6 a7 a8 a9 a10 a11 a12 a13 a14 a15 a16 a17 a18 a19 a20 a21 a22 : Option V} (k : Q v H) : tVar 23 (a0 :: a1 :: a2 :: a3 :: a4 :: a5 :: a6 :: a7 :: a8 :: a9 :: a10 :: a11 :: a12 :: a13 :: a14 :: a15 :: a16 :: a17 :: a18 :: a19 :: a20 :: a21 :: a22 :: some v :: r) H Q := ⟨v, rfl, k⟩
theorem r_g23 {a0 a1 a2 a3 a4 a5 a6 a7 a8 a9 a10 a11 a12 a13 a14 a15 a16 a17 a18 a19 a20 a21 a22 : Option V} {z : Option V} {G : L2.St → Hp → Prop} (k : G (a0 :: a1 :: a2 :: a3 :: a4 :: a5 :: a6 :: a7 :: a8 :: a9 :: a10 :: a11 :: a12 :: a13 :: a14 :: a15 :: a16 :: a17 :: a18 :: a19 :: a20 :: a21 :: a22 :: some v :: r) H) : gName 23 v (a0 :: a1 :: a2 :: a3 :: a4 :: a5 :: a6 :: a7 :: a8 :: a9 :: a10 :: a11 :: a12 :: a13 :: a14 :: a15 :: a16 :: a17 :: a18 :: a19 :: a20 :: a21 :: a22 :: z :: r) H G := k
/-! ## reading: structure -/
theorem r_op {r : R2} {ta tb : TE} (k : ta σ H fun x H1 => tb σ H1 fun y H2 => r x y H2 Q) : tOp r ta tb σ H Q := k
theorem r_un {r : V → Hp → VK → Prop} {ta : TE} (k : ta σ H fun x H1 => r x H1 Q) : tUn r ta σ H Q := k
theorem r_chain {r r' : R2} {ta tb tc : TE} (k : ta σ H fun x H1 => tb σ H1 fun y H2 => r x y H2 fun z H3 => ∃ k, z = .bl k ∧ (if k = true then tc σ H3 fun w' H4 => r' y w' H4 Q else Q (.bl false) H3)) : tChain r r' ta tb tc σ H Q := k
theorem r_nil {Q : List V → Hp → Prop} (k : Q [] H) : tNil σ H Q := k
theorem r_cons {Q : List V → Hp → Prop} {ta : TE} {tr : TA} (k : ta σ H fun x H1 => tr σ H1 fun xs H2 => Q (x :: xs) H2) : tCons ta tr σ H Q := k
theorem r_cB {r : List V → Hp → VK → Prop} {t : TA} (k : t σ H fun vs H1 => r vs H1 Q) : tCB r t σ H Q := k
theorem r_call {sp : Sp} {E : XK} {t : TA} (k : t σ H fun vs H1 => sp vs H1 Q E) : tCall sp [] E t σ H Q := by
  have e : (fun (vs : List V) H1 => sp (vs ++ []) H1 Q E) = fun vs H1 => sp vs H1 Q E := by
    funext vs H1
    rw [List.append_nil]
  show t σ H fun vs H1 => sp (vs ++ []) H1 Q E
  rw [e]
  exact k
theorem r_tup {t : TA} (k : t σ H fun xs H1 => xs.length ≤ sizeLine ∧ ∀ p, H1 p = none → Q (.ref p) (upd H1 p (.tup xs))) : tTup t σ H Q := k
theorem r_lst {t : TA} (k : t σ H fun xs H1 => xs.length ≤ sizeLine ∧ ∀ p, H1 p = none → Q (.ref p) (upd H1 p (.lst xs))) : tLst t σ H Q := k
theorem r_test {t : TE} {Q : Bool → Hp → Prop} (k : t σ H fun x H' => ∃ k, x = .bl k ∧ Q k H') : tTest t σ H Q := k
theorem r_B {t : TE} {Q : Bool → Hp → Prop} (k : t σ H fun x H' => ∃ k, x = .bl k ∧ Q k H') : tB t σ H Q := k
theorem r_bl {b : Bool} {P : Bool → Prop} (k : P b) : ∃ c, V.bl b = .bl c ∧ P c := ⟨b, rfl, k⟩
theorem r_and {t u : TT} {Q : Bool → Hp → Prop} (k : t σ H fun c H1 => if c = true then u σ H1 Q else Q false H1) : tAnd t u σ H Q := k
theorem r_or {t u : TT} {Q : Bool → Hp → Prop} (k : t σ H fun c H1 => if c = true then Q true H1 else u σ H1 Q) : tOr t u σ H Q := k
theorem r_not {t : TT} {Q : Bool → Hp → Prop} (k : t σ H fun c H1 => Q (!c) H1) : tNot t σ H Q := k
theorem r_andV {ta tb : TE} (k : ta σ H fun x H1 => ∃ c, x = .bl c ∧ if c = true then tb σ H1 Q else Q (.bl false) H1) : tAndV ta tb σ H Q := k
theorem r_orV {ta tb : TE} (k : ta σ H fun x H1 => ∃ c, x = .bl c ∧ if c = true then Q (.bl true) H1 else tb σ H1 Q) : tOrV ta tb σ H Q := k
theorem r_notV {ta : TE} (k : ta σ H fun x H1 => ∃ c, x = .bl c ∧ Q (.bl (!c)) H1) : tNotV ta σ H Q := k
theorem r_if {t : TT} {ta tb : TE} (k : t σ H fun c H1 => if c = true then ta σ H1 Q else tb σ H1 Q) : tIf t ta tb σ H Q := k
theorem r_sl {rr : V → Option Int → Option Int → Hp → VK → Prop} {te : TE} {tl th : TO} (k : te σ H fun x H1 => tl σ H1 fun l H2 => th σ H2 fun u H3 => rr x l u H3 Q) : tSl rr te tl th σ H Q := k
theorem r_noP {Q : Option Int → Hp → Prop} (k : Q none H) : tNoPart σ H Q := k
theorem r_part {t : TE} {Q : Option Int → Hp → Prop} (k : t σ H fun x H1 => ∃ i, x = .int i ∧ Q (some i) H1) : tPart t σ H Q := k
theorem r_partI {i : Int} {P : Int → Prop} (k : P i) : ∃ j, V.int i = .int j ∧ P j := ⟨i, rfl, k⟩
theorem r_bm {T : String} {rr : V → List V → Hp → VK → Prop} {to : TE} {t : TA} (k : to σ H fun x H1 => tyV K T x H1 ∧ t σ H1 fun xs H2 => rr x xs H2 Q) : tBM K T rr to t σ H Q := k
theorem r_bm0 {T : String} {rr : V → List V → Hp → VK → Prop} {to : TE} (k : to σ H fun x H1 => tyV K T x H1 ∧ rr x [] H1 Q) : tBM0 K T rr to σ H Q := k
/-! ### statements -/
variable {nn bb cc : L2.St → Hp → Prop} {rr : VK}
theorem r_seq {t u : TS} (k : t ⟨u ⟨nn, rr, bb, cc⟩, rr, bb, cc⟩ σ H) : tSeq t u ⟨nn, rr, bb, cc⟩ σ H := k
theorem r_cut {t u : TS} (Mid : L2.St → Hp → Prop) (k : t ⟨Mid, rr, bb, cc⟩ σ H) (k2 : ∀ σ' H', Mid σ' H' → u ⟨nn, rr, bb, cc⟩ σ' H') : tCut t u ⟨nn, rr, bb, cc⟩ σ H := ⟨Mid, k, k2⟩
theorem r_next (k : nn σ H) : tNext ⟨nn, rr, bb, cc⟩ σ H := k
theorem r_break (k : bb σ H) : tBreak ⟨nn, rr, bb, cc⟩ σ H := k
theorem r_cont (k : cc σ H) : tCont ⟨nn, rr, bb, cc⟩ σ H := k
theorem r_drop {te : TE} (k : te σ H fun _ H1 => nn σ H1) : tDrop te ⟨nn, rr, bb, cc⟩ σ H := k
theorem r_ret {te : TE} (k : te σ H rr) : tRet te ⟨nn, rr, bb, cc⟩ σ H := k
theorem r_retN (k : rr .non H) : tRetN ⟨nn, rr, bb, cc⟩ σ H := k
theorem r_ifS {c : TT} {t u : TS} (k : c σ H fun b H1 => if b = true then t ⟨nn, rr, bb, cc⟩ σ H1 else u ⟨nn, rr, bb, cc⟩ σ H1) : tIfS c t u ⟨nn, rr, bb, cc⟩ σ H := k
theorem r_asg {te : TE} {g : TG} (k : te σ H fun x H1 => g x σ H1 nn) : tAsg te g ⟨nn, rr, bb, cc⟩ σ H := k
def ForW (J : It) (g : TG) (tb : TS) (D : Ends) (σ : L2.St) (H1 : Hp) : Prop := ∃ W : Nat → Nat → L2.St → Hp → Prop, (∃ m, W 0 m σ H1) ∧ ∀ i m σ H, W i m σ H →
  (J.stop i H ∧ D.nx σ H) ∨ (J.go i H ∧ ∃ N : L2.St → Hp → Prop, (∀ σ' H', N σ' H' → ∃ m', m' < m ∧ W (i + 1) m' σ' H') ∧ ∀ x H', J.yld i H x H' → g x σ H' fun σ2 H2 => tb { D with nx := N, ct := N, bk := D.nx } σ2 H2)
theorem r_for {wi : TI} {g : TG} {tb : TS} (k : wi σ H fun J H1 => ForW J g tb ⟨nn, rr, bb, cc⟩ σ H1) : tFor wi g tb ⟨nn, rr, bb, cc⟩ σ H := k
theorem fw_list {a : Addr} {xs : List V} {g : TG} {tb : TS} (Pv : Nat → L2.St → Hp → Prop) (h0 : Pv 0 σ H) (hl : ∀ i σ H, i ≤ xs.length → Pv i σ H → SqL K H a xs)
    (hs : ∀ i x σ H, xs[i]? = some x → Pv i σ H → g x σ H fun σ2 H2 => tb ⟨Pv (i + 1), rr, nn, Pv (i + 1)⟩ σ2 H2) (hd : ∀ σ H, Pv xs.length σ H → nn σ H) : ForW (Itl K a) g tb ⟨nn, rr, bb, cc⟩ σ H := for_list Pv h0 hl hs hd
theorem fw_tup {a : Addr} {xs : List V} {g : TG} {tb : TS} (Pv : Nat → L2.St → Hp → Prop) (h0 : Pv 0 σ H) (hl : ∀ i σ H, i ≤ xs.length → Pv i σ H → SqT K H a xs)
    (hs : ∀ i x σ H, xs[i]? = some x → Pv i σ H → g x σ H fun σ2 H2 => tb ⟨Pv (i + 1), rr, nn, Pv (i + 1)⟩ σ2 H2) (hd : ∀ σ H, Pv xs.length σ H → nn σ H) : ForW (Itt K a) g tb ⟨nn, rr, bb, cc⟩ σ H := for_tup Pv h0 hl hs hd
theorem fw_range {lo : Int} {n : Nat} {g : TG} {tb : TS} (Pv : Nat → L2.St → Hp → Prop) (h0 : Pv 0 σ H)
    (hs : ∀ i σ H, i < n → Pv i σ H → g (.int (lo + i)) σ H fun σ2 H2 => tb ⟨Pv (i + 1), rr, nn, Pv (i + 1)⟩ σ2 H2) (hd : ∀ σ H, Pv n σ H → nn σ H) : ForW (Itr lo n) g tb ⟨nn, rr, bb, cc⟩ σ H := for_range Pv h0 hs hd
theorem r_iList {tl : TE} {R : It → Hp → Prop} (k : tl σ H fun x H1 => ∃ a, x = .ref a ∧ (∃ xs, SqL K H1 a xs) ∧ R (Itl K a) H1) : iList K tl σ H R := k
theorem r_iRng1 {ta : TA} {R : It → Hp → Prop} (k : ta σ H fun vs H1 => ∃ j : Int, vs = [.int j] ∧ -(2 ^ 62) ≤ j ∧ j < 2 ^ 62 ∧ R (Itr 0 j.toNat) H1) : iRng1 ta σ H R := k
theorem r_iRng2 {ta : TA} {R : It → Hp → Prop} (k : ta σ H fun vs H1 => ∃ i j : Int, vs = [.int i, .int j] ∧ (-(2 ^ 62) ≤ i ∧ i < 2 ^ 62 ∧ -(2 ^ 62) ≤ j ∧ j < 2 ^ 62) ∧ R (Itr i (j - i).toNat) H1) : iRng2 ta σ H R := k
/-! ### targets -/
variable {G : L2.St → Hp → Prop} {x : V}
theorem r_gTup {n : Nat} {t : TGs} {a : Addr} {xs : List V} (h : SqT K H a xs) (hl : xs.length = n) (k : t xs σ H G) : gTup K n t (.ref a) σ H G := ⟨a, xs, rfl, h, hl, k⟩
theorem r_gCons {t : TG} {u : TGs} {xs : List V} (k : t x σ H fun σ' H' => u xs σ' H' G) : gCons t u (x :: xs) σ H G := ⟨x, xs, rfl, k⟩
theorem r_gNil (k : G σ H) : gNil [] σ H G := ⟨rfl, k⟩
theorem r_gSub {to ti : TE} {t : TSet} (k : to σ H fun o H1 => ti σ H1 fun i H2 => t o i x H2 fun H3 => G σ H3) : gSub to ti t x σ H G := k
theorem r_setL {p : Addr} {xs : List V} {i : Int} {j : Nat} {G : Hp → Prop} (h : H p = some (.lst xs)) (e : ixN xs.length i = some j) (k : G (upd H p (.lst (xs.set j x)))) : rSetL (.ref p) (.int i) x H G := ⟨p, xs, i, j, rfl, rfl, h, e, k⟩
/-! ### values -/
theorem r_I0 {g : Int → Int → V} {i j : Int} (k : Q (g i j) H) : rI0 g (.int i) (.int j) H Q := ⟨i, j, rfl, rfl, k⟩
theorem r_I {C : Int → Int → Prop} {g : Int → Int → V} {i j : Int} (c : C i j) (k : Q (g i j) H) : rI C g (.int i) (.int j) H Q := ⟨i, j, rfl, rfl, c, k⟩
theorem r_U {g : Int → V} {i : Int} (k : Q (g i) H) : rU g (.int i) H Q := ⟨i, rfl, k⟩
theorem r_addI {i j : Int} (k : Q (.int (i + j)) H) : rAddA K (.int i) (.int j) H Q := .inl ⟨i, j, rfl, rfl, k⟩
theorem r_addL {l b : Addr} {xs zs : List V} (h1 : H l = some (.lst xs)) (h2 : H b = some (.lst zs)) (hl : xs.length + zs.length ≤ sizeLine) (k : ∀ p, H p = none → Q (.ref p) (upd H p (.lst (xs ++ zs)))) : rAddA K (.ref l) (.ref b) H Q := .inr (.inr (.inl ⟨l, b, xs, zs, rfl, rfl, h1, h2, hl, k⟩))
theorem r_eqI {i j : Int} (k : Q (.bl (decide (i = j))) H) : rEqA K (.int i) (.int j) H Q := .inl ⟨rfl, by
  have e : decide (V.int i = V.int j) = decide (i = j) := by by_cases h : i = j <;> simp [h]
  rw [e]
  exact k⟩
theorem r_neI {i j : Int} (k : Q (.bl (!decide (i = j))) H) : rNeA K (.int i) (.int j) H Q := .inl ⟨rfl, by
  have e : decide (V.int i = V.int j) = decide (i = j) := by by_cases h : i = j <;> simp [h]
  rw [e]
  exact k⟩
theorem r_eqB {i j : Bool} (k : Q (.bl (decide (i = j))) H) : rEqA K (.bl i) (.bl j) H Q := .inl ⟨rfl, by
  have e : decide (V.bl i = V.bl j) = decide (i = j) := by by_cases h : i = j <;> simp [h]
  rw [e]
  exact k⟩
theorem r_neB {i j : Bool} (k : Q (.bl (!decide (i = j))) H) : rNeA K (.bl i) (.bl j) H Q := .inl ⟨rfl, by
  have e : decide (V.bl i = V.bl j) = decide (i = j) := by by_cases h : i = j <;> simp [h]
  rw [e]
  exact k⟩
theorem r_ix {p : Addr} {xs : List V} {i : Int} {v : V} (h : SqL K H p xs ∨ SqT K H p xs) (e : atI xs i = some v) (k : Q v H) : rIx K (.ref p) (.int i) H Q := by
  rcases h with h | h
  · exact .inl ⟨p, xs, i, v, rfl, rfl, h, e, k⟩
  · exact .inr (.inl ⟨p, xs, i, v, rfl, rfl, h, e, k⟩)
theorem r_lenS {p : Addr} {ys : List V} (h : SqL K H p ys ∨ SqT K H p ys) (k : ys.length ≤ 16777216 → Q (.int ys.length) H) : rLen K [.ref p] H Q := .inl ⟨p, ys, rfl, h, k⟩
theorem r_max2 {i j : Int} (k : Q (.int (max i j)) H) : rMaxA K [.int i, .int j] H Q := .inl ⟨i, j, rfl, by
  have e : (if j > i then j else i) = max i j := by rw [Int.max_def]; split <;> split <;> omega
  rw [e]
  exact k⟩
theorem r_min2 {i j : Int} (k : Q (.int (min i j)) H) : rMinA K [.int i, .int j] H Q := .inl ⟨i, j, rfl, by
  have e : (if j < i then j else i) = min i j := by rw [Int.min_def]; split <;> split <;> omega
  rw [e]
  exact k⟩
theorem r_maxL {p : Addr} {ns : List Int} (h : SqL K H p (ns.map V.int)) (h0 : 0 < ns.length) (k : ∀ m, m ∈ ns → (∀ y, y ∈ ns → y ≤ m) → Q (.int m) H) : rMaxA K [.ref p] H Q := .inr ⟨p, ns, rfl, h, h0, k⟩
theorem r_minL {p : Addr} {ns : List Int} (h : SqL K H p (ns.map V.int)) (h0 : 0 < ns.length) (k : ∀ m, m ∈ ns → (∀ y, y ∈ ns → m ≤ y) → Q (.int m) H) : rMinA K [.ref p] H Q := .inr ⟨p, ns, rfl, h, h0, k⟩
theorem r_abs {i : Int} (k : Q (.int i.natAbs) H) : rAbs [.int i] H Q := ⟨i, rfl, by
  have e : (if i < 0 then -i else i) = (i.natAbs : Int) := by split <;> omega
  rw [e]
  exact k⟩
theorem r_intI {i : Int} (k : Q (.int i) H) : rInt1 [.int i] H Q := .inl ⟨i, rfl, k⟩
theorem r_intB {b : Bool} (k : Q (.int (if b then 1 else 0)) H) : rInt1 [.bl b] H Q := .inr ⟨b, rfl, k⟩
theorem r_listOf {p : Addr} {ys : List V} (h : SqL K H p ys ∨ SqT K H p ys) (k : ∀ l, H l = none → Q (.ref l) (upd H l (.lst ys))) : rListOf K [.ref p] H Q := ⟨p, ys, rfl, h, k⟩
theorem r_tupT {p : Addr} {ys : List V} (h : SqT K H p ys) (k : Q (.ref p) H) : rTupOf K [.ref p] H Q := ⟨p, ys, rfl, .inr ⟨h, k⟩⟩
theorem r_tupL {p : Addr} {ys : List V} (h : SqL K H p ys) (k : ∀ l, H l = none → Q (.ref l) (upd H l (.tup ys))) : rTupOf K [.ref p] H Q := ⟨p, ys, rfl, .inl ⟨h, k⟩⟩
theorem r_slL {p : Addr} {xs : List V} {lo hi : Option Int} (h : SqL K H p xs) (k : ∀ l, H l = none → Q (.ref l) (upd H l (.lst (cutV xs lo hi)))) : rSlAll K (.ref p) lo hi H Q := .inl ⟨p, xs, rfl, h, k⟩
theorem r_app {l : Addr} {xs : List V} {y : V} (h : H l = some (.lst xs)) (hz : xs.length < sizeLine) (k : Q .non (upd H l (.lst (xs ++ [y])))) : rAppend (.ref l) [y] H Q := ⟨l, xs, y, rfl, rfl, h, hz, k⟩
theorem r_tyL {p : Addr} {xs : List V} (h : H p = some (.lst xs)) : tyV K "list" (.ref p) H := .inl ⟨rfl, _, SqL.of h⟩
theorem r_eqD {x y : V} {d : PyData} (h1 : Dp K H x d) (h2 : Dp K H y d) (hs : SeqAt.shaped d = true) (k : Q (.bl true) H) : rEqA K x y H Q := .inr ⟨d, d, h1, h2, hs, hs, by
  rw [SeqAt.eqv_refl d (SeqAt.canLay_of_shaped hs)]
  exact k⟩
theorem r_neD {x y : V} {d : PyData} (h1 : Dp K H x d) (h2 : Dp K H y d) (hs : SeqAt.shaped d = true) (k : Q (.bl false) H) : rNeA K x y H Q := .inr ⟨d, d, h1, h2, hs, hs, by
  rw [SeqAt.eqv_refl d (SeqAt.canLay_of_shaped hs)]
  exact k⟩
end
/-! ## tests -/
theorem iteD {c A B : Prop} [Decidable c] (h1 : c → A) (h2 : ¬ c → B) : if decide c = true then A else B := by
  by_cases h : c
  · rw [if_pos (decide_eq_true h)]
    exact h1 h
  · rw [if_neg (by simpa using h)]
    exact h2 h
theorem iteN {c A B : Prop} [Decidable c] (h1 : ¬ c → A) (h2 : c → B) : if (!decide c) = true then A else B := by
  by_cases h : c
  · rw [if_neg (by simpa using h)]
    exact h2 h
  · rw [if_pos (by simpa using h)]
    exact h1 h
theorem iteDT {c A B : Prop} [Decidable c] (hc : c) (h1 : A) : if decide c = true then A else B := iteD (fun _ => h1) fun h => absurd hc h
theorem iteDF {c A B : Prop} [Decidable c] (hc : ¬ c) (h1 : B) : if decide c = true then A else B := iteD (fun h => absurd h hc) fun _ => h1
theorem iteNT {c A B : Prop} [Decidable c] (hc : ¬ c) (h1 : A) : if (!decide c) = true then A else B := iteN (fun _ => h1) fun h => absurd h hc
theorem iteNF {c A B : Prop} [Decidable c] (hc : c) (h1 : B) : if (!decide c) = true then A else B := iteN (fun h => absurd hc h) fun _ => h1
/-! ## heaps -/
section
variable {H H' H1 H2 : Hp}
theorem at_new {p g : Addr} {o u : HO} (np : H p = none) (h : H g = some o) : upd H p u g = some o := by
  rw [upd_ne (ne_of_none h np)]
  exact h
theorem at_wr {p g : Addr} {o u : HO} (hne : g ≠ p) (h : H g = some o) : upd H p u g = some o := by
  rw [upd_ne hne]
  exact h
theorem same_new {p : Addr} {u : HO} (np : H p = none) : Same H (upd H p u) := fun _ _ h => at_new np h
end
/-! ## frames: all stays but the place of the draws -/
/-- not the list that the draws turn -/
def NotSt (o : HO) : Prop := ∀ (a : Addr) (i m r : Int), o ≠ .lst [.ref a, .int i, .int m, .int r]
theorem nst_tup {xs : List V} : NotSt (.tup xs) := fun _ _ _ _ h => nomatch h
theorem nst_frz {o : Obj} {u : HO} : NotSt (.frz o u) := fun _ _ _ _ h => nomatch h
theorem nst_ins {C dx : Addr} {fs : List (Str × V)} : NotSt (.ins C dx fs) := fun _ _ _ _ h => nomatch h
theorem nst_own {x : Addr} : NotSt (.own x) := fun _ _ _ _ h => nomatch h
theorem nst_nil : NotSt (.lst []) := fun _ _ _ _ h => by cases h
theorem nst_int {i : Int} {r : List V} : NotSt (.lst (.int i :: r)) := fun _ _ _ _ h => by cases h
theorem nst_cons {a b : Addr} {r : List V} : NotSt (.lst (.ref a :: .ref b :: r)) := fun _ _ _ _ h => by cases h
theorem nst_ints {ns : List Int} : NotSt (.lst (ns.map V.int)) := fun _ _ _ _ h => by
  cases ns with
  | nil => cases h
  | cons a r => cases h
theorem nst_refs {as : List Addr} : NotSt (.lst (as.map V.ref)) := fun _ _ _ _ h => by
  match as, h with
  | [], h => cases h
  | [_], h => cases h
  | _ :: _ :: _, h => cases h
def Fr (H H' : Hp) : Prop := ∀ b o, H b = some o → NotSt o → H' b = some o
section
variable {K : PySem.W.Frag} {H H' H1 H2 : Hp}
theorem Fr.refl (H : Hp) : Fr H H := fun _ _ h _ => h
theorem Fr.trans (a : Fr H H1) (b : Fr H1 H2) : Fr H H2 := fun c o h n => b c o (a c o h n) n
theorem Fr.same (a : Fr H H1) (b : Same H1 H2) : Fr H H2 := fun c o h n => b c o (a c o h n)
theorem Fr.of (a : Same H H1) : Fr H H1 := fun c o h _ => a c o h
theorem fr_at {g : Addr} {o : HO} (R : Fr H H') (h : H g = some o) (n : NotSt o) : H' g = some o := R g o h n
theorem same_at {g : Addr} {o : HO} (R : Same H H') (h : H g = some o) : H' g = some o := R g o h
theorem same_sq {a : Addr} {xs : List V} (R : Same H H') (h : SqL K H a xs) : SqL K H' a xs := R.seq h
theorem fr_sq {a : Addr} {ns : List Int} (R : Fr H H') (h : SqL K H a (ns.map V.int)) : SqL K H' a (ns.map V.int) := by
  rcases h with (h | ⟨o, h⟩) | h
  · exact .inl (.inl (R _ _ h nst_ints))
  · exact .inl (.inr ⟨o, R _ _ h nst_frz⟩)
  · exact .inr h
theorem sq_new {p a : Addr} {u : HO} {xs : List V} (np : H p = none) (h : SqL K H a xs) : SqL K (upd H p u) a xs := (same_new np).seq h
theorem fr_new {p : Addr} {u : HO} (np : H1 p = none) (h : Fr H H1) : Fr H (upd H1 p u) := fun b o e n => at_new np (h b o e n)
theorem sm_new {p : Addr} {u : HO} (np : H1 p = none) (h : Same H H1) : Same H (upd H1 p u) := fun b o e => at_new np (h b o e)
theorem Same.free {p : Addr} (h : Same H H1) (n : H1 p = none) : H p = none := by
  cases e : H p with
  | none => rfl
  | some o => rw [h p o e] at n; cases n
theorem r_pow {Q : VK} {i j : Int} (c : 0 ≤ j ∧ j ≤ 1000000 ∧ i.natAbs < 2 ^ 64) (k : Q (.int (i ^ j.toNat)) H) : rI CPow (fun i j => .int (i ^ j.toNat)) (.int i) (.int j) H Q := ⟨i, j, rfl, rfl, c, k⟩
theorem r_dec {Q : VK} {p : Prop} [Decidable p] {a : Hp} (k : Q (.bl (decide p)) a) : Q (.bl (decide p)) a := k
end
theorem map_at {α : Type} {f : α → V} {l : List α} {i : Nat} {y : V} (h : (l.map f)[i]? = some y) : ∃ z, l[i]? = some z ∧ y = f z := by
  rw [List.getElem?_map] at h
  cases e : l[i]? with
  | none => rw [e] at h; cases h
  | some z => rw [e] at h; exact ⟨z, rfl, (Option.some.inj h).symm⟩
theorem r_start {T : L2.St → Hp → Prop} {σ σ' : L2.St} {H : Hp} (e : σ = σ') (k : T σ' H) : T σ H := e ▸ k
theorem len_ok {n : Nat} (h : Nat.ble n 1000 = true) : n ≤ sizeLine := Nat.le_of_lt (small1000 (Nat.le_of_ble_eq_true h))
theorem r_lay {xs : List V} {R : Prop} (h : xs.length ≤ sizeLine) (k : R) : xs.length ≤ sizeLine ∧ R := ⟨h, k⟩
theorem r_setA {H : Hp} {p : Addr} {xs ys : List V} {i : Int} {j : Nat} {x : V} {G : Hp → Prop} (h : H p = some (.lst xs)) (e : ixN xs.length i = some j) (hy : xs.set j x = ys) (k : ∀ H', H' p = some (.lst ys) → (∀ b o, b ≠ p → H b = some o → H' b = some o) → G H') : rSetL (.ref p) (.int i) x H G :=
  r_setL h e (by rw [hy]; exact k _ upd_same fun b o n q => at_wr n q)
theorem r_appA {H : Hp} {Q : VK} {l : Addr} {xs : List V} {y : V} (h : H l = some (.lst xs)) (hz : xs.length < sizeLine) (k : ∀ H', H' l = some (.lst (xs ++ [y])) → (∀ b o, b ≠ l → H b = some o → H' b = some o) → Q .non H') : rAppend (.ref l) [y] H Q :=
  r_app h hz (k _ upd_same fun b o n q => at_wr n q)
theorem pickI {v : Int} (ns : List Int) (h0 : 0 ≤ v) (h1 : v < ns.length) : ∃ w, atI (ns.map V.int) v = some (.int w) ∧ w ∈ ns := by
  have h : v.toNat < ns.length := by omega
  exact ⟨ns[v.toNat], at_of (j := v.toNat) (by omega) (by rw [List.getElem?_map, List.getElem?_eq_getElem h]; rfl), List.getElem_mem h⟩
theorem pickN {v : Int} {n : Nat} (ns : List Int) (h0 : 0 ≤ v) (h1 : v < n) (h2 : n ≤ ns.length) : ∃ w, atI (ns.map V.int) v = some (.int w) ∧ w ∈ ns.take n := by
  have h : v.toNat < ns.length := by omega
  refine ⟨ns[v.toNat], at_of (j := v.toNat) (by omega) (by rw [List.getElem?_map, List.getElem?_eq_getElem h]; rfl), ?_⟩
  have h3 : v.toNat < (ns.take n).length := by rw [List.length_take]; omega
  have e : (ns.take n)[v.toNat] = ns[v.toNat] := List.getElem_take
  rw [← e]
  exact List.getElem_mem h3
theorem pick2 {v : Int} (a b : Int) (h0 : 0 ≤ v) (h1 : v < 2) : ∃ w, atI [V.int a, V.int b] v = some (.int w) ∧ (v = 0 ∧ w = a ∨ v = 1 ∧ w = b) := by
  have : v = 0 ∨ v = 1 := by omega
  rcases this with rfl | rfl
  · exact ⟨a, rfl, .inl ⟨rfl, rfl⟩⟩
  · exact ⟨b, rfl, .inr ⟨rfl, rfl⟩⟩
theorem pick3 {v : Int} (a b c : Int) (h0 : 0 ≤ v) (h1 : v < 3) : ∃ w, atI [V.int a, V.int b, V.int c] v = some (.int w) ∧ (v = 0 ∧ w = a ∨ v = 1 ∧ w = b ∨ v = 2 ∧ w = c) := by
  have : v = 0 ∨ v = 1 ∨ v = 2 := by omega
  rcases this with rfl | rfl | rfl
  · exact ⟨a, rfl, .inl ⟨rfl, rfl⟩⟩
  · exact ⟨b, rfl, .inr (.inl ⟨rfl, rfl⟩)⟩
  · exact ⟨c, rfl, .inr (.inr ⟨rfl, rfl⟩)⟩
theorem pick4 {v : Int} (a b c d : Int) (h0 : 0 ≤ v) (h1 : v < 4) : ∃ w, atI [V.int a, V.int b, V.int c, V.int d] v = some (.int w) ∧ (v = 0 ∧ w = a ∨ v = 1 ∧ w = b ∨ v = 2 ∧ w = c ∨ v = 3 ∧ w = d) := by
  have : v = 0 ∨ v = 1 ∨ v = 2 ∨ v = 3 := by omega
  rcases this with rfl | rfl | rfl | rfl
  · exact ⟨a, rfl, .inl ⟨rfl, rfl⟩⟩
  · exact ⟨b, rfl, .inr (.inl ⟨rfl, rfl⟩)⟩
  · exact ⟨c, rfl, .inr (.inr (.inl ⟨rfl, rfl⟩))⟩
  · exact ⟨d, rfl, .inr (.inr (.inr ⟨rfl, rfl⟩))⟩
theorem at_neg1 {xs : List V} {n : Nat} {v : V} (hl : xs.length = n + 1) (h : xs[n]? = some v) : atI xs (-1) = some v := by
  have e : ixN xs.length (-1) = some n := by
    unfold ixN
    rw [hl, if_neg (by decide), if_pos (by omega)]
    have : (-1 + ((n + 1 : Nat) : Int)).toNat = n := by omega
    rw [this]
  unfold atI
  rw [e]
  exact h
/-! ## comprehensions -/
def LcW (J : It) (g : TG) (tt : TT) (te : TE) (vs : List Nat) (σ : L2.St) (Q : VK) (D : Addr) (H1 : Hp) : Prop := ∃ W : Nat → Nat → Hp → Prop, (∃ m, W 0 m (upd H1 D (.lst []))) ∧ ∀ i m H, W i m H →
  (J.stop i H ∧ Q (.ref D) H) ∨ (J.go i H ∧ ∃ Nx : Hp → Prop, (∀ H', Nx H' → ∃ m', m' < m ∧ W (i + 1) m' H') ∧ ∀ x H', J.yld i H x H' → g x (wipe σ vs) H' fun σ2 H2 => wipe σ2 vs = wipe σ vs ∧ tt σ2 H2 fun b H3 =>
    if b = true then te σ2 H3 fun y H4 => ∃ acc, H4 D = some (.lst acc) ∧ acc.length < sizeLine ∧ Nx (upd H4 D (.lst (acc ++ [y]))) else Nx H3)
theorem r_lc {wi : TI} {g : TG} {tt : TT} {te : TE} {vs : List Nat} {σ : L2.St} {H : Hp} {Q : VK} (k : wi σ H fun J H1 => ∀ D, H1 D = none → LcW J g tt te vs σ Q D H1) : tLc wi g tt te vs σ H Q := k
theorem r_tYes {σ : L2.St} {H : Hp} {Q : Bool → Hp → Prop} (k : Q true H) : tYes σ H Q := k
section
variable {g : TG} {tt : TT} {te : TE} {vs : List Nat} {σ σw : L2.St} {Q : VK} {D : Addr} {H1 : Hp}
theorem lcw_range {lo : Int} {n : Nat} (Pv : Nat → Hp → Prop) (hw : wipe σ vs = σw) (h0 : Pv 0 (upd H1 D (.lst [])))
    (hs : ∀ i H, i < n → Pv i H → g (.int (lo + i)) σw H fun σ2 H2 => wipe σ2 vs = σw ∧ tt σ2 H2 fun b H3 =>
      if b = true then te σ2 H3 fun y H4 => ∃ acc, H4 D = some (.lst acc) ∧ acc.length < sizeLine ∧ Pv (i + 1) (upd H4 D (.lst (acc ++ [y]))) else Pv (i + 1) H3) (hd : ∀ H, Pv n H → Q (.ref D) H) : LcW (Itr lo n) g tt te vs σ Q D H1 := by
  subst hw
  exact lc_range Pv h0 hs hd
theorem lcw_list {K : PySem.W.Frag} {a : Addr} {xs : List V} (Pv : Nat → Hp → Prop) (hw : wipe σ vs = σw) (h0 : Pv 0 (upd H1 D (.lst []))) (hl : ∀ i H, i ≤ xs.length → Pv i H → SqL K H a xs)
    (hs : ∀ i x H, xs[i]? = some x → Pv i H → g x σw H fun σ2 H2 => wipe σ2 vs = σw ∧ tt σ2 H2 fun b H3 =>
      if b = true then te σ2 H3 fun y H4 => ∃ acc, H4 D = some (.lst acc) ∧ acc.length < sizeLine ∧ Pv (i + 1) (upd H4 D (.lst (acc ++ [y]))) else Pv (i + 1) H3) (hd : ∀ H, Pv xs.length H → Q (.ref D) H) : LcW (Itl K a) g tt te vs σ Q D H1 := by
  subst hw
  exact lc_list Pv h0 hl hs hd
end
/-- what the tail of a comprehension's turn asks, the heap behind it a letter -/
theorem lc_put {D : Addr} {acc : List V} {y : V} {H4 : Hp} {Nx : Hp → Prop} (h : H4 D = some (.lst acc)) (hz : acc.length < sizeLine) (k : ∀ H5, H5 D = some (.lst (acc ++ [y])) → (∀ b o, b ≠ D → H4 b = some o → H5 b = some o) → Nx H5) :
    ∃ acc, H4 D = some (.lst acc) ∧ acc.length < sizeLine ∧ Nx (upd H4 D (.lst (acc ++ [y]))) := ⟨acc, h, hz, k _ upd_same fun b o n q => at_wr n q⟩
/-! ## data in the heap -/
mutual
inductive Is (H : Hp) : V → PyData → Prop
  | non : Is H .non .none
  | bl (b : Bool) : Is H (.bl b) (.bool b)
  | int (i : Int) : Is H (.int i) (.int i)
  | str (x : Str) : Is H (.str x) (.str x)
  | lst {a : Addr} {xs : List V} {ds : List PyData} : H a = some (.lst xs) → IsAll H xs ds → Is H (.ref a) (.list ds)
  | tup {a : Addr} {xs : List V} {ds : List PyData} : H a = some (.tup xs) → IsAll H xs ds → Is H (.ref a) (.tuple ds)
inductive IsAll (H : Hp) : List V → List PyData → Prop
  | nil : IsAll H [] []
  | cons {v : V} {vs : List V} {d : PyData} {ds : List PyData} : Is H v d → IsAll H vs ds → IsAll H (v :: vs) (d :: ds)
end
mutual
theorem Is.dp {K : PySem.W.Frag} {H : Hp} : ∀ (d : PyData) (v : V), Is H v d → Dp K H v d
  | .none, _, h => by cases h; exact .non
  | .bool b, _, h => by cases h; exact .bl b
  | .int i, _, h => by cases h; exact .int i
  | .str x, _, h => by cases h; exact .str x
  | .list ds, _, h => by
    cases h with
    | lst a b => exact .lst (SqL.of a) (IsAll.dp ds _ b)
  | .tuple ds, _, h => by
    cases h with
    | tup a b => exact .tup (SqT.of a) (IsAll.dp ds _ b)
  | .dict _, _, h => by cases h
theorem IsAll.dp {K : PySem.W.Frag} {H : Hp} : ∀ (ds : List PyData) (vs : List V), IsAll H vs ds → DpAll K H vs ds
  | [], _, h => by cases h; exact .nil
  | d :: ds, _, h => by
    cases h with
    | cons a b => exact .cons (Is.dp d _ a) (IsAll.dp ds _ b)
end
mutual
theorem Is.mono {H H' : Hp} (R : Same H H') : ∀ (d : PyData) (v : V), Is H v d → Is H' v d
  | .none, _, h => by cases h; exact .non
  | .bool b, _, h => by cases h; exact .bl b
  | .int i, _, h => by cases h; exact .int i
  | .str x, _, h => by cases h; exact .str x
  | .list ds, _, h => by
    cases h with
    | lst a b => exact .lst (R _ _ a) (IsAll.mono R ds _ b)
  | .tuple ds, _, h => by
    cases h with
    | tup a b => exact .tup (R _ _ a) (IsAll.mono R ds _ b)
  | .dict _, _, h => by cases h
theorem IsAll.mono {H H' : Hp} (R : Same H H') : ∀ (ds : List PyData) (vs : List V), IsAll H vs ds → IsAll H' vs ds
  | [], _, h => by cases h; exact .nil
  | d :: ds, _, h => by
    cases h with
    | cons a b => exact .cons (Is.mono R d _ a) (IsAll.mono R ds _ b)
end
theorem IsAll.len {H : Hp} : ∀ {ds : List PyData} {vs : List V}, IsAll H vs ds → vs.length = ds.length
  | [], _, h => by cases h; rfl
  | d :: ds, _, h => by
    cases h with
    | cons a b =>
      show _ + 1 = _ + 1
      rw [IsAll.len b]
theorem IsAll.get {H : Hp} : ∀ {ds : List PyData} {vs : List V} {i : Nat}, IsAll H vs ds → i < ds.length → ∃ v d, vs[i]? = some v ∧ ds[i]? = some d ∧ Is H v d
  | [], _, _, _, h2 => by simp at h2
  | d :: ds, _, 0, h, _ => by
    cases h with
    | cons a b => exact ⟨_, d, rfl, rfl, a⟩
  | d :: ds, _, i + 1, h, h2 => by
    cases h with
    | cons a b =>
      obtain ⟨v, e, h1, h3, h4⟩ := IsAll.get (i := i) b (by simpa using h2)
      exact ⟨v, e, by simpa using h1, by simpa using h3, h4⟩
theorem IsAll.snoc {H : Hp} {v : V} {d : PyData} (h2 : Is H v d) : ∀ {ds : List PyData} {vs : List V}, IsAll H vs ds → IsAll H (vs ++ [v]) (ds ++ [d])
  | [], _, h => by cases h; exact .cons h2 .nil
  | e :: ds, _, h => by
    cases h with
    | cons a b => exact .cons a (IsAll.snoc h2 b)
theorem IsAll.ints {H : Hp} : ∀ ns : List Int, IsAll H (ns.map V.int) (ns.map PyData.int)
  | [] => .nil
  | n :: r => .cons (.int n) (IsAll.ints r)
/-- a pair of ints as data -/
def dPair (x : Int × Int) : PyData := .tuple [.int x.1, .int x.2]
theorem Is.pair {H : Hp} {a : Addr} {x : Int × Int} (h : H a = some (.tup [.int x.1, .int x.2])) : Is H (.ref a) (dPair x) := .tup h (.cons (.int _) (.cons (.int _) .nil))
def dInts (ns : List Int) : PyData := .list (ns.map PyData.int)
theorem Is.ints {H : Hp} {a : Addr} {ns : List Int} (h : H a = some (.lst (ns.map V.int))) : Is H (.ref a) (dInts ns) := .lst h (.ints ns)
/-- flat enough, and without dicts -/
def Fl (n : Nat) (d : PyData) : Prop := d.canLay0 = true ∧ d.depth ≤ n
theorem Fl.shaped {n : Nat} {d : PyData} (h : Fl n d) (hn : n ≤ 64) : SeqAt.shaped d = true := by
  unfold SeqAt.shaped
  rw [h.1]
  exact decide_eq_true (Nat.le_trans h.2 hn)
theorem fl_all {n : Nat} : ∀ {ds : List PyData}, (∀ d ∈ ds, Fl n d) → PyData.canLayAll0 ds = true ∧ PyData.depthAll ds ≤ n
  | [], _ => ⟨rfl, Nat.zero_le _⟩
  | d :: ds, h => by
    obtain ⟨a, b⟩ := fl_all (ds := ds) fun e he => h e (List.mem_cons_of_mem _ he)
    obtain ⟨c, e⟩ := h d List.mem_cons_self
    refine ⟨?_, ?_⟩
    · rw [PyData.canLayAll0, c, a]
      rfl
    · rw [PyData.depthAll]
      omega
theorem Fl.list {n : Nat} {ds : List PyData} (h : ∀ d ∈ ds, Fl n d) : Fl (n + 1) (.list ds) := by
  obtain ⟨a, b⟩ := fl_all h
  exact ⟨by rw [PyData.canLay0]; exact a, by rw [PyData.depth]; omega⟩
theorem Fl.tuple {n : Nat} {ds : List PyData} (h : ∀ d ∈ ds, Fl n d) : Fl (n + 1) (.tuple ds) := by
  obtain ⟨a, b⟩ := fl_all h
  exact ⟨by rw [PyData.canLay0]; exact a, by rw [PyData.depth]; omega⟩
theorem Fl.int (n : Nat) (i : Int) : Fl n (.int i) := ⟨by rw [PyData.canLay0], by rw [PyData.depth]; omega⟩
theorem Fl.bl (n : Nat) (i : Bool) : Fl n (.bool i) := ⟨by rw [PyData.canLay0], by rw [PyData.depth]; omega⟩
theorem Fl.non (n : Nat) : Fl n .none := ⟨by rw [PyData.canLay0], by rw [PyData.depth]; omega⟩
theorem Fl.pair (n : Nat) (x : Int × Int) : Fl (n + 1) (dPair x) := Fl.tuple fun d h => by
  simp at h
  rcases h with rfl | rfl <;> exact Fl.int _ _
theorem Fl.ints (n : Nat) (ns : List Int) : Fl (n + 1) (dInts ns) := Fl.list fun d h => by
  obtain ⟨i, _, rfl⟩ := List.mem_map.mp h
  exact Fl.int _ _
theorem Fl.pairs (n : Nat) (xs : List (Int × Int)) : Fl (n + 2) (.list (xs.map dPair)) := Fl.list fun d h => by
  obtain ⟨i, _, rfl⟩ := List.mem_map.mp h
  exact Fl.pair _ _
theorem Fl.mono {n m : Nat} {d : PyData} (h : Fl n d) (k : n ≤ m) : Fl m d := ⟨h.1, Nat.le_trans h.2 k⟩
theorem r_eqIs {K : PySem.W.Frag} {H : Hp} {Q : VK} {x y : V} {d : PyData} {n : Nat} (h1 : Is H x d) (h2 : Is H y d) (f : Fl n d) (k : Q (.bl true) H) (hn : n ≤ 64 := by decide) : rEqA K x y H Q := r_eqD (Is.dp d x h1) (Is.dp d y h2) (f.shaped hn) k
theorem r_neIs {K : PySem.W.Frag} {H : Hp} {Q : VK} {x y : V} {d : PyData} {n : Nat} (h1 : Is H x d) (h2 : Is H y d) (f : Fl n d) (k : Q (.bl false) H) (hn : n ≤ 64 := by decide) : rNeA K x y H Q := r_neD (Is.dp d x h1) (Is.dp d y h2) (f.shaped hn) k
/-! ## isinstance -/
def rIsiA (K : PySem.W.Frag) : List V → Hp → VK → Prop := fun xs H Q => rIsi K xs H Q ∨ rIsiT K xs H Q
/-- the class of a datum -/
def tyD : PyData → String
  | .none => "NoneType"
  | .bool _ => "bool"
  | .int _ => "int"
  | .str _ => "str"
  | .list _ => "list"
  | .tuple _ => "tuple"
  | .dict _ => "dict"
theorem Is.ty {K : PySem.W.Frag} {H : Hp} {v : V} {d : PyData} (h : Is H v d) : TyX K H v (.type (tyD d)) := by
  cases h with
  | non => exact .base .non
  | bl b => exact .base (.bl b)
  | int i => exact .base (.int i)
  | str x => exact .base (.str x)
  | lst a b => exact .base (.lst a)
  | tup a b => exact .base (.tup a)
theorem r_isi {K : PySem.W.Frag} {H : Hp} {Q : VK} {v : V} {T c : String} {b : Bool} (ty : TyX K H v (.type T)) (e : kitB T c = some b) (k : Q (.bl b) H) : rIsiA K [v, .ty c] H Q := .inl ⟨v, .ty c, .type T, .type c, b, rfl, .ty c, ty, kit_ty e, k⟩
theorem r_isi2 {K : PySem.W.Frag} {H : Hp} {Q : VK} {v : V} {t : Addr} {T c1 c2 : String} {b1 b2 : Bool} (ht : H t = some (.tup [.ty c1, .ty c2])) (ty : TyX K H v (.type T)) (e1 : kitB T c1 = some b1) (e2 : kitB T c2 = some b2) (k : Q (.bl (b1 || b2)) H) : rIsiA K [v, .ref t] H Q := by
  refine .inr ⟨v, t, [.ty c1, .ty c2], .type T, [.type c1, .type c2], b1 || b2, rfl, ht, .cons (.ty c1) (.cons (.ty c2) .nil), ty, ?_, k⟩
  refine kitAny_cons (kit_ty e1) (r := b1 || b2) (fun h => ?_) fun h => by rw [h]; rfl
  subst h
  refine kitAny_cons (kit_ty e2) (r := false || b2) (fun h => ?_) fun h => by rw [h]; rfl
  subst h
  exact kitAny_nil
theorem kcc_isi {X : Cx} {K : PySem.W.Frag} (h : X.K = K) : CallR X (.builtin "isinstance") (rIsiA K) := by subst h; exact CallR.or call_isi call_isiT
/-- where drawing stands -/
structure St (H : Hp) (st a : Addr) : Prop where
  ex : ∃ i m r : Int, H st = some (.lst [.ref a, .int i, .int m, .int r]) ∧ 0 ≤ i ∧ 0 ≤ m ∧ m < 2147483647 ∧ 0 ≤ r
theorem fr_st {H : Hp} {st : Addr} {a : Addr} {i m r : Int} {o : HO} (h : H st = some (.lst [.ref a, .int i, .int m, .int r])) : Fr H (upd H st o) := fun b u e n => by
  rw [upd_ne (fun q => by subst q; rw [h] at e; cases e; exact n _ _ _ _ rfl)]
  exact e
theorem St.same {H H' : Hp} {st a : Addr} (s : St H st a) (R : Same H H') : St H' st a := by
  obtain ⟨i, m, r, h, q⟩ := s.ex
  exact ⟨i, m, r, R _ _ h, q⟩
theorem St.new {H : Hp} {st a p : Addr} {u : HO} (s : St H st a) (np : H p = none) : St (upd H p u) st a := s.same (same_new np)
theorem St.ne {H : Hp} {st a p : Addr} {o : HO} (s : St H st a) (h : H p = some o) (n : NotSt o) : st ≠ p := by
  obtain ⟨i, m, r, e, q⟩ := s.ex
  exact ne_of e h fun z => n _ _ _ _ z.symm
theorem St.wr {H : Hp} {st a p : Addr} {o u : HO} (s : St H st a) (h : H p = some o) (n : NotSt o) : St (upd H p u) st a := by
  have ne := s.ne h n
  obtain ⟨i, m, r, e, q⟩ := s.ex
  exact ⟨i, m, r, by rw [upd_ne ne]; exact e, q⟩
theorem kpi_enum {X : Cx} {K : PySem.W.Frag} {e : Expr} {ta : TA} {p pos tpos : Pos} {elts : List Expr} {kk : Nat} (hK : X.K = K) (hg : Gl X "enumerate") (hm : X.mg "enumerate" = none) (ha : PA X [e] ta) (hs : starEach [e] X.env = [(false, eval e X.env)] := by rfl) :
    PI X (.Tuple elts kk tpos) (.Call (.Name "enumerate" p) [e] [] pos) (iEnum K ta) := by subst hK; exact pi_enum hg hm ha hs
theorem r_iEnum {K : PySem.W.Frag} {σ : L2.St} {H : Hp} {ta : TA} {R : It → Hp → Prop} (k : ta σ H fun vs H1 => ∃ a xs, vs = [.ref a] ∧ SqL K H1 a xs ∧ R (Ite K a) H1) : iEnum K ta σ H R := k
theorem fw_enum {K : PySem.W.Frag} {σ : L2.St} {H : Hp} {nn bb cc : L2.St → Hp → Prop} {rr : VK} {a : Addr} {xs : List V} {g : TG} {tb : TS} (Pv : Nat → L2.St → Hp → Prop) (h0 : Pv 0 σ H) (hl : ∀ i σ H, i ≤ xs.length → Pv i σ H → SqL K H a xs)
    (hs : ∀ i x σ H T, xs[i]? = some x → Pv i σ H → H T = none → g (.ref T) σ (upd H T (.tup [.int (i : Nat), x])) fun σ2 H2 => tb ⟨Pv (i + 1), rr, nn, Pv (i + 1)⟩ σ2 H2) (hd : ∀ σ H, Pv xs.length σ H → nn σ H) : ForW (Ite K a) g tb ⟨nn, rr, bb, cc⟩ σ H := by
  refine for_it (walk_enum (xs := xs)) Pv h0 hl (fun i x σ H H' hi p y => ?_) hd
  obtain ⟨T, u, v, rfl, nT, rfl, e1, e2⟩ := y
  cases e1
  exact hs i v σ H T e2 p nT
/-- == of two pairs of ints -/
theorem eqv_pair (x y : Int × Int) : PyData.eqv (dPair x) (dPair y) = decide (x = y) := by
  unfold dPair
  simp only [PyData.eqv, PyData.eqvAll, Bool.and_true]
  by_cases h : x = y
  · subst h
    simp
  · have : ¬ (x.1 = y.1 ∧ x.2 = y.2) := fun z => h (Prod.ext z.1 z.2)
    rw [decide_eq_false h]
    simp only [Bool.and_eq_false_iff, beq_eq_false_iff_ne]
    by_cases h1 : x.1 = y.1
    · exact .inr fun h2 => this ⟨h1, h2⟩
    · exact .inl h1
theorem r_eqPair {K : PySem.W.Frag} {H : Hp} {Q : VK} {a b : Addr} {x y : Int × Int} (h1 : H a = some (.tup [.int x.1, .int x.2])) (h2 : H b = some (.tup [.int y.1, .int y.2])) (k : Q (.bl (decide (x = y))) H) : rEqA K (.ref a) (.ref b) H Q :=
  .inr ⟨dPair x, dPair y, Is.dp _ _ (Is.pair h1), Is.dp _ _ (Is.pair h2), (Fl.pair 0 x).shaped (by decide), (Fl.pair 0 y).shaped (by decide), by rw [eqv_pair]; exact k⟩
theorem r_nePair {K : PySem.W.Frag} {H : Hp} {Q : VK} {a b : Addr} {x y : Int × Int} (h1 : H a = some (.tup [.int x.1, .int x.2])) (h2 : H b = some (.tup [.int y.1, .int y.2])) (k : Q (.bl (!decide (x = y))) H) : rNeA K (.ref a) (.ref b) H Q :=
  .inr ⟨dPair x, dPair y, Is.dp _ _ (Is.pair h1), Is.dp _ _ (Is.pair h2), (Fl.pair 0 x).shaped (by decide), (Fl.pair 0 y).shaped (by decide), by rw [eqv_pair]; exact k⟩
theorem r_sum {K : PySem.W.Frag} {H : Hp} {Q : VK} {a : Addr} {ns : List Int} (h : SqL K H a (ns.map V.int)) (k : Q (.int ns.sum) H) : rSum K [.ref a] H Q := ⟨a, ns, rfl, h, k⟩
theorem r_neSelf {K : PySem.W.Frag} {H : Hp} {Q : VK} {v : V} (h : v = .non ∨ ∃ i, v = .int i) (k : Q (.bl false) H) : rNeA K v v H Q := by
  rcases h with rfl | ⟨i, rfl⟩
  · exact .inl ⟨rfl, by rw [decide_eq_true rfl]; exact k⟩
  · exact r_neI (by rw [decide_eq_true rfl]; exact k)
theorem r_neNil {K : PySem.W.Frag} {H : Hp} {Q : VK} {a b : Addr} {ns : List Int} (h : H a = some (.lst (ns.map V.int))) (h2 : H b = some (.lst [])) (k : Q (.bl (!decide (ns = []))) H) : rNeA K (.ref a) (.ref b) H Q := by
  refine .inr ⟨dInts ns, .list [], Is.dp _ _ (Is.ints h), Is.dp _ _ (.lst h2 .nil), (Fl.ints 0 ns).shaped (by decide), (Fl.list (n := 0) (ds := []) (by simp)).shaped (by decide), ?_⟩
  have e : PyData.eqv (dInts ns) (.list []) = decide (ns = []) := by
    cases ns with
    | nil => simp [dInts, PyData.eqv, PyData.eqvAll]
    | cons n r => simp [dInts, PyData.eqv, PyData.eqvAll]
  rw [e]
  exact k
theorem cut_take {α : Type} (f : α → V) (ms : List α) {v : Int} (h0 : 0 ≤ v) : cutV (ms.map f) none (some v) = (ms.take v.toNat).map f := by
  obtain ⟨n, rfl⟩ : ∃ n : Nat, v = (n : Int) := ⟨v.toNat, by omega⟩
  unfold cutV
  rw [HT.sIx_nat, HT.sIx_none, List.drop_zero, Nat.sub_zero, Int.toNat_natCast, List.map_take]
  by_cases h : n ≤ (ms.map f).length
  · rw [Nat.min_eq_left h]
  · rw [Nat.min_eq_right (by omega), List.take_of_length_le (Nat.le_refl _), List.take_of_length_le (by omega)]
theorem cut_drop {α : Type} (f : α → V) (ms : List α) {v : Int} (h0 : 0 ≤ v) : cutV (ms.map f) (some v) none = (ms.drop v.toNat).map f := by
  obtain ⟨n, rfl⟩ : ∃ n : Nat, v = (n : Int) := ⟨v.toNat, by omega⟩
  unfold cutV
  rw [HT.sIx_nat, HT.sIx_none, Int.toNat_natCast, List.map_drop]
  by_cases h : n ≤ (ms.map f).length
  · rw [Nat.min_eq_left h, List.take_of_length_le (by rw [List.length_drop]; omega)]
  · rw [Nat.min_eq_right (by omega), Nat.sub_self, List.take_zero, List.drop_of_length_le (by omega)]
end Rd

/-! ## macros -/
local macro_rules | `(tactic| walk_at "nst") => `(tactic| first
  | exact Rd.nst_tup | exact Rd.nst_ints | exact Rd.nst_refs | exact Rd.nst_nil | exact Rd.nst_int | exact Rd.nst_cons | exact Rd.nst_frz | exact Rd.nst_ins | exact Rd.nst_own | assumption
  | (intro a i m r h; simp at h; done) | (intro a i m r h; cases h; done))
local macro_rules | `(tactic| walk_at "hp") => `(tactic| first
  | with_reducible assumption
  | with_reducible exact L2.upd_same
  | ((with_reducible refine' Rd.at_new ?hnp ?hup); (case hnp => with_reducible assumption); (case hup => walk_at "hp"))
  | ((with_reducible refine' Rd.same_at ?hsm ?hup); (case hsm => with_reducible assumption); (case hup => walk_at "hp"))
  | ((with_reducible refine' Rd.fr_at ?hsm ?hup ?hns); (case hsm => with_reducible assumption); (case hup => walk_at "hp"); (case hns => walk_at "nst"))
  | ((with_reducible refine' Rd.at_wr ?hne ?hup); (case hup => walk_at "hp"); (case hne => first | with_reducible assumption | (with_reducible refine' Ne.symm ?hne2; with_reducible assumption))))
local macro_rules | `(tactic| walk_at "sq") => `(tactic| first
  | with_reducible assumption
  | ((with_reducible refine' Rd.same_sq ?hsm ?hup); (case hsm => with_reducible assumption); (case hup => walk_at "sq"))
  | ((with_reducible refine' Rd.fr_sq ?hsm ?hup); (case hsm => with_reducible assumption); (case hup => walk_at "sq"))
  | ((with_reducible refine' Rd.sq_new ?hnp ?hup); (case hnp => with_reducible assumption); (case hup => walk_at "sq"))
  | ((with_reducible refine' L2.SqL.of ?hup); (case hup => walk_at "hp"))
  | ((with_reducible refine' L2.SqT.of ?hup); (case hup => walk_at "hp"))
  | ((with_reducible refine' Or.inl ?hup); (case hup => walk_at "sq"))
  | ((with_reducible refine' Or.inr ?hup); (case hup => walk_at "sq")))
local macro_rules | `(tactic| walk_at "ss") => `(tactic| first
  | with_reducible assumption
  | ((with_reducible refine' Rd.St.new ?hup ?hnp); (case hnp => with_reducible assumption); (case hup => walk_at "ss"))
  | ((with_reducible refine' Rd.St.same ?hup ?hsm); (case hsm => with_reducible assumption); (case hup => walk_at "ss")))
local macro_rules | `(tactic| walk_at "fr") => `(tactic| first
  | with_reducible assumption
  | with_reducible exact Rd.Fr.refl _
  | with_reducible exact L2.Same.refl _
  | ((with_reducible refine' Rd.fr_new ?hnp ?hup); (case hnp => first | with_reducible assumption | walk_at "no"); (case hup => walk_at "fr"))
  | ((with_reducible refine' Rd.sm_new ?hnp ?hup); (case hnp => first | with_reducible assumption | walk_at "no"); (case hup => walk_at "fr"))
  | ((with_reducible refine' Rd.Fr.trans ?hup ?hsm); (case hsm => with_reducible assumption); (case hup => walk_at "fr"))
  | ((with_reducible refine' Rd.Fr.same ?hup ?hsm); (case hsm => with_reducible assumption); (case hup => walk_at "fr"))
  | ((with_reducible refine' L2.Same.trans ?hup ?hsm); (case hsm => with_reducible assumption); (case hup => walk_at "fr")))
/-- one step -/
local macro_rules | `(tactic| walk_at "go1") => `(tactic| first
  | with_reducible refine Rd.r_v0 ?_ | with_reducible refine Rd.r_v1 ?_ | with_reducible refine Rd.r_v2 ?_ | with_reducible refine Rd.r_v3 ?_ | with_reducible refine Rd.r_v4 ?_ | with_reducible refine Rd.r_v5 ?_
  | with_reducible refine Rd.r_c ?_ | with_reducible refine Rd.r_op ?_ | with_reducible refine Rd.r_cons ?_ | with_reducible refine Rd.r_nil ?_
  | with_reducible refine Rd.r_I0 ?_ | with_reducible refine Rd.r_addI ?_ | with_reducible refine Rd.r_eqI ?_ | with_reducible refine Rd.r_neI ?_ | with_reducible refine Rd.r_eqB ?_ | with_reducible refine Rd.r_neB ?_
  | with_reducible refine Rd.r_seq ?_ | with_reducible refine Rd.r_asg ?_
  | with_reducible refine Rd.r_g0 ?_ | with_reducible refine Rd.r_g1 ?_ | with_reducible refine Rd.r_g2 ?_ | with_reducible refine Rd.r_g3 ?_ | with_reducible refine Rd.r_g4 ?_ | with_reducible refine Rd.r_g5 ?_
  | with_reducible refine Rd.r_ret ?_ | with_reducible refine Rd.r_retN ?_ | with_reducible refine Rd.r_ifS ?_ | with_reducible refine Rd.r_next ?_ | with_reducible refine Rd.r_drop ?_ | with_reducible refine Rd.r_break ?_ | with_reducible refine Rd.r_cont ?_
  | with_reducible refine Rd.r_test ?_ | with_reducible refine Rd.r_B ?_ | with_reducible refine Rd.r_bl ?_ | with_reducible refine Rd.r_and ?_ | with_reducible refine Rd.r_or ?_ | with_reducible refine Rd.r_not ?_
  | with_reducible refine Rd.r_andV ?_ | with_reducible refine Rd.r_orV ?_ | with_reducible refine Rd.r_notV ?_ | with_reducible refine Rd.r_if ?_ | with_reducible refine Rd.r_chain ?_ | with_reducible refine Rd.r_un ?_ | with_reducible refine Rd.r_U ?_
  | with_reducible refine Rd.r_cB ?_ | with_reducible refine Rd.r_call ?_ | with_reducible refine Rd.r_tup ?_ | with_reducible refine Rd.r_lst ?_
  | with_reducible refine Rd.r_sl ?_ | with_reducible refine Rd.r_noP ?_ | with_reducible refine Rd.r_part ?_ | with_reducible refine Rd.r_partI ?_ | with_reducible refine Rd.r_bm ?_ | with_reducible refine Rd.r_bm0 ?_
  | with_reducible refine Rd.r_for ?_ | with_reducible refine Rd.r_iList ?_ | with_reducible refine Rd.r_iRng1 ?_ | with_reducible refine Rd.r_iRng2 ?_ | with_reducible refine Rd.r_iEnum ?_
  | with_reducible refine Rd.r_lc ?_ | with_reducible refine Rd.r_tYes ?_
  | with_reducible refine Rd.r_max2 ?_ | with_reducible refine Rd.r_min2 ?_ | with_reducible refine Rd.r_abs ?_ | with_reducible refine Rd.r_intI ?_ | with_reducible refine Rd.r_intB ?_
  | with_reducible refine Rd.r_gCons ?_ | with_reducible refine Rd.r_gNil ?_ | with_reducible refine Rd.r_gSub ?_
  | ((with_reducible refine' Rd.r_ix ?hsq ?hat ?hk); (case hsq => walk_at "sq"); (case hat => first | rfl | assumption))
  | ((with_reducible refine' Rd.r_gTup ?hsq ?hat ?hk); (case hsq => walk_at "sq"); (case hat => rfl))
  | ((with_reducible refine' Rd.r_lenS ?hsq ?hk); (case hsq => walk_at "sq"); (intro hlenS))
  | ((with_reducible refine' Rd.r_lay ?hlen ?hk); (case hlen => exact Rd.len_ok rfl))
  | ((with_reducible refine' Rd.r_pow ?hpo ?hk); (case hpo => decide))
  | with_reducible refine Rd.r_v6 ?_ | with_reducible refine Rd.r_v7 ?_ | with_reducible refine Rd.r_v8 ?_ | with_reducible refine Rd.r_v9 ?_ | with_reducible refine Rd.r_v10 ?_ | with_reducible refine Rd.r_v11 ?_ | with_reducible refine Rd.r_v12 ?_ | with_reducible refine Rd.r_v13 ?_ | with_reducible refine Rd.r_v14 ?_ | with_reducible refine Rd.r_v15 ?_ | with_reducible refine Rd.r_v16 ?_ | with_reducible refine Rd.r_v17 ?_ | with_reducible refine Rd.r_v18 ?_ | with_reducible refine Rd.r_v19 ?_ | with_reducible refine Rd.r_v20 ?_ | with_reducible refine Rd.r_v21 ?_
  | with_reducible refine Rd.r_g6 ?_ | with_reducible refine Rd.r_g7 ?_ | with_reducible refine Rd.r_g8 ?_ | with_reducible refine Rd.r_g9 ?_ | with_reducible refine Rd.r_g10 ?_ | with_reducible refine Rd.r_g11 ?_ | with_reducible refine Rd.r_g12 ?_ | with_reducible refine Rd.r_g13 ?_ | with_reducible refine Rd.r_g14 ?_ | with_reducible refine Rd.r_g15 ?_ | with_reducible refine Rd.r_g16 ?_ | with_reducible refine Rd.r_g17 ?_ | with_reducible refine Rd.r_g18 ?_ | with_reducible refine Rd.r_g19 ?_ | with_reducible refine Rd.r_g20 ?_ | with_reducible refine Rd.r_g21 ?_)
local macro_rules | `(tactic| walk_at "go") => `(tactic| repeat walk_at "go1")

namespace Rd
open PySem L2
def top (i : Nat) : Stmt := PySem.Challenge.pw_stepgear_k05_whole_the_fewest_to_a_place.main.body.getD i (.Pass ⟨0, 0, 0, 0⟩)
abbrev s_need_gear : Stmt := top 9
theorem sc_need_gear : FnScope ["gear", "around", "play"] ["gear"] (defScope s_need_gear) := ⟨rfl, rfl, rfl, by decide +kernel, rfl, by decide +kernel, by decide +kernel⟩
theorem bo_need_gear : BindOk "need_gear" s_need_gear ["gear"] := fun _ _ _ _ _ _ us hl => match us, hl with | [_], _ => rfl
abbrev s_need_standing : Stmt := top 10
theorem sc_need_standing : FnScope ["gear", "standing", "motor", "shaft"] ["gear", "standing"] (defScope s_need_standing) := ⟨rfl, rfl, rfl, by decide +kernel, rfl, by decide +kernel, by decide +kernel⟩
theorem bo_need_standing : BindOk "need_standing" s_need_standing ["gear", "standing"] := fun _ _ _ _ _ _ us hl => match us, hl with | [_, _], _ => rfl
abbrev s_need_moves : Stmt := top 11
theorem sc_need_moves : FnScope ["moves"] ["moves"] (defScope s_need_moves) := ⟨rfl, rfl, rfl, by decide +kernel, rfl, by decide +kernel, by decide +kernel⟩
theorem bo_need_moves : BindOk "need_moves" s_need_moves ["moves"] := fun _ _ _ _ _ _ us hl => match us, hl with | [_], _ => rfl
abbrev s_behind : Stmt := top 12
theorem sc_behind : FnScope ["gear", "standing", "steps", "motor"] ["gear", "standing", "steps"] (defScope s_behind) := ⟨rfl, rfl, rfl, by decide +kernel, rfl, by decide +kernel, by decide +kernel⟩
theorem bo_behind : BindOk "behind" s_behind ["gear", "standing", "steps"] := fun _ _ _ _ _ _ us hl => match us, hl with | [_, _, _], _ => rfl
abbrev s_all_behind : Stmt := top 13
theorem sc_all_behind : FnScope ["gear", "standing", "moves", "found", "steps"] ["gear", "standing", "moves"] (defScope s_all_behind) := ⟨rfl, rfl, rfl, by decide +kernel, rfl, by decide +kernel, by decide +kernel⟩
theorem bo_all_behind : BindOk "all_behind" s_all_behind ["gear", "standing", "moves"] := fun _ _ _ _ _ _ us hl => match us, hl with | [_, _, _], _ => rfl
abbrev s_stands : Stmt := top 14
theorem sc_stands : FnScope ["gear", "standing", "moves"] ["gear", "standing", "moves"] (defScope s_stands) := ⟨rfl, rfl, rfl, by decide +kernel, rfl, by decide +kernel, by decide +kernel⟩
theorem bo_stands : BindOk "stands" s_stands ["gear", "standing", "moves"] := fun _ _ _ _ _ _ us hl => match us, hl with | [_, _, _], _ => rfl
abbrev s_need_goals : Stmt := top 16
theorem sc_need_goals : FnScope ["gear", "standing", "goals", "most", "goal"] ["gear", "standing", "goals", "most"] (defScope s_need_goals) := ⟨rfl, rfl, rfl, by decide +kernel, rfl, by decide +kernel, by decide +kernel⟩
theorem bo_need_goals : BindOk "need_goals" s_need_goals ["gear", "standing", "goals", "most"] := fun _ _ _ _ _ _ us hl => match us, hl with | [_, _, _, _], _ => rfl
abbrev s_choices : Stmt := top 17
theorem sc_choices : FnScope ["gear", "standing", "goal", "around", "play", "motor", "shaft", "far"] ["gear", "standing", "goal"] (defScope s_choices) := ⟨rfl, rfl, rfl, by decide +kernel, rfl, by decide +kernel, by decide +kernel⟩
theorem bo_choices : BindOk "choices" s_choices ["gear", "standing", "goal"] := fun _ _ _ _ _ _ us hl => match us, hl with | [_, _, _], _ => rfl
abbrev s_to : Stmt := top 18
theorem sc_to : FnScope ["gear", "standing", "goal"] ["gear", "standing", "goal"] (defScope s_to) := ⟨rfl, rfl, rfl, by decide +kernel, rfl, by decide +kernel, by decide +kernel⟩
theorem bo_to : BindOk "to" s_to ["gear", "standing", "goal"] := fun _ _ _ _ _ _ us hl => match us, hl with | [_, _, _], _ => rfl
abbrev s_law_start : Stmt := top 20
theorem sc_law_start : FnScope ["_law_script", "_law_mixed", "_law_cell"] ["_law_script"] (defScope s_law_start) := ⟨rfl, rfl, rfl, by decide +kernel, rfl, by decide +kernel, by decide +kernel⟩
theorem bo_law_start : BindOk "_law_start" s_law_start ["_law_script"] := fun _ _ _ _ _ _ us hl => match us, hl with | [_], _ => rfl
abbrev s_law_drawn : Stmt := top 21
theorem sc_law_drawn : FnScope ["_law_state", "_law_many", "_law_found", "_law_cell"] ["_law_state", "_law_many"] (defScope s_law_drawn) := ⟨rfl, rfl, rfl, by decide +kernel, rfl, by decide +kernel, by decide +kernel⟩
theorem bo_law_drawn : BindOk "_law_drawn" s_law_drawn ["_law_state", "_law_many"] := fun _ _ _ _ _ _ us hl => match us, hl with | [_, _], _ => rfl
abbrev s_law_same : Stmt := top 22
theorem sc_law_same : FnScope ["_law_found", "_law_due", "_law_k"] ["_law_found", "_law_due"] (defScope s_law_same) := ⟨rfl, rfl, rfl, by decide +kernel, rfl, by decide +kernel, by decide +kernel⟩
theorem bo_law_same : BindOk "_law_same" s_law_same ["_law_found", "_law_due"] := fun _ _ _ _ _ _ us hl => match us, hl with | [_, _], _ => rfl
abbrev s_law_gear : Stmt := top 23
theorem sc_law_gear : FnScope ["_law_state", "_law_small", "_law_sorts", "_law_around", "_law_play"] ["_law_state", "_law_small"] (defScope s_law_gear) := ⟨rfl, rfl, rfl, by decide +kernel, rfl, by decide +kernel, by decide +kernel⟩
theorem bo_law_gear : BindOk "_law_gear" s_law_gear ["_law_state", "_law_small"] := fun _ _ _ _ _ _ us hl => match us, hl with | [_, _], _ => rfl
abbrev s_law_standing : Stmt := top 24
theorem sc_law_standing : FnScope ["_law_state", "_law_gear_here", "_law_far", "_law_motor"] ["_law_state", "_law_gear_here"] (defScope s_law_standing) := ⟨rfl, rfl, rfl, by decide +kernel, rfl, by decide +kernel, by decide +kernel⟩
theorem bo_law_standing : BindOk "_law_standing" s_law_standing ["_law_state", "_law_gear_here"] := fun _ _ _ _ _ _ us hl => match us, hl with | [_, _], _ => rfl
abbrev s_law_moves : Stmt := top 25
theorem sc_law_moves : FnScope ["_law_state", "_law_gear_here", "_law_most", "_law_found", "_law_k", "_law_size"] ["_law_state", "_law_gear_here", "_law_most"] (defScope s_law_moves) := ⟨rfl, rfl, rfl, by decide +kernel, rfl, by decide +kernel, by decide +kernel⟩
theorem bo_law_moves : BindOk "_law_moves" s_law_moves ["_law_state", "_law_gear_here", "_law_most"] := fun _ _ _ _ _ _ us hl => match us, hl with | [_, _, _], _ => rfl
abbrev s_law_behind : Stmt := top 26
theorem sc_law_behind : FnScope ["_law_gear_here", "_law_standing_here", "_law_steps", "_law_motor", "_law_shaft", "_law_free"] ["_law_gear_here", "_law_standing_here", "_law_steps"] (defScope s_law_behind) := ⟨rfl, rfl, rfl, by decide +kernel, rfl, by decide +kernel, by decide +kernel⟩
theorem bo_law_behind : BindOk "_law_behind" s_law_behind ["_law_gear_here", "_law_standing_here", "_law_steps"] := fun _ _ _ _ _ _ us hl => match us, hl with | [_, _, _], _ => rfl
abbrev s_law_tried : Stmt := top 27
theorem sc_law_tried : FnScope ["_law_gear_here", "_law_standing_here", "_law_goal", "_law_size", "_law_steps"] ["_law_gear_here", "_law_standing_here", "_law_goal"] (defScope s_law_tried) := ⟨rfl, rfl, rfl, by decide +kernel, rfl, by decide +kernel, by decide +kernel⟩
theorem bo_law_tried : BindOk "_law_tried" s_law_tried ["_law_gear_here", "_law_standing_here", "_law_goal"] := fun _ _ _ _ _ _ us hl => match us, hl with | [_, _, _], _ => rfl
abbrev s_law : Stmt := top 28
theorem sc_law : FnScope ["_law_script", "_law_state", "_law_turn", "_law_gear_here", "_law_standing_here", "_law_goal", "_law_found", "_law_up", "_law_down", "_law_due", "_law_upwards", "_law_downwards"] ["_law_script"] (defScope s_law) := ⟨rfl, rfl, rfl, by decide +kernel, rfl, by decide +kernel, by decide +kernel⟩
theorem bo_law : BindOk "law" s_law ["_law_script"] := fun _ _ _ _ _ _ us hl => match us, hl with | [_], _ => rfl
end Rd

/-! ## min(xs, key=lambda x: (abs(x), 0 - x)), xs a list of ints -/
namespace Rd
open PySem PySem.Spec L2 PyProof.Rows LamX
/-- the order of the keys (abs(x), 0 - x), as one number -/
def cod (n : Int) : Int := 2 * (n.natAbs : Int) + (if n < 0 then 1 else 0)
theorem cod_lt (n m : Int) : cod n < cod m ↔ (n.natAbs : Int) < m.natAbs ∨ ((n.natAbs : Int) = m.natAbs ∧ 0 - n < 0 - m) := by
  unfold cod
  split <;> split <;> omega
theorem cod_inj {n m : Int} (h : cod n = cod m) : n = m := by
  unfold cod at h
  split at h <;> split at h <;> omega
/-- an address that no frame, no cell and no pin of the context is -/
structure Loose (X : Cx) (pins : List (Addr × Obj)) (b : Addr) : Prop where
  hi : X.s_0.heap.objs.size ≤ b
  nl : b ≠ X.env.locals
  nc : ∀ x c, X.env.cells.lookup x = some c → c ≠ b
  np : ∀ p ∈ X.pn ++ pins, p.1 ≠ b
  nf : b ∉ X.fs
  ns : b ∉ frs X.stack
section
variable {X : Cx} {pins : List (Addr × Obj)} {σ : L2.St} {H : Hp} {s : Shared}
theorem Loose.of (I : Inv X pins σ H s) {b : Addr} (h : s.heap.objs.size ≤ b) : Loose X pins b where
  hi := Nat.le_trans I.sz h
  nl := Nat.ne_of_gt (Nat.lt_of_lt_of_le I.lt h)
  nc := fun x c e z => by
    obtain ⟨v, o, ho, _⟩ := I.cell x c e
    have h1 := Heap.lt_size ho
    rw [z] at h1
    exact Nat.lt_irrefl _ (Nat.lt_of_lt_of_le h1 h)
  np := fun p hp z => by
    have h1 := Heap.lt_size (I.pin p hp).1
    rw [z] at h1
    exact Nat.lt_irrefl _ (Nat.lt_of_lt_of_le h1 h)
  nf := I.nofs h
  ns := fun z => by
    rcases List.mem_cons.mp (I.stkSub _ z) with e | e
    · have h1 := I.lt
      rw [← e] at h1
      exact Nat.lt_irrefl _ (Nat.lt_of_lt_of_le h1 h)
    · exact I.nofs h e
theorem Inv.moved {wr : List Addr} {s' : Shared} (I : Inv X pins σ H s) (hw : ∀ b ∈ wr, Loose X pins b ∧ H b = none) (m : Moved wr (fun a b => b = a) s s') : Inv X pins σ H s' := by
  have nw : ∀ b, (∃ u, H b = some u) → b ∉ wr := fun b ⟨u, e⟩ z => by
    rw [(hw b z).2] at e
    cases e
  have J : Inv X pins σ H { s with heap := s'.heap, gens := s'.gens, drawn := s'.drawn, toks := s'.toks } := by
    refine I.step (ch := wr) (fun b hb => ⟨.inr (hw b hb).1.hi, (hw b hb).1.nl, (hw b hb).1.nc, (hw b hb).1.np⟩) (fun b o _ _ nb e _ => m.heap b o nb e) (fun b o _ _ nb e _ => ⟨o.slots, m.heap b o nb e⟩) (fun b o _ _ e => e)
      (fun b o nb e => ⟨o, m.heap b o nb e⟩) (fun _ _ e => e) (fun _ _ _ e => e) (fun b ps e => ⟨#[], by rw [Array.append_empty]; exact e⟩) (fun mm hn => ?_) (fun b u e => ?_) (by rw [m.gens]; exact I.bare)
    · obtain ⟨ob, es, ep, ho, r⟩ := hn
      exact ⟨ob, es, ep, m.heap _ ob (fun z => (hw _ z).1.nl rfl) ho, r⟩
    · refine (I.hok b u e).stay (fun d v hd q => m.heap d v ?_ q) (fun d q => q) fun d xs q => q
      rcases hd with z | z
      · rw [z]
        exact nw b ⟨u, e⟩
      · exact nw d ⟨_, z⟩
  have e : s' = { s with heap := s'.heap, gens := s'.gens, drawn := s'.drawn, toks := s'.toks } := by
    have := m.os
    cases s'
    cases s
    cases this
    rfl
  rw [e]
  exact J
/-- behind a call, the state itself -/
theorem Inv.behind {s' : Shared} {Q : VK} {u : Value} (I : Inv X pins σ H s) (h : CE X.stack X.prog X.w H s Q u s') : ∃ v H', Inv X pins σ H' s' ∧ Un (frs X.stack) [] H H' s.heap s'.heap ∧ RelV v u ∧ Q v H' := by
  obtain ⟨v, H', os, bare, un, hok, r, q⟩ := h
  obtain ⟨hh, g, d, t, os'⟩ := s'
  obtain rfl : os' = s.os := os
  exact ⟨v, H', I.call (h' := hh) (g' := g) (d' := d) (t' := t) (ch := []) un hok bare (fun b z => absurd z (by simp)), un, r, q⟩
/-- a lambda of one parameter is called -/
theorem lam1_run {P : Program} {w : World} {K : PySem.W.Frag} {mg : Str → Option Value} {base : Heap} {A : Around} {outer : List Env} {H : Hp} {s : Shared} {q a : Str} {f c' : Addr} {pm ctv : Value} {params : Arguments} {body : Expr} {scope : Scope} {k : Nat} {tb : TE} {v : V} {u : Value} {Q : VK}
    (e0 : Env0 P w K mg base A outer s H) (hr : Room (k + 1) A) (S : FnScope [a] [a] scope) (hf : s.heap.get? f = some (PySem.W.kla_obj "<lambda>" q params body scope [] pm c' ctv)) (hc : H c' = some (CodeO c' q))
    (hbind : ∀ u, bindArgs (PySem.W.kla_fn "<lambda>" q params body scope [] pm (.ref c') ctv) ⟨[u], []⟩ = pure [(a, u)])
    (hbody : PE (cxOf L2.CX0 P w K mg base [a] q scope f (.ref c') A outer s H L2.E0) body tb)
    (r : RelV v u) (h : tb [some v] H Q) :
    codeAny (model P w) A (.call (.ref f) ⟨[u], []⟩) (CR L2.CX0 outer P w H s Q L2.E0) s := by
  have lim : s.heap.NoLimit := e0.mod.nolimit.keeps fun b o e => (e0.bs b o e).1
  obtain ⟨⟨oc, vs, t, hoc, hdc, hvc⟩, _, _⟩ := e0.hok c' _ hc
  refine PySem.W.kla_callFunE hr.depth hf rfl S.co S.gen rfl ⟨c', oc, vs, t, rfl, hoc, hdc, hvc⟩ ?_
  rw [hbind]
  refine wpAny_pure ?_
  have hkind : ∀ y ∈ [(a, u)], scope.names.lookup y.1 = some .local ∨ (scope.names.lookup y.1 = some .cell ∧ ((cellsFrom (s.heap.objs.size + 1) scope.names []).lookup y.1).isSome = true) := fun y hy => by
    rw [List.mem_singleton.mp hy]
    rcases S.par a (List.mem_singleton.mpr rfl) with z | z
    · exact .inl z
    · exact .inr ⟨z, PySem.W.cellsFrom_some _ _ _ (.inl z)⟩
  refine wpAny_newFunctionEnv_cells S.kind hkind fun env he s1 x => ?_
  subst he
  refine ⟨lim.keeps x.toInCall.keep, ?_⟩
  have I : Inv (cxOf L2.CX0 P w K mg base [a] q scope f (.ref c') A outer s H L2.E0) [] (L2.start [a] [v]) H s1 := inv_start (us := [u]) S hr.hd e0 rfl (.cons r .nil) x
  refine PySem.W.kla_codeExpr (wpAny_mono (hbody.run [] _ _ H Q I h) (fun v s' hq => ?_) fun e s' hq => hq)
  obtain ⟨w', H', J', rv, q⟩ := hq
  exact ⟨w', H', J'.os, J'.bare, J'.base, J'.hok, rv, q⟩
/-- a list of ints is walked; the list's object may be another at each step -/
theorem walkI {prog : Program} {w : World} {A : Around} (hh : A.handled = none) (I ax : Addr) (hne : ax ≠ I) (ns : List Int) :
    WalksS prog w A I [I, ax] [I] (fun a b => b = a) ns.length (fun i v => ∃ t, v = .int (ns.getD i 0) t) (fun i s => s.heap.IsListIter I ax i ∧ ∃ its : List Value, IntsAre its ns ∧ s.heap.IsList ax its.toArray) where
  sub := fun b hb => by simp at hb; simp [hb]
  grefl := fun _ => rfl
  gtrans := fun _ _ _ h1 h2 => h2.trans h1
  frame := fun i s h' tk st _ hk => ⟨st.1.at fun o e => hk I (by simp) o e, let ⟨its, r, e⟩ := st.2; ⟨its, r, e.at fun o e => hk ax (by simp) o e⟩⟩
  item := fun i s Q E hi st hQ => by
    obtain ⟨its, r, e⟩ := st.2
    have W := (Walks.list (prog := prog) (w := w) hh I ax hne its.toArray).toS
    have hl : its.toArray.size = ns.length := by rw [List.size_toArray]; exact r.length
    refine W.item i s Q E (by omega) ⟨st.1, e⟩ fun v s' hP hst m => ?_
    obtain ⟨t, ht⟩ := r.get i (ns.getD i 0) (by rw [List.getD_eq_getElem?_getD, List.getElem?_eq_getElem hi] <;> rfl)
    refine hQ v s' ⟨t, ?_⟩ ⟨hst.1, its, r, hst.2⟩ m
    have hP' : its[i]? = some v := by simpa using hP
    rw [ht] at hP'
    exact (Option.some.inj hP').symm
  done := fun s Q E st hQ => by
    obtain ⟨its, r, e⟩ := st.2
    have W := (Walks.list (prog := prog) (w := w) hh I ax hne its.toArray).toS
    have hl : its.toArray.size = ns.length := by rw [List.size_toArray]; exact r.length
    refine W.done s Q E ⟨?_, e⟩ hQ
    rw [hl]
    exact st.1
  self := fun i s Q E st hQ => wpAny_pyIter_listiter st.1 hQ
/-- the object of the key of n -/
def KeyOb (o : Obj) (n : Int) : Prop := ∃ t1 t2 c, o.cls = .type "tuple" ∧ o.data = .seq #[.int n.natAbs t1, .int (0 - n) t2] c
theorem keys_lt {A : Around} {s : Shared} {t u : Addr} {ot ou : Obj} {n m : Int} (hu : A.units < cLine) (h1 : s.heap.get? t = some ot) (k1 : KeyOb ot n) (h2 : s.heap.get? u = some ou) (k2 : KeyOb ou m) :
    Ob.RcOp .Lt A s (.ref t) (.ref u) (decide (cod n < cod m)) := by
  obtain ⟨t1, t2, c, hc, hd⟩ := k1
  obtain ⟨u1, u2, c', hc', hd'⟩ := k2
  have beq : ∀ a b : Int, (a == b) = decide (a = b) := fun a b => by
    by_cases q : a = b
    · rw [decide_eq_true q]; exact beq_iff_eq.mpr q
    · rw [decide_eq_false q]; exact beq_eq_false_iff_ne.mpr q
  have R := Ob.RcOp.tuples_lt (A := A) (s := s) (l := t) (b := u) (items := #[.int n.natAbs t1, .int (0 - n) t2]) (items2 := #[.int m.natAbs u1, .int (0 - m) u2])
    (e := fun j => if j = 0 then decide ((n.natAbs : Int) = m.natAbs) else decide (0 - n = 0 - m)) (r := fun j => if j = 0 then decide ((n.natAbs : Int) < m.natAbs) else decide (0 - n < 0 - m)) ⟨ot, h1, hc, c, hd⟩ ⟨ou, h2, hc', c', hd'⟩ hu
    (fun j a b => by
      have hj : j < 2 := a
      match j, hj with
      | 0, _ => rw [if_pos rfl, ← beq]; exact SeqAt.EqAt.int_int _ _ _ _
      | 1, _ => rw [if_neg (by decide), ← beq]; exact SeqAt.EqAt.int_int _ _ _ _)
    (fun j a b _ => by
      have hj : j < 2 := a
      match j, hj with
      | 0, _ => rw [if_pos rfl]; exact Ob.RcOp.lt_int _ _ _ _
      | 1, _ => rw [if_neg (by decide)]; exact Ob.RcOp.lt_int _ _ _ _)
  have e : Ob.lexAt (fun j => if j = 0 then decide ((n.natAbs : Int) = m.natAbs) else decide (0 - n = 0 - m)) (fun j => if j = 0 then decide ((n.natAbs : Int) < m.natAbs) else decide (0 - n < 0 - m)) (decide (2 < 2)) 0 2 = decide (cod n < cod m) := by
    have i := cod_lt n m
    rw [Ob.lexAt_succ, Ob.lexAt_succ, Ob.lexAt_zero]
    simp only [if_true, Nat.zero_add, Nat.succ_ne_zero, if_false, decide_eq_true_eq, Nat.one_ne_zero]
    by_cases a : (n.natAbs : Int) = m.natAbs
    · rw [if_pos a]
      by_cases b : 0 - n = 0 - m
      · rw [if_pos b]
        refine (decide_eq_decide.mpr ?_)
        rw [i]
        omega
      · rw [if_neg b]
        refine (decide_eq_decide.mpr ?_)
        rw [i]
        omega
    · rw [if_neg a]
      refine (decide_eq_decide.mpr ?_)
      rw [i]
      omega
  rw [← e]
  exact R
/-- what the loop of min keeps: the tracked heap has only grown -/
def MkJ (X : Cx) (pins : List (Addr × Obj)) (σ : L2.St) (H : Hp) (l f c' I S : Addr) (q : Str) (fo : Obj) (s : Shared) : Prop := ∃ H', Inv X pins σ H' s ∧ Same H H' ∧ H' I = none ∧ H' S = none ∧ H' f = none ∧ s.heap.get? f = some fo ∧ ∀ b o, H b = none → H' b = some o → ∃ xs, o = .tup xs
/-- f tells the key of the i-th -/
def MkV (X : Cx) (H : Hp) (ns : List Int) (I S : Addr) (i : Nat) (k : Value) (s : Shared) : Prop := ∃ t o, k = .ref t ∧ (H t = none ∧ t ∉ frs X.stack) ∧ t ≠ I ∧ t ≠ S ∧ s.heap.get? t = some o ∧ KeyOb o (ns.getD i 0)
theorem min_key {K : PySem.W.Frag} {k : Nat} {q a : Str} {l f c' : Addr} {pm ctv : Value} {params : Arguments} {body : Expr} {scope : Scope} {ns : List Int} {tb : TE} {Q : VK} (hK : X.K = K) (hcalm : X.calm = true)
    (I : Inv X pins σ H s) (hr : Room (k + 2) X.A) (hl : SqL K H l (ns.map V.int)) (hne : 0 < ns.length) (S : FnScope [a] [a] scope) (hf : s.heap.get? f = some (PySem.W.kla_obj "<lambda>" q params body scope [] pm c' ctv)) (hfn : H f = none) (hfr : f ∉ frs X.stack) (hc : H c' = some (CodeO c' q))
    (hbind : ∀ u, bindArgs (PySem.W.kla_fn "<lambda>" q params body scope [] pm (.ref c') ctv) ⟨[u], []⟩ = pure [(a, u)])
    (hbody : ∀ (A : Around) (outer : List Env) (s : Shared) (H : Hp), PE (cxOf L2.CX0 X.prog X.w X.K X.mg X.base [a] q scope f (.ref c') A outer s H L2.E0) body tb)
    (htb : ∀ (n : Int) (H : Hp) (Q : VK), (∀ t, H t = none → Q (.ref t) (upd H t (.tup [.int n.natAbs, .int (0 - n)]))) → tb [some (.int n)] H Q)
    (h : ∀ m H', m ∈ ns → (∀ y ∈ ns, cod m ≤ cod y) → Same H H' → Q (.int m) H') :
    wpAny (model X.prog X.w) X.A (call (.builtin "min") [.ref l] [(Str.ofString "key", .ref f)]) (EP X pins σ Q) X.xe s := by
  subst hK
  obtain ⟨its, r0, pl, _⟩ := I.list hl
  have hlL : l < s.heap.objs.size := by
    obtain ⟨o, e, _⟩ := pl.isList
    exact Heap.lt_size e
  have hlt : f < s.heap.objs.size := Heap.lt_size hf
  refine call_min_walkK (wpAny_pyIter_list pl.isList ?_)
  have I2 : Inv X pins σ H { s with heap := s.heap.push { cls := .type "list_iterator", data := .fields #[.ref l, .int 0 0] } } := I.kept (t' := s.toks) fun b o e => Heap.get?_push_of_some _ e
  have hsz : (s.heap.push { cls := .type "list_iterator", data := .fields #[.ref l, .int 0 0] }).objs.size = s.heap.objs.size + 1 := Heap.size_push _ _
  have lI : Loose X pins s.heap.objs.size := Loose.of I (Nat.le_refl _)
  have lS : Loose X pins (s.heap.push { cls := .type "list_iterator", data := .fields #[.ref l, .int 0 0] }).objs.size := Loose.of I2 (Nat.le_refl _)
  have nI : H s.heap.objs.size = none := I.hok.fresh (Nat.le_refl _)
  have nS : H (s.heap.push { cls := .type "list_iterator", data := .fields #[.ref l, .int 0 0] }).objs.size = none := I2.hok.fresh (Nat.le_refl _)
  have hIt : (s.heap.push { cls := .type "list_iterator", data := .fields #[.ref l, .int 0 0] }).get? s.heap.objs.size = some { cls := .type "list_iterator", data := .fields #[.ref l, .int 0 0] } := Heap.get?_push_size _ rfl
  have hf2 : (s.heap.push { cls := .type "list_iterator", data := .fields #[.ref l, .int 0 0] }).get? f = some (PySem.W.kla_obj "<lambda>" q params body scope [] pm c' ctv) := Heap.get?_push_of_some _ hf
  have hpl2 : (s.heap.push { cls := .type "list_iterator", data := .fields #[.ref l, .int 0 0] }).IsList l its.toArray := pl.isList.at fun o e => Heap.get?_push_of_some _ e
  generalize hSe : (s.heap.push { cls := .type "list_iterator", data := .fields #[.ref l, .int 0 0] }).objs.size = Sa at lS nS hsz
  have fI : f ≠ s.heap.objs.size := Nat.ne_of_lt hlt
  have fS : f ≠ Sa := by rw [hsz]; exact Nat.ne_of_lt (Nat.lt_succ_of_lt hlt)
  have SI : Sa ≠ s.heap.objs.size := by rw [hsz]; exact Nat.succ_ne_self _
  have lIne : l ≠ s.heap.objs.size := Nat.ne_of_lt hlL
  refine ⟨s.heap.objs.size, [s.heap.objs.size, l], [s.heap.objs.size], fun a b => b = a, ns.length, _, _, MkJ X pins σ H l f c' s.heap.objs.size Sa q (PySem.W.kla_obj "<lambda>" q params body scope [] pm c' ctv), MkV X H ns s.heap.objs.size Sa, fun i j => decide (cod (ns.getD i 0) < cod (ns.getD j 0)), rfl,
    walkI (A := X.A.in1) (I.ok.hd hcalm) s.heap.objs.size l lIne ns, ⟨⟨_, hIt, rfl, rfl⟩, its, Vals.ints r0, hpl2⟩, fun b hb => ?_, hne, ?_, ⟨H, I2, Same.refl _, nI, nS, hfn, hf2, fun b o e1 e2 => by rw [e1] at e2; cases e2⟩, fun v s' hP hJ => ?_⟩
  · show b < Sa
    rw [hsz]
    rcases List.mem_cons.mp hb with e | hb
    · rw [e]
      exact Nat.lt_succ_self _
    · rw [List.mem_singleton.mp hb]
      exact Nat.lt_succ_of_lt hlL
  · refine ⟨fun s1 s2 hJ m => ?_, fun i kx s1 s2 hV m => ?_, fun i v s1 o Q1 E1 hi hP hJ hst hS hQ => ?_, fun i j ki kj s1 Q1 E1 hJ hi hj hQ => ?_⟩
    · obtain ⟨H', I', sm, n1, n2, n3, e, tp⟩ := hJ
      refine ⟨H', Inv.moved I' (fun b hb => ?_) m, sm, n1, n2, n3, m.heap f _ (fun z => ?_) e, tp⟩
      · rcases List.mem_cons.mp hb with e | hb
        · rw [e]
          exact ⟨lS, n2⟩
        · rw [List.mem_singleton.mp hb]
          exact ⟨lI, n1⟩
      · rcases List.mem_cons.mp z with z | z
        · exact fS z
        · exact fI (List.mem_singleton.mp z)
    · obtain ⟨t, o, e, n0, n1, n2, ht, ko⟩ := hV
      refine ⟨t, o, e, n0, n1, n2, m.heap t o (fun z => ?_) ht, ko⟩
      rcases List.mem_cons.mp z with z | z
      · exact n2 z
      · exact n1 (List.mem_singleton.mp z)
    · obtain ⟨H', I', sm, n1, n2, n3, e, tp⟩ := hJ
      obtain ⟨tt, ev⟩ := hP
      have ev : v = .int (ns.getD i 0) tt := ev
      subst ev
      have hx := lam1_run (tb := tb) (v := .int (ns.getD i 0)) (u := .int (ns.getD i 0) tt) (Q := fun v H'' => ∃ t, v = .ref t ∧ H' t = none ∧ H'' t = some (.tup [.int (ns.getD i 0).natAbs, .int (0 - ns.getD i 0)]) ∧ Same H' H'' ∧ ∀ b o, H' b = none → H'' b = some o → ∃ xs, o = .tup xs)
        I'.env0.in1 (show Room (k + 1) X.A.in1 from hr.in1) S e (sm _ _ hc) hbind (hbody _ _ _ _) ⟨tt, rfl⟩ (htb _ _ _ fun t nt => ⟨t, rfl, nt, upd_same, same_new nt, fun b o e1 e2 => by
          by_cases z : b = t
          · rw [z, upd_same] at e2
            exact ⟨_, (Option.some.inj e2).symm⟩
          · rw [upd_ne z, e1] at e2
            cases e2⟩)
      refine wpAny_call (codeAny_mono hx fun r s2 hq => ?_)
      cases r with
      | error e => exact (show False from hq).elim
      | ok fl =>
        cases fl with
        | next => exact False.elim hq
        | brk => exact False.elim hq
        | cont => exact False.elim hq
        | ret u =>
          obtain ⟨v2, H2, I2', un, rv, t, rfl, nt, ht, sm2, tp2⟩ := Inv.behind I' hq
          obtain rfl : u = Value.ref t := rv
          obtain ⟨ob, hot, hct, ⟨c2, hdt⟩⟩ : ∃ ob, s2.heap.get? t = some ob ∧ ob.cls = .type "tuple" ∧ ∃ c, ∃ t1 t2, ob.data = .seq #[.int (ns.getD i 0).natAbs t1, .int (0 - ns.getD i 0) t2] c := by
            obtain ⟨its2, rv2, ⟨ob, h1, h2, c, h3⟩, _⟩ := I2'.tuple (xs := [.int (ns.getD i 0).natAbs, .int (0 - ns.getD i 0)]) (SqT.of ht)
            cases rv2 with
            | cons ra rr =>
              cases rr with
              | cons rb rr =>
                cases rr
                obtain ⟨t1, rfl⟩ := ra
                obtain ⟨t2, rfl⟩ := rb
                exact ⟨ob, h1, h2, c, t1, t2, h3⟩
          obtain ⟨t1, t2, hdt⟩ := hdt
          have keepI : ∀ {b ob}, s1.heap.get? b = some ob → H' b = none → b ∉ frs X.stack → s2.heap.get? b = some ob := fun e1 e2 e3 => un.keep _ _ e1 e2 e3 (by simp)
          obtain ⟨⟨oI, eI, cI, dI⟩, _⟩ := hst
          obtain ⟨its2, rv2, pl2, _⟩ := I2'.list ((sm.trans sm2).seq hl)
          have nI2 : H2 s.heap.objs.size = none := un.free _ _ eI n1 (by simp)
          have nS2 : H2 Sa = none := un.free _ _ hS n2 (by simp)
          refine hQ _ _ ⟨H2, I2', sm.trans sm2, nI2, nS2, un.free _ _ e n3 (by simp), keepI e n3 hfr, fun b o e1 e2 => ?_⟩ ⟨⟨oI, keepI eI n1 lI.ns, cI, dI⟩, its2, Vals.ints rv2, pl2.isList⟩ (keepI hS n2 lS.ns) ⟨t, ob, rfl, ⟨Same.free sm nt, fun z => ?_⟩, fun z => ?_, fun z => ?_, hot, t1, t2, c2, hct, hdt⟩ fun j kj hV => ?_
          · cases q : H' b with
            | none => exact tp2 b o q e2
            | some o' =>
              have e3 := sm2 _ _ q
              rw [e2] at e3
              cases e3
              exact tp b o e1 q
          · have e3 := I2'.stkFree t z
            rw [e3] at ht
            cases ht
          · rw [z, nI2] at ht
            cases ht
          · rw [z, nS2] at ht
            cases ht
          · obtain ⟨tj, oj, ej, ⟨m0, m00⟩, m1, m2, htj, kj⟩ := hV
            cases q : H' tj with
            | none => exact ⟨tj, oj, ej, ⟨m0, m00⟩, m1, m2, keepI htj q m00, kj⟩
            | some o' =>
              obtain ⟨xs, rfl⟩ := tp tj o' m0 q
              obtain ⟨its1, ra1, ⟨ob1, g1, g2, g3, g4⟩, _⟩ := I'.tuple (SqT.of q)
              rw [htj] at g1
              cases g1
              obtain ⟨u1, u2, c3, k1, k2⟩ := kj
              rw [k2] at g4
              obtain ⟨its3, ra3, ⟨ob3, f1, f2, f3, f4⟩, _⟩ := I2'.tuple (SqT.of (un.tups _ _ q))
              have ei : its1 = [.int (ns.getD j 0).natAbs u1, .int (0 - ns.getD j 0) u2] := by
                have z := congrArg (fun d => match d with | Data.seq a _ => a.toList | _ => []) g4
                simpa using z.symm
              subst ei
              cases ra1 with
              | cons ra rr =>
                cases rr with
                | cons rb rr =>
                  cases rr
                  obtain rfl := ra.inj (y := .int (ns.getD j 0).natAbs) ⟨u1, rfl⟩
                  obtain rfl := rb.inj (y := .int (0 - ns.getD j 0)) ⟨u2, rfl⟩
                  cases ra3 with
                  | cons rc rr =>
                    cases rr with
                    | cons rd rr =>
                      cases rr
                      obtain ⟨w1, rfl⟩ := rc
                      obtain ⟨w2, rfl⟩ := rd
                      exact ⟨tj, ob3, ej, ⟨m0, m00⟩, m1, m2, f1, w1, w2, f3, f2, f4⟩
    · obtain ⟨t, o, rfl, _, _, _, ht, ko⟩ := hi
      obtain ⟨u, o2, rfl, _, _, _, hu, ko2⟩ := hj
      exact keys_lt (A := X.A.in1) (hr.in1.units0) ht ko hu ko2 _ _ _ _ hQ
  · obtain ⟨H', I', sm, _⟩ := hJ
    obtain ⟨b1, b2⟩ := argBest_lt (fun i => cod (ns.getD i 0)) (ns.length - 1)
    obtain ⟨t, ht⟩ := hP
    have ht : v = .int (ns.getD (argBest (fun i j => decide (cod (ns.getD i 0) < cod (ns.getD j 0))) (ns.length - 1)) 0) t := ht
    rw [ht]
    refine ⟨.int _, H', I', ⟨t, rfl⟩, h _ _ ?_ (fun y hy => ?_) sm⟩
    · have hb : argBest (fun i j => decide (cod (ns.getD i 0) < cod (ns.getD j 0))) (ns.length - 1) < ns.length := by omega
      rw [List.getD_eq_getElem?_getD, List.getElem?_eq_getElem hb]
      exact List.getElem_mem hb
    · obtain ⟨i, hi, e⟩ := List.mem_iff_getElem.mp hy
      have e2 : ns.getD i 0 = y := by rw [List.getD_eq_getElem?_getD, List.getElem?_eq_getElem hi, ← e] <;> rfl
      rw [← e2]
      exact b2 i (by omega)
end
theorem ExtN.sq {K : PySem.W.Frag} {H H' : Hp} {a : Addr} {xs : List V} (e : ExtN H H') (h : SqL K H a xs) : SqL K H' a xs := by
  rcases h with (h | ⟨o, h⟩) | h
  · exact .inl (.inl (e _ _ h fun ps z => nomatch z))
  · exact .inl (.inr ⟨o, e _ _ h fun ps z => nomatch z⟩)
  · exact .inr h
def rMinKey (K : PySem.W.Frag) (T : List (Addr × Str)) (vs : List V) (H1 : Hp) (Q : VK) : Prop := ∃ (l : Addr) (ns : List Int), vs = [.ref l] ∧ SqL K H1 l (ns.map V.int) ∧ 0 < ns.length ∧ Tabs T H1 ∧
  ∀ m H', m ∈ ns → (∀ y ∈ ns, cod m ≤ cod y) → ExtN H1 H' → Tabs T H' → Q (.int m) H'
def tMinKey (K : PySem.W.Frag) (T : List (Addr × Str)) (te : TE) : TE := fun σ H Q => tCons te tNil σ H fun vs H1 => rMinKey K T vs H1 Q
theorem r_minKey {K : PySem.W.Frag} {T : List (Addr × Str)} {te : TE} {σ : L2.St} {H : Hp} {Q : VK} (k : te σ H fun x H1 => rMinKey K T [x] H1 Q) : tMinKey K T te σ H Q := k
theorem pe_minKey {X : Cx} {K : PySem.W.Frag} {T : List (Addr × Str)} {te tb : TE} {e body : Expr} {params : Arguments} {scope : Scope} {a : Str} {k : Nat} {c P : Addr} {p pos lpos kpos : Pos} (hK : X.K = K) (hg : Gl X "min") (hm : X.mg "min" = none) (he : PE X e te)
    (TB : TabB X.base X.mg c P) (hcode : X.env.code = .ref c) (hmT : (P, X.env.qual ++ "<lambda>") ∈ T) (hu : ∀ p ∈ T, p.1 = P → p.2 = X.env.qual ++ "<lambda>") (hr : Room (k + 2) X.A) (S : FnScope [a] [a] scope) (hclo : cloFrom X.env.cells scope.names [] = [])
    (hdef : defaultsOf params X.env = ([], [])) (hbind : ∀ (q : Str) (pm cv ctv u : Value), bindArgs (PySem.W.kla_fn "<lambda>" q params body scope [] pm cv ctv) ⟨[u], []⟩ = pure [(a, u)])
    (hbody : ∀ (f : Addr) (cd : Value) (A : Around) (outer : List Env) (s : Shared) (H : Hp), PE (cxOf L2.CX0 X.prog X.w X.K X.mg X.base [a] (X.env.qual ++ "<lambda>") scope f cd A outer s H L2.E0) body tb)
    (htb : ∀ (n : Int) (H : Hp) (Q : VK), (∀ t, H t = none → Q (.ref t) (upd H t (.tup [.int n.natAbs, .int (0 - n)]))) → tb [some (.int n)] H Q)
    (hcalm : X.calm = true := by rfl) (na : starEach [e] X.env = (false, eval e X.env) :: starEach [] X.env := by rfl)
    (hs : backTo pos (starEach [e] X.env) = (false, eval e X.env) :: backTo pos (starEach [] X.env) := by rfl) (hpl : (backTo pos (starEach [e] X.env)).any (·.1) = false := by rfl) :
    PE X (.Call (.Name "min" p) [e] [⟨some "key", .Lambda params body scope lpos, kpos⟩] pos) (tMinKey K T te) := by
  subst hK
  refine ⟨fun pins s σ H Q I h => ?_⟩
  have hfree : ∀ y ∈ scope.names, y.2 = .free → ∃ c, X.env.cells.lookup y.1 = some c := fun y hy z => absurd z (S.nofree y hy)
  refine wpAny_Call_Name_kw (ld_blt (u := .builtin "min") I hg hm (by decide +kernel) ?_)
  refine PyProof.Rows.callWith_kw (thn ((pa_cons he pa_nil na).run pos pins s σ H _ I h) fun us s1 ⟨vs, H1, I1, r1, q1⟩ => ?_) hs hpl (by rfl) (by rfl)
  obtain ⟨l, ns, rfl, hl, hne, hT, q1⟩ := q1
  rw [Vals.ref1 r1]
  show wpAny _ _ (evalAll [(do let v ← eval (.Lambda params body scope lpos) X.env; standAt pos; pure v)]) _ _ s1
  refine wpAny_evalAll_cons (wpAny_bind (lam_make2 I1 TB hcode hmT hu hT hdef hfree fun f c' pm ctv H2 s2 I2 eN T2 hf hfn hfr hco => wpAny_bind (wpAny_standAt (wpAny_pure (wpAny_evalAll_nil ?_)))))
  rw [hclo] at hf
  show wpAny _ _ (call (.builtin "min") [.ref l] [(Str.ofString "key", .ref f)]) _ _ s2
  exact min_key rfl hcalm I2 hr (ExtN.sq eN hl) hne S hf hfn hfr hco (fun u => hbind _ _ _ _ u) (fun A outer s H => hbody f (.ref c') A outer s H) htb fun m H' m1 m2 sm => q1 m H' m1 m2 (eN.trans (ExtN.of sm)) (T2.ext sm)
end Rd

/-! ## defs with a table of code objects, and the end of a law with such tables -/
namespace Rd
open PySem PySem.Spec L2 PyProof.Rows LamX
/-- the def st stands at the name x; c is its code object, P that one's table -/
structure FunTab (K : PySem.W.Frag) (mg : Str → Option Value) (x : Str) (st : Stmt) (c P : Addr) : Prop where
  ex : ∃ (f : Addr) (oc : Value) (od an : Option Addr) (kV doc pm ct : Value) (osl : Array (Option Value)),
    K.lookup f = some ⟨oc, od, .func (PySem.W.fnOf x x (defArgs st) (defBody st) (defScope st) .none kV doc pm an (.ref c) ct), osl⟩ ∧ PySem.W.codeIn K (.ref c) x = true ∧ PySem.W.keepIn K (.ref f) = true ∧ mg x = some (.ref f)
section
variable {P : Program} {w : World} {K : PySem.W.Frag} {mg : Str → Option Value} {base : Heap}
theorem FunTab.ok {x : Str} {st : Stmt} {N ps : List Str} {k : Nat} {sp : Sp} {c Pt : Addr} (F : FunTab K mg x st c Pt) (S : FnScope N ps (defScope st)) (bo : BindOk x st ps) (len : ∀ vs H Q E, sp vs H Q E → vs.length = ps.length)
    (hbody : ∀ (f : Addr) (A : Around) (outer : List Env) (s : Shared) (H : Hp) (vs : List V) (Q : VK) (E : XK), Room k (A.deeper (envOfC x (defScope st) s.heap.objs.size f (.ref c))) → sp vs H Q E →
      ∃ t, PSs (cxOf L2.CX0 P w K mg base N x (defScope st) f (.ref c) A outer s H E).nox (defBody st) t ∧ t { nx := fun _ H' => Q .non H', rt := Q } (L2.start N vs) H) : Has P w K mg base L2.CX0 (k + 1) x sp := by
  obtain ⟨f, oc, od, an, kV, doc, pm, ct, osl, lk, hcd, kp, hm⟩ := F.ex
  refine ⟨f, _, ps, fn_of lk hcd S len fun A outer s H vs Q E hr hsp => ?_, hm, kp, Binds.all (bo kV doc pm an (.ref c) ct)⟩
  obtain ⟨t, h, q⟩ := hbody f A outer s H vs Q E hr hsp
  exact ⟨t, h.nox, q⟩
theorem tab_code {K : PySem.W.Frag} {x : Str} {f c Pt : Addr} {oc : Value} {od : Option Addr} {fd : FuncData} {osl : Array (Option Value)} (a : PySem.W.nsIn K mainGlobals x = some (some (.ref f))) (l : K.lookup f = some ⟨oc, od, .func fd, osl⟩) (t : PySem.W.tabIn K x = some (c, Pt)) : fd.code = .ref c := by
  unfold PySem.W.tabIn at t
  rw [a] at t
  dsimp only at t
  rw [l] at t
  dsimp only at t
  split at t
  · rename_i c' hc
    split at t
    · split at t
      · have z := Option.some.inj t
        have z1 : c' = c := congrArg Prod.fst z
        rw [hc, z1]
      · cases t
    · cases t
  · cases t
theorem FunTab.mk' {x : Str} {st : Stmt} {h : Heap} {c Pt : Addr} (X : K.In h) (G : h.Ns mainGlobals mg) {f : Addr} {oc : Value} {od an : Option Addr} {osl : Array (Option Value)} {kV doc pm cdv ct : Value}
    (a : PySem.W.nsIn K mainGlobals x = some (some (.ref f)))
    (l : K.lookup f = some ⟨oc, od, .func (PySem.W.fnOf x x (defArgs st) (defBody st) (defScope st) .none kV doc pm an cdv ct), osl⟩)
    (cc : PySem.W.codeIn K cdv x = true) (k : PySem.W.keepIn K (.ref f) = true) (t : PySem.W.tabIn K x = some (c, Pt)) : FunTab K mg x st c Pt := by
  have e : cdv = .ref c := tab_code a l t
  subst e
  exact ⟨f, oc, od, an, kV, doc, pm, ct, osl, l, cc, k, PySem.W.mg_of X G a⟩
end
/-- what the end knows of the tables of the defs named xs -/
def TabsAt (q : Program) (K : PySem.W.Frag) (h : Heap) : Prop := ∀ (x : Str) (c P : Addr), ((recsOf q).any fun e => e.name == x) = true → PySem.W.tabIn K x = some (c, P) → PySem.W.CodeHd h c P ∧ h.get? P = some { cls := .none, data := .fields #[] }
theorem walk_tabs {l : PySem.W.OpenLaw} {n k : Nat} {q : Program} {loose : List Str} {XP : (Str → Option Value) → Heap → Prop} {YP : World → Heap → Prop} {d : DefRec} {K : Params → PySem.W.Frag} {CX : World → CXT} {x : Str}
    (hn : l.most = some n) (hn2 : n ≤ sizeLine) (hdf : d.params.defaults = []) (hr : Room k callerA) (hY : ∀ (w : World) (h : Heap), YP w h → (K w.params).In h)
    (F : ∀ (w : World) (mg : Str → Option Value) (fa : Addr) (h : Heap), YP w h → (K w.params).In h → h.Ns mainGlobals mg → mg d.name = some (.ref fa) → TabsAt q (K w.params) h → LawAtS l w (K w.params) (CX w) k n x mg fa h)
    (hCX : ∀ (w : World) (H : Hp) (s : Shared) (e : Value) (s' : Shared), CX w [] H s (fun _ _ _ => False) e s' → False) :
    PySem.W.WalkO q loose XP YP l.row.toRowW d [] (fun f vs => PySem.call f vs) := by
  refine Att.attach_callB hn hdf fun w s₀ s₁ mg mb fa o pm cd doc a vs ns G Y ho hd hcd hmg hobj hints hlen hbits hg => ?_
  have KX := hY w _ Y
  have tabs : TabsAt q (K w.params) s₁.heap := fun x c P hrec ht => by
    have hs : ((recsOf q).find? fun e => e.name == x).isSome = true := by rw [List.find?_isSome]; simpa using hrec
    obtain ⟨d', hd'⟩ := Option.isSome_iff_exists.mp hs
    exact PySem.W.tab_of G.T KX hd' ht
  obtain ⟨fd, cs, sp, hT, nT, C, hb, hsp, hF⟩ := F w mg fa _ Y KX G.T.g hmg tabs
  exact law_callTs KX G.T.g G.T.b G.T.builtins G.T.nolimit hg hT nT C G.T.bmain hobj hints (Nat.le_trans hlen hn2) hr hF hb (fun H hH hS => hsp H a ns hlen hbits hH hS) fun H e s' => hCX w H s₁ e s'
/-- the script's list and the tables at the law's start -/
def spLawT (K : PySem.W.Frag) (T : List (Addr × Str)) : Sp := fun vs H Q _ => ∃ (a : Addr) (ns : List Int), vs = [.ref a] ∧ SqL K H a (ns.map V.int) ∧ ns.length ≤ 63 ∧ Tabs T H ∧ ∀ H', Q (.bl true) H'
end Rd

namespace Rd
open PySem L2
section
variable {P : Program} {w : World} {K : PySem.W.Frag} {mg : Str → Option Value} {base : Heap}
def spStart (K : PySem.W.Frag) : Sp := fun vs H Q _ => ∃ (a : Addr) (ns : List Int), vs = [.ref a] ∧ SqL K H a (ns.map V.int) ∧ ∀ st H', H st = none → Same H H' → St H' st a → Q (.ref st) H'
theorem spStart_i {a : Addr} {ns : List Int} {H : Hp} {Q : VK} {E : XK} (hS : SqL K H a (ns.map V.int)) (k : ∀ st H', H st = none → Same H H' → St H' st a → Q (.ref st) H') : spStart K [.ref a] H Q E := ⟨a, ns, rfl, hS, k⟩
def spLaw (K : PySem.W.Frag) : Sp := fun vs H Q _ => ∃ (a : Addr) (ns : List Int), vs = [.ref a] ∧ SqL K H a (ns.map V.int) ∧ ns.length ≤ 63 ∧ ∀ H', Q (.bl true) H'
theorem ok_law_start (F : FunAt K mg "_law_start" s_law_start) : Has P w K mg base CX0 1 "_law_start" (spStart K) := by
  refine F.ok sc_law_start bo_law_start (fun vs H Q E h => ?_) (fun f cdv A outer s H vs Q E hr h => ?_)
  · obtain ⟨a, ns, rfl, _⟩ := h
    rfl
  · obtain ⟨a, ns, rfl, hS, k⟩ := h
    refine ⟨_, (pss_cons (ps_set (i := 1) sc_law_start.nd rfl (by first | exact Or.inl rfl | exact Or.inr rfl) pe_int)
 (pss_cons (ps_for PassesOwn.never rfl (kpi_list (K := K) rfl (pv 0)) (pg_name (i := 2) sc_law_start.nd rfl (by first | exact Or.inl rfl | exact Or.inr rfl)) (pss_one (ps_set (i := 1) sc_law_start.nd rfl (by first | exact Or.inl rfl | exact Or.inr rfl) (pe_op op_mod (pe_op (kop_add (K := K) rfl) (pe_op (kop_add (K := K) rfl) (pe_op op_mul (pv 1) pe_int) (pv 2)) pe_int) pe_int))))
 (pss_one (ps_ret (pe_lst (pa_cons (pv 0) (pa_cons pe_int (pa_cons (pv 1) (pa_cons pe_int pa_nil))))))))), ?_⟩
    refine r_start (σ' := [some (.ref a), none, none]) rfl ?_
    walk_at "go"
    refine ⟨_, rfl, ⟨_, hS⟩, fw_list (K := K) (a := a) (xs := ns.map V.int) (fun i σ H2 => H2 = H ∧ ∃ m v, σ = [some (.ref a), some (.int m), v] ∧ 0 ≤ m ∧ m < 2147483647) ⟨rfl, 1, none, rfl, by decide, by decide⟩ (fun i σ H2 _ h => h.1 ▸ hS) ?_ ?_⟩
    · rintro i y σ H2 hi ⟨rfl, m, v, rfl, h0, h1⟩
      obtain ⟨z, hz, rfl⟩ := map_at hi
      walk_at "go"
      refine r_I (.inl ⟨by omega, by omega⟩) ?_
      walk_at "go"
      refine r_I (by decide) ?_
      walk_at "go"
      exact ⟨rfl, _, _, rfl, Int.emod_nonneg _ (by decide), Int.emod_lt_of_pos _ (by decide)⟩
    · rintro σ H2 ⟨rfl, m, v, rfl, h0, h1⟩
      walk_at "go"
      intro p np
      walk_at "go"
      exact k p _ np (same_new np) ⟨_, _, _, upd_same, by omega, h0, h1, by omega⟩
def spDrawn (K : PySem.W.Frag) : Sp := fun vs H Q _ => ∃ (st a : Addr) (ns : List Int) (many : Int), vs = [.ref st, .int many] ∧ St H st a ∧ SqL K H a (ns.map V.int) ∧ 0 < many ∧ many.natAbs < 2 ^ 200 ∧
  ∀ (v : Int) (H' : Hp), 0 ≤ v → v < many → St H' st a → Fr H H' → Q (.int v) H'
theorem spDrawn_i {st a : Addr} {ns : List Int} {many : Int} {H : Hp} {Q : VK} {E : XK} (s : St H st a) (hS : SqL K H a (ns.map V.int)) (h0 : 0 < many) (h1 : many.natAbs < 2 ^ 200)
    (k : ∀ (v : Int) (H' : Hp), 0 ≤ v → v < many → St H' st a → Fr H H' → Q (.int v) H') : spDrawn K [.ref st, .int many] H Q E := ⟨st, a, ns, many, rfl, s, hS, h0, h1, k⟩
theorem ok_law_drawn (B : Bl mg) (F : FunAt K mg "_law_drawn" s_law_drawn) : Has P w K mg base CX0 1 "_law_drawn" (spDrawn K) := by
  refine F.ok sc_law_drawn bo_law_drawn (fun vs H Q E h => ?_) (fun f cdv A outer s H vs Q E hr h => ?_)
  · obtain ⟨st, a, ns, many, rfl, _⟩ := h
    rfl
  · obtain ⟨st, a, ns, many, rfl, hs, hS, h0, h1, k⟩ := h
    obtain ⟨i, m, r, hst, hi, hm0, hm1, hr0⟩ := hs.ex
    have wd : CDivW 0 many := wide_div h0 h1 (by decide) (by decide)
    refine ⟨_, (pss_cons (ps_if (pt_cmpR op_gt (pe_ix (kix (K := K) rfl) (pv 0) pe_int (fun _ _ => rfl)) pe_int (nomark _)) (pss_cons (ps_set (i := 2) sc_law_drawn.nd rfl (by first | exact Or.inl rfl | exact Or.inr rfl) (pe_op op_mod (pe_ix (kix (K := K) rfl) (pv 0) pe_int (fun _ _ => rfl)) (pv 1)))
 (pss_cons (ps_asg (pe_op op_fdivW (pe_ix (kix (K := K) rfl) (pv 0) pe_int (fun _ _ => rfl)) (pv 1)) (pg_sub (pv 0) pe_int set_list))
 (pss_one (ps_ret (pv 2))))) pss_nil)
 (pss_cons (ps_asg (pe_op (kop_add (K := K) rfl) (pe_ix (kix (K := K) rfl) (pv 0) pe_int (fun _ _ => rfl)) pe_int) (pg_sub (pv 0) pe_int set_list))
 (pss_cons (ps_if (pt_cmpR op_le (pe_ix (kix (K := K) rfl) (pv 0) pe_int (fun _ _ => rfl)) (pe_callB (kc_len (K := K) rfl) rfl B.len (by decide +kernel) (pa_cons (pe_ix (kix (K := K) rfl) (pv 0) pe_int (fun _ _ => rfl)) pa_nil)) (nomark _)) (pss_cons (ps_set (i := 3) sc_law_drawn.nd rfl (by first | exact Or.inl rfl | exact Or.inr rfl) (pe_ix (kix (K := K) rfl) (pe_ix (kix (K := K) rfl) (pv 0) pe_int (fun _ _ => rfl)) (pe_op op_sub (pe_ix (kix (K := K) rfl) (pv 0) pe_int (fun _ _ => rfl)) pe_int) (fun _ _ => rfl)))
 (pss_cons (ps_asg (pe_ifExp (pt_cmpR op_ge (pv 3) (pe_op op_pow pe_int pe_int) (nomark _)) (pe_op op_fdivW (pv 3) (pv 1)) pe_int) (pg_sub (pv 0) pe_int set_list))
 (pss_one (ps_ret (pe_op op_mod (pv 3) (pv 1)))))) pss_nil)
 (pss_cons (ps_asg (pe_op op_mod (pe_op (kop_add (K := K) rfl) (pe_op op_mul (pe_ix (kix (K := K) rfl) (pv 0) pe_int (fun _ _ => rfl)) pe_int) pe_int) pe_int) (pg_sub (pv 0) pe_int set_list))
 (pss_one (ps_ret (pe_op op_mod (pe_op op_fdivW (pe_ix (kix (K := K) rfl) (pv 0) pe_int (fun _ _ => rfl)) pe_int) (pv 1)))))))), ?_⟩
    refine r_start (σ' := [some (.ref st), some (.int many), none, none]) rfl ?_
    have wr : ∀ {H1 H2 : Hp} {i m r : Int}, H1 st = some (.lst [.ref a, .int i, .int m, .int r]) → (∀ b o, b ≠ st → H1 b = some o → H2 b = some o) → Fr H1 H2 := fun e w b o q n => w b o (fun z => by subst z; rw [e] at q; cases q; exact n _ _ _ _ rfl) q
    walk_at "go"
    refine iteD (fun hp => ?_) (fun hp => ?_)
    · walk_at "go"
      refine r_I h0 ?_
      walk_at "go"
      refine r_I (show CDivW r many from wd) ?_
      walk_at "go"
      refine r_setA (j := 3) hst rfl rfl fun H1 e1 w1 => ?_
      walk_at "go"
      exact k _ _ (Int.emod_nonneg _ (by omega)) (Int.emod_lt_of_pos _ h0) ⟨_, _, _, e1, hi, hm0, hm1, Int.ediv_nonneg hr0 (by omega)⟩ (wr hst w1)
    · walk_at "go"
      refine r_setA (j := 1) hst rfl rfl fun H1 hst1 w1 => ?_
      have R1 := wr hst w1
      have hS1 := fr_sq R1 hS
      walk_at "go"
      rw [List.length_map]
      refine iteD (fun hl => ?_) (fun hl => ?_)
      · walk_at "go"
        have hlt : i.toNat < ns.length := by omega
        refine r_ix (.inl hS1) (at_of (j := i.toNat) (by omega) (by rw [List.getElem?_map, List.getElem?_eq_getElem hlt]; rfl)) ?_
        walk_at "go"
        have fin : ∀ (r' : Int) (H2 : Hp), 0 ≤ r' → H2 st = some (.lst [.ref a, .int (i + 1), .int m, .int r']) → (∀ b o, b ≠ st → H1 b = some o → H2 b = some o) → Q (.int (ns[i.toNat] % many)) H2 := fun r' H2 hr' e2 w2 =>
          k _ _ (Int.emod_nonneg _ (by omega)) (Int.emod_lt_of_pos _ h0) ⟨_, _, _, e2, by omega, hm0, hm1, hr'⟩ (R1.trans (wr hst1 w2))
        refine iteD (fun hc => ?_) (fun hc => ?_)
        · walk_at "go"
          refine r_I (show CDivW _ many from wd) ?_
          walk_at "go"
          refine r_setA (j := 3) hst1 rfl rfl fun H2 e2 w2 => ?_
          walk_at "go"
          refine r_I h0 ?_
          walk_at "go"
          refine fin _ H2 (Int.ediv_nonneg ?_ (by omega)) e2 w2
          have : (0 : Int) ≤ 10 ^ (18 : Int).toNat := by decide
          omega
        · walk_at "go"
          refine r_setA (j := 3) hst1 rfl rfl fun H2 e2 w2 => ?_
          walk_at "go"
          refine r_I h0 ?_
          walk_at "go"
          exact fin 0 H2 (by omega) e2 w2
      · walk_at "go"
        refine r_I (.inl ⟨by omega, by omega⟩) ?_
        walk_at "go"
        refine r_I (by decide) ?_
        walk_at "go"
        refine r_setA (j := 2) hst1 rfl rfl fun H2 e2 w2 => ?_
        walk_at "go"
        refine r_I ⟨by decide, by decide +kernel⟩ ?_
        walk_at "go"
        refine r_I h0 ?_
        walk_at "go"
        exact k _ _ (Int.emod_nonneg _ (by omega)) (Int.emod_lt_of_pos _ h0) ⟨_, _, _, e2, by omega, Int.emod_nonneg _ (by decide), Int.emod_lt_of_pos _ (by decide), hr0⟩ (R1.trans (wr hst1 w2))
end
end Rd

namespace Rd
open PySem L2
section
variable {P : Program} {w : World} {K : PySem.W.Frag} {mg : Str → Option Value} {base : Heap}
theorem e6 : (10 : Int) ^ (6 : Int).toNat = 1000000 := by decide
theorem e29 : (10 : Int) ^ (29 : Int).toNat = 100000000000000000000000000000 := by decide
theorem small200 {m : Int} (h0 : 0 ≤ m) (h1 : m ≤ 1000000000000000000000000000000) : m.natAbs < 2 ^ 200 := by omega
def spGear (K : PySem.W.Frag) : Sp := fun vs H Q _ => ∃ (st a : Addr) (ns : List Int) (b : Bool), vs = [.ref st, .bl b] ∧ St H st a ∧ SqL K H a (ns.map V.int) ∧
  ∀ (g : Addr) (r p : Int) (H' : Hp), 2 ≤ r → r ≤ 1000000 → 0 ≤ p → p ≤ 1000000 → (b = true → r ≤ 8 ∧ p ≤ 4) → St H' st a → Fr H H' → H' g = some (.tup [.int r, .int p]) → Q (.ref g) H'
theorem spGear_i {st a : Addr} {ns : List Int} {b : Bool} {H : Hp} {Q : VK} {E : XK} (s : St H st a) (hS : SqL K H a (ns.map V.int))
    (k : ∀ (g : Addr) (r p : Int) (H' : Hp), 2 ≤ r → r ≤ 1000000 → 0 ≤ p → p ≤ 1000000 → (b = true → r ≤ 8 ∧ p ≤ 4) → St H' st a → Fr H H' → H' g = some (.tup [.int r, .int p]) → Q (.ref g) H') : spGear K [.ref st, .bl b] H Q E := ⟨st, a, ns, b, rfl, s, hS, k⟩
theorem ok_law_gear (B : Bl mg) (F : FunAt K mg "_law_gear" s_law_gear) (H_law_drawn : Has P w K mg base CX0 1 "_law_drawn" (spDrawn K)) : Has P w K mg base CX0 2 "_law_gear" (spGear K) := by
  refine F.ok sc_law_gear bo_law_gear (fun vs H Q E h => ?_) (fun f cdv A outer s H vs Q E hr h => ?_)
  · obtain ⟨st, a, ns, b, rfl, _⟩ := h
    rfl
  · obtain ⟨st, a, ns, b, rfl, hs, hS, k⟩ := h
    refine ⟨_, (pss_cons (ps_set (i := 2) sc_law_gear.nd rfl (by first | exact Or.inl rfl | exact Or.inr rfl) (pe_ix (kix (K := K) rfl) (pe_lst (pa_cons pe_int (pa_cons pe_int pa_nil))) (pe_callTy call_intA rfl B.int (by decide +kernel) (pa_cons (pv 1) pa_nil)) (fun _ _ => rfl)))
 (pss_cons (ps_set (i := 3) sc_law_gear.nd rfl (by first | exact Or.inl rfl | exact Or.inr rfl) (pe_op (kop_add (K := K) rfl) pe_int (pe_has H_law_drawn hr (by omega) rfl pass0 (pa_cons (pv 0) (pa_cons (pe_ix (kix (K := K) rfl) (pe_lst (pa_cons pe_int (pa_cons pe_int (pa_cons pe_int (pa_cons (pe_op op_sub (pe_op op_pow pe_int pe_int) pe_int) pa_nil))))) (pe_has H_law_drawn hr (by omega) rfl pass0 (pa_cons (pv 0) (pa_cons (pv 2) pa_nil))) (fun _ _ => rfl)) pa_nil)))))
 (pss_cons (ps_set (i := 4) sc_law_gear.nd rfl (by first | exact Or.inl rfl | exact Or.inr rfl) (pe_lst (pa_cons pe_int (pa_cons (pe_has H_law_drawn hr (by omega) rfl pass0 (pa_cons (pv 0) (pa_cons pe_int pa_nil))) (pa_cons (pe_has H_law_drawn hr (by omega) rfl pass0 (pa_cons (pv 0) (pa_cons (pe_ix (kix (K := K) rfl) (pe_lst (pa_cons pe_int (pa_cons pe_int (pa_cons pe_int (pa_cons (pe_op (kop_add (K := K) rfl) (pe_op op_pow pe_int pe_int) pe_int) pa_nil))))) (pe_has H_law_drawn hr (by omega) rfl pass0 (pa_cons (pv 0) (pa_cons (pv 2) pa_nil))) (fun _ _ => rfl)) pa_nil))) pa_nil)))))
 (pss_one (ps_ret (pe_tup (pa_cons (pv 3) (pa_cons (pe_ix (kix (K := K) rfl) (pv 4) (pe_has H_law_drawn hr (by omega) rfl pass0 (pa_cons (pv 0) (pa_cons pe_int pa_nil))) (fun _ _ => rfl)) pa_nil)))))))), ?_⟩
    refine r_start (σ' := [some (.ref st), some (.bl b), none, none, none]) rfl ?_
    walk_at "go"
    intro p1 n1
    walk_at "go"
    -- sorts
    obtain ⟨so, eso, hso⟩ : ∃ so : Int, atI [V.int 4, V.int 2] (if b = true then 1 else 0) = some (.int so) ∧ (so = 4 ∧ b = false ∨ so = 2 ∧ b = true) := by
      cases b
      · exact ⟨4, rfl, .inl ⟨rfl, rfl⟩⟩
      · exact ⟨2, rfl, .inr ⟨rfl, rfl⟩⟩
    refine r_ix (by walk_at "sq") eso ?_
    walk_at "go"
    -- around
    intro p2 n2
    walk_at "go"
    refine spDrawn_i (by walk_at "ss") (by walk_at "sq") (by omega) (small200 (by omega) (by omega)) fun v1 H1 a1 b1 s1 R1 => ?_
    walk_at "go"
    obtain ⟨w1, ew1, hw1⟩ := pick4 7 7 60 (10 ^ (6 : Int).toNat - 1) a1 (by omega)
    rw [e6] at hw1
    refine r_ix (by walk_at "sq") ew1 ?_
    walk_at "go"
    refine spDrawn_i s1 (by walk_at "sq") (by omega) (small200 (by omega) (by omega)) fun v2 H2 a2 b2 s2 R2 => ?_
    walk_at "go"
    refine spDrawn_i s2 (by walk_at "sq") (by omega) (by decide) fun v3 H3 a3 b3 s3 R3 => ?_
    walk_at "go"
    intro p4 n4
    walk_at "go"
    refine spDrawn_i (by walk_at "ss") (by walk_at "sq") (by omega) (small200 (by omega) (by omega)) fun v4 H4 a4 b4 s4 R4 => ?_
    walk_at "go"
    obtain ⟨w2, ew2, hw2⟩ := pick4 5 5 60 (10 ^ (6 : Int).toNat + 1) a4 (by omega)
    rw [e6] at hw2
    refine r_ix (by walk_at "sq") ew2 ?_
    walk_at "go"
    refine spDrawn_i s4 (by walk_at "sq") (by omega) (small200 (by omega) (by omega)) fun v5 H5 a5 b5 s5 R5 => ?_
    walk_at "go"
    intro p6 n6
    walk_at "go"
    refine spDrawn_i (by walk_at "ss") (by walk_at "sq") (by omega) (by decide) fun v6 H6 a6 b6 s6 R6 => ?_
    obtain ⟨pl, epl, mpl⟩ := pick3 0 v3 v5 a6 (by omega)
    refine r_ix (by walk_at "sq") epl ?_
    walk_at "go"
    intro g ng
    walk_at "go"
    refine k g _ _ _ (by omega) (by omega) (by omega) (by omega) (fun hb => ?_) (by walk_at "ss") (by walk_at "fr") upd_same
    rcases hso with ⟨_, q⟩ | ⟨q, _⟩
    · rw [q] at hb
      cases hb
    · omega
def spStanding (K : PySem.W.Frag) : Sp := fun vs H Q _ => ∃ (st a : Addr) (ns : List Int) (g : Addr) (r p : Int), vs = [.ref st, .ref g] ∧ St H st a ∧ SqL K H a (ns.map V.int) ∧ H g = some (.tup [.int r, .int p]) ∧ 0 ≤ p ∧ p ≤ 1000000 ∧
  ∀ (z : Addr) (m s : Int) (H' : Hp), m - p ≤ s → s ≤ m → -100000000000000000000000000000 ≤ m → m ≤ 100000000000000000000000000000 → St H' st a → Fr H H' → H' z = some (.tup [.int m, .int s]) → Q (.ref z) H'
theorem spStanding_i {st a g : Addr} {ns : List Int} {r p : Int} {H : Hp} {Q : VK} {E : XK} (s : St H st a) (hS : SqL K H a (ns.map V.int)) (hg : H g = some (.tup [.int r, .int p])) (h0 : 0 ≤ p) (h1 : p ≤ 1000000)
    (k : ∀ (z : Addr) (m s : Int) (H' : Hp), m - p ≤ s → s ≤ m → -100000000000000000000000000000 ≤ m → m ≤ 100000000000000000000000000000 → St H' st a → Fr H H' → H' z = some (.tup [.int m, .int s]) → Q (.ref z) H') : spStanding K [.ref st, .ref g] H Q E := ⟨st, a, ns, g, r, p, rfl, s, hS, hg, h0, h1, k⟩
theorem ok_law_standing (B : Bl mg) (F : FunAt K mg "_law_standing" s_law_standing) (H_law_drawn : Has P w K mg base CX0 1 "_law_drawn" (spDrawn K)) : Has P w K mg base CX0 2 "_law_standing" (spStanding K) := by
  refine F.ok sc_law_standing bo_law_standing (fun vs H Q E h => ?_) (fun f cdv A outer s H vs Q E hr h => ?_)
  · obtain ⟨st, a, ns, g, r, p, rfl, _⟩ := h
    rfl
  · obtain ⟨st, a, ns, g, r, p, rfl, hs, hS, hg, hp0, hp1, k⟩ := h
    refine ⟨_, (pss_cons (ps_set (i := 2) sc_law_standing.nd rfl (by first | exact Or.inl rfl | exact Or.inr rfl) (pe_ix (kix (K := K) rfl) (pe_lst (pa_cons pe_int (pa_cons pe_int (pa_cons (pe_op op_pow pe_int pe_int) pa_nil)))) (pe_has H_law_drawn hr (by omega) rfl pass0 (pa_cons (pv 0) (pa_cons pe_int pa_nil))) (fun _ _ => rfl)))
 (pss_cons (ps_set (i := 3) sc_law_standing.nd rfl (by first | exact Or.inl rfl | exact Or.inr rfl) (pe_op op_sub (pe_has H_law_drawn hr (by omega) rfl pass0 (pa_cons (pv 0) (pa_cons (pv 2) pa_nil))) (pe_op op_mul (pe_has H_law_drawn hr (by omega) rfl pass0 (pa_cons (pv 0) (pa_cons pe_int pa_nil))) (pv 2))))
 (pss_one (ps_ret (pe_tup (pa_cons (pv 3) (pa_cons (pe_op op_sub (pv 3) (pe_ix (kix (K := K) rfl) (pe_lst (pa_cons pe_int (pa_cons (pe_ix (kix (K := K) rfl) (pv 1) pe_int (fun _ _ => rfl)) (pa_cons (pe_has H_law_drawn hr (by omega) rfl pass0 (pa_cons (pv 0) (pa_cons (pe_op (kop_add (K := K) rfl) (pe_ix (kix (K := K) rfl) (pv 1) pe_int (fun _ _ => rfl)) pe_int) pa_nil))) pa_nil)))) (pe_has H_law_drawn hr (by omega) rfl pass0 (pa_cons (pv 0) (pa_cons pe_int pa_nil))) (fun _ _ => rfl))) pa_nil))))))), ?_⟩
    refine r_start (σ' := [some (.ref st), some (.ref g), none, none]) rfl ?_
    walk_at "go"
    intro p1 n1
    walk_at "go"
    refine spDrawn_i (by walk_at "ss") (by walk_at "sq") (by omega) (by decide) fun v1 H1 a1 b1 s1 R1 => ?_
    obtain ⟨far, e1, m1⟩ := pick3 10 1000 (10 ^ (29 : Int).toNat) a1 (by omega)
    rw [e29] at m1
    refine r_ix (by walk_at "sq") e1 ?_
    walk_at "go"
    refine spDrawn_i s1 (by walk_at "sq") (by omega) (small200 (by omega) (by omega)) fun v2 H2 a2 b2 s2 R2 => ?_
    walk_at "go"
    refine spDrawn_i s2 (by walk_at "sq") (by omega) (by decide) fun v3 H3 a3 b3 s3 R3 => ?_
    walk_at "go"
    refine r_I (.inl ⟨by omega, by omega⟩) ?_
    walk_at "go"
    refine spDrawn_i s3 (by walk_at "sq") (by omega) (small200 (by omega) (by omega)) fun v4 H4 a4 b4 s4 R4 => ?_
    walk_at "go"
    intro p5 n5
    walk_at "go"
    refine spDrawn_i (by walk_at "ss") (by walk_at "sq") (by omega) (by decide) fun v5 H5 a5 b5 s5 R5 => ?_
    obtain ⟨o, e5, m5⟩ := pick3 0 p v4 a5 (by omega)
    refine r_ix (by walk_at "sq") e5 ?_
    walk_at "go"
    intro z nz
    walk_at "go"
    have hv : 0 ≤ v3 * far ∧ v3 * far ≤ far := by
      have : v3 = 0 ∨ v3 = 1 := by omega
      rcases this with rfl | rfl <;> omega
    exact k z _ _ _ (by omega) (by omega) (by omega) (by omega) (by walk_at "ss") (by walk_at "fr") upd_same
def spMoves (K : PySem.W.Frag) : Sp := fun vs H Q _ => ∃ (st a : Addr) (ns : List Int) (g : Addr) (r p most : Int), vs = [.ref st, .ref g, .int most] ∧ St H st a ∧ SqL K H a (ns.map V.int) ∧ H g = some (.tup [.int r, .int p]) ∧ 0 < r ∧ r ≤ 1000000 ∧ 0 ≤ p ∧ p ≤ 1000000 ∧ 0 ≤ most ∧ most ≤ 1000 ∧
  ∀ (l : Addr) (ms : List Int) (H' : Hp), ms.length ≤ most.toNat → (∀ m ∈ ms, -100000000000000000000000000000 ≤ m ∧ m ≤ 100000000000000000000000000000) → St H' st a → Fr H H' → H' l = some (.lst (ms.map V.int)) → Q (.ref l) H'
theorem spMoves_i {st a g : Addr} {ns : List Int} {r p most : Int} {H : Hp} {Q : VK} {E : XK} (s : St H st a) (hS : SqL K H a (ns.map V.int)) (hg : H g = some (.tup [.int r, .int p])) (r0 : 0 < r) (r1 : r ≤ 1000000) (h0 : 0 ≤ p) (h1 : p ≤ 1000000) (m0 : 0 ≤ most) (m1 : most ≤ 1000)
    (k : ∀ (l : Addr) (ms : List Int) (H' : Hp), ms.length ≤ most.toNat → (∀ m ∈ ms, -100000000000000000000000000000 ≤ m ∧ m ≤ 100000000000000000000000000000) → St H' st a → Fr H H' → H' l = some (.lst (ms.map V.int)) → Q (.ref l) H') : spMoves K [.ref st, .ref g, .int most] H Q E := ⟨st, a, ns, g, r, p, most, rfl, s, hS, hg, r0, r1, h0, h1, m0, m1, k⟩
theorem ok_law_moves (B : Bl mg) (F : FunAt K mg "_law_moves" s_law_moves) (H_law_drawn : Has P w K mg base CX0 1 "_law_drawn" (spDrawn K)) : Has P w K mg base CX0 2 "_law_moves" (spMoves K) := by
  refine F.ok sc_law_moves bo_law_moves (fun vs H Q E h => ?_) (fun f cdv A outer s H vs Q E hr h => ?_)
  · obtain ⟨st, a, ns, g, r, p, most, rfl, _⟩ := h
    rfl
  · obtain ⟨st, a, ns, g, r, p, most, rfl, hs, hS, hg, hr0, hr1, hp0, hp1, hm0, hm1, k⟩ := h
    refine ⟨_, (pss_cons (ps_set (i := 3) sc_law_moves.nd rfl (by first | exact Or.inl rfl | exact Or.inr rfl) (pe_lst pa_nil))
 (pss_cons (ps_for PassesOwn.never rfl (pi_range1 rfl B.range (pa_cons (pe_has H_law_drawn hr (by omega) rfl pass0 (pa_cons (pv 0) (pa_cons (pe_op (kop_add (K := K) rfl) (pv 2) pe_int) pa_nil))) pa_nil)) (pg_name (i := 4) sc_law_moves.nd rfl (by first | exact Or.inl rfl | exact Or.inr rfl)) (pss_cons (ps_set (i := 5) sc_law_moves.nd rfl (by first | exact Or.inl rfl | exact Or.inr rfl) (pe_lst (pa_cons (pe_has H_law_drawn hr (by omega) rfl pass0 (pa_cons (pv 0) (pa_cons pe_int pa_nil))) (pa_cons (pe_has H_law_drawn hr (by omega) rfl pass0 (pa_cons (pv 0) (pa_cons (pe_op (kop_add (K := K) rfl) (pe_ix (kix (K := K) rfl) (pv 1) pe_int (fun _ _ => rfl)) pe_int) pa_nil))) (pa_cons (pe_has H_law_drawn hr (by omega) rfl pass0 (pa_cons (pv 0) (pa_cons (pe_op op_mul pe_int (pe_ix (kix (K := K) rfl) (pv 1) pe_int (fun _ _ => rfl))) pa_nil))) pa_nil)))))
 (pss_cons (ps_set (i := 5) sc_law_moves.nd rfl (by first | exact Or.inl rfl | exact Or.inr rfl) (pe_ix (kix (K := K) rfl) (pv 5) (pe_has H_law_drawn hr (by omega) rfl pass0 (pa_cons (pv 0) (pa_cons pe_int pa_nil))) (fun _ _ => rfl)))
 (pss_cut (ps_if (pt_cmpR (kop_eq (K := K) rfl hr.units) (pe_has H_law_drawn hr (by omega) rfl pass0 (pa_cons (pv 0) (pa_cons pe_int pa_nil))) pe_int (nomark _)) (pss_one (ps_set (i := 5) sc_law_moves.nd rfl (by first | exact Or.inl rfl | exact Or.inr rfl) (pe_has H_law_drawn hr (by omega) rfl pass0 (pa_cons (pv 0) (pa_cons (pe_op op_pow pe_int pe_int) pa_nil))))) pss_nil)
 (pss_one (ps_expr (kpe_bm (K := K) rfl PySem.F.plainAttrs_list PySem.F.slot_list_append PySem.F.type_list_append mt_append (pv 3) (pa_cons (pe_ix (kix (K := K) rfl) (pe_lst (pa_cons (pv 5) (pa_cons (pe_op op_sub pe_int (pv 5)) pa_nil))) (pe_has H_law_drawn hr (by omega) rfl pass0 (pa_cons (pv 0) (pa_cons pe_int pa_nil))) (fun _ _ => rfl)) pa_nil))))))))
 (pss_one (ps_ret (pv 3))))), ?_⟩
    refine r_start (σ' := [some (.ref st), some (.ref g), some (.int most), none, none, none]) rfl ?_
    walk_at "go"
    intro l nl
    walk_at "go"
    refine spDrawn_i (by walk_at "ss") (by walk_at "sq") (by omega) (small200 (by omega) (by omega)) fun n H0 a0 b0 s0 R0 => ?_
    have f0 : Fr H H0 := by walk_at "fr"
    refine ⟨_, rfl, by omega, by omega, fw_range (fun i σ H2 => ∃ (ms : List Int) (u v : Option V), σ = [some (.ref st), some (.ref g), some (.int most), some (.ref l), u, v] ∧ ms.length = i ∧ (∀ m ∈ ms, -100000000000000000000000000000 ≤ m ∧ m ≤ 100000000000000000000000000000) ∧ St H2 st a ∧ Fr H H2 ∧ H2 l = some (.lst (ms.map V.int)))
      ⟨[], none, none, rfl, rfl, by simp, s0, f0, R0 _ _ upd_same nst_nil⟩ ?_ ?_⟩
    · rintro i σ H2 hi ⟨ms, u, v, rfl, hlen, hms, s2, f2, hl⟩
      walk_at "go"
      refine spDrawn_i s2 (by walk_at "sq") (by omega) (by decide) fun v1 H3 a1 b1 s3 R3 => ?_
      walk_at "go"
      refine spDrawn_i s3 (by walk_at "sq") (by omega) (small200 (by omega) (by omega)) fun v2 H4 a2 b2 s4 R4 => ?_
      walk_at "go"
      refine r_I (.inl ⟨by omega, by omega⟩) ?_
      walk_at "go"
      refine spDrawn_i s4 (by walk_at "sq") (by omega) (small200 (by omega) (by omega)) fun v3 H5 a3 b3 s5 R5 => ?_
      walk_at "go"
      intro p6 n6
      walk_at "go"
      refine spDrawn_i (by walk_at "ss") (by walk_at "sq") (by omega) (by decide) fun v6 H6 a6 b6 s6 R6 => ?_
      obtain ⟨sz, e6, m6⟩ := pick3 v1 v2 v3 a6 (by omega)
      refine r_ix (by walk_at "sq") e6 ?_
      walk_at "go"
      refine r_cut (fun σ' H' => ∃ sz' : Int, σ' = [some (.ref st), some (.ref g), some (.int most), some (.ref l), some (.int (0 + i)), some (.int sz')] ∧ 0 ≤ sz' ∧ sz' ≤ 100000000000000000000000000000 ∧ St H' st a ∧ Fr H H' ∧ H' l = some (.lst (ms.map V.int))) ?_ ?_
      · walk_at "go"
        refine spDrawn_i s6 (by walk_at "sq") (by omega) (by decide) fun v7 H7 a7 b7 s7 R7 => ?_
        walk_at "go"
        refine iteD (fun _ => ?_) (fun _ => ?_)
        · walk_at "go"
          refine spDrawn_i s7 (by walk_at "sq") (by rw [e29]; omega) (by rw [e29]; decide) fun v8 H8 a8 b8 s8 R8 => ?_
          rw [e29] at b8
          walk_at "go"
          exact ⟨v8, rfl, by omega, by omega, s8, by walk_at "fr", by walk_at "hp"⟩
        · walk_at "go"
          exact ⟨sz, rfl, by omega, by omega, s7, by walk_at "fr", by walk_at "hp"⟩
      · rintro σ' H9 ⟨sz', rfl, hz0, hz1, s9, f9, hl9⟩
        walk_at "go"
        refine ⟨r_tyL hl9, ?_⟩
        walk_at "go"
        intro p10 n10
        walk_at "go"
        refine spDrawn_i (by walk_at "ss") (by walk_at "sq") (by omega) (by decide) fun v11 H11 a11 b11 s11 R11 => ?_
        obtain ⟨z, e11, m11⟩ := pick2 sz' (0 - sz') a11 (by omega)
        refine r_ix (by walk_at "sq") e11 ?_
        walk_at "go"
        have hl11 : H11 l = some (.lst (ms.map V.int)) := by walk_at "hp"
        refine r_appA hl11 (by rw [List.length_map]; exact small1000 (by omega)) fun H12 e12 w12 => ?_
        walk_at "go"
        have ne : st ≠ l := s11.ne hl11 nst_ints
        obtain ⟨i', m', r', hst, q⟩ := s11.ex
        refine ⟨ms ++ [z], _, _, rfl, by simp [hlen], fun x hx => ?_, ⟨i', m', r', w12 _ _ ne hst, q⟩, fun b o e n => ?_, by rw [e12]; simp⟩
        · simp at hx
          rcases hx with hx | rfl
          · exact hms x hx
          · omega
        · have nb : b ≠ l := ne_of_none e nl
          have : Fr H H11 := by walk_at "fr"
          exact w12 _ _ nb (this _ _ e n)
    · rintro σ H2 ⟨ms, u, v, rfl, hlen, hms, s2, f2, hl⟩
      walk_at "go"
      exact k l ms H2 (by omega) hms s2 f2 hl
end
end Rd

namespace Rd
/-! ## the shaft: plain -/
/-- where the shaft stands behind k steps, as the program reckons it -/
def pb (p m s k : Int) : Int := min (m + k) (max (m + k - p) s)
/-- .. as the law does -/
def lb (p m s k : Int) : Int := if 0 < k then s + max 0 (k - (p - (m - s))) else s + min 0 (k + (m - s))
theorem lb_pb {p m s k : Int} (h0 : m - p ≤ s) (h1 : s ≤ m) : lb p m s k = pb p m s k := by
  unfold lb pb
  split <;> omega
def nx (p : Int) (z : Int × Int) (k : Int) : Int × Int := (z.1 + k, pb p z.1 z.2 k)
def pos (p : Int) (z : Int × Int) (ks : List Int) : Int × Int := ks.foldl (nx p) z
def traj (p : Int) : Int × Int → List Int → List (Int × Int)
  | _, [] => []
  | z, k :: r => nx p z k :: traj p (nx p z k) r
theorem pos_snoc (p : Int) (z : Int × Int) (ks : List Int) (k : Int) : pos p z (ks ++ [k]) = nx p (pos p z ks) k := by
  unfold pos
  rw [List.foldl_append]
  rfl
theorem pos_app (p : Int) (z : Int × Int) (ks ls : List Int) : pos p z (ks ++ ls) = pos p (pos p z ks) ls := by
  unfold pos
  rw [List.foldl_append]
theorem traj_snoc (p : Int) : ∀ (ks : List Int) (z : Int × Int) (k : Int), traj p z (ks ++ [k]) = traj p z ks ++ [nx p (pos p z ks) k]
  | [], _, _ => rfl
  | _ :: r, z, k => by
    show _ :: traj p _ (r ++ [k]) = _ :: (traj p _ r ++ _)
    rw [traj_snoc p r]
    rfl
theorem traj_len (p : Int) : ∀ (ks : List Int) (z : Int × Int), (traj p z ks).length = ks.length
  | [], _ => rfl
  | _ :: r, z => by
    show _ + 1 = _ + 1
    rw [traj_len p r]
theorem traj_last (p : Int) : ∀ (ks : List Int) (z : Int × Int), (z :: traj p z ks)[ks.length]? = some (pos p z ks)
  | [], _ => rfl
  | k :: r, z => traj_last p r (nx p z k)
/-- a standing of a gear of the play p -/
def Stg (p : Int) (z : Int × Int) : Prop := z.1 - p ≤ z.2 ∧ z.2 ≤ z.1
theorem Stg.nx {p : Int} {z : Int × Int} (h : Stg p z) (hp : 0 ≤ p) (k : Int) : Stg p (Rd.nx p z k) := by
  obtain ⟨a, b⟩ := h
  unfold Stg Rd.nx pb
  dsimp only
  omega
theorem Stg.pos {p : Int} (hp : 0 ≤ p) : ∀ {ks : List Int} {z : Int × Int}, Stg p z → Stg p (Rd.pos p z ks)
  | [], _, h => h
  | k :: r, z, h => Stg.pos hp (ks := r) (h.nx hp k)
theorem take_snoc {α : Type} {l : List α} {i : Nat} {x : α} (h : l[i]? = some x) : l.take (i + 1) = l.take i ++ [x] := by
  rw [List.take_add_one, h]
  rfl
end Rd

namespace Rd
open PySem L2
/-- tuples of two ints at the addresses as -/
def Tups (H : Hp) (as : List Addr) (xs : List (Int × Int)) : Prop := as.length = xs.length ∧ ∀ (i : Nat) (a : Addr) (x : Int × Int), as[i]? = some a → xs[i]? = some x → H a = some (.tup [.int x.1, .int x.2])
theorem Tups.nil {H : Hp} : Tups H [] [] := ⟨rfl, fun i a x h => by simp at h⟩
theorem Tups.mono {H H' : Hp} {as : List Addr} {xs : List (Int × Int)} (t : Tups H as xs) (R : ∀ b xs, H b = some (.tup xs) → H' b = some (.tup xs)) : Tups H' as xs := ⟨t.1, fun i a x h1 h2 => R _ _ (t.2 i a x h1 h2)⟩
theorem Tups.snoc {H : Hp} {as : List Addr} {xs : List (Int × Int)} {a : Addr} {x : Int × Int} (t : Tups H as xs) (h : H a = some (.tup [.int x.1, .int x.2])) : Tups H (as ++ [a]) (xs ++ [x]) := by
  refine ⟨by simp [t.1], fun i b y h1 h2 => ?_⟩
  by_cases hi : i < as.length
  · rw [List.getElem?_append_left hi] at h1
    rw [List.getElem?_append_left (by rw [← t.1]; exact hi)] at h2
    exact t.2 i b y h1 h2
  · rw [List.getElem?_append_right (by omega)] at h1
    rw [List.getElem?_append_right (by rw [← t.1]; omega)] at h2
    have e : i - as.length = 0 := by
      cases q : i - as.length with
      | zero => rfl
      | succ n => rw [q] at h1; simp at h1
    rw [e] at h1
    rw [← t.1, e] at h2
    cases h1
    cases h2
    exact h
theorem Tups.all {H : Hp} : ∀ {as : List Addr} {xs : List (Int × Int)}, Tups H as xs → IsAll H (as.map V.ref) (xs.map dPair)
  | [], [], _ => .nil
  | [], _ :: _, t => nomatch t.1
  | _ :: _, [], t => nomatch t.1
  | a :: as, x :: xs, t => .cons (Is.pair (t.2 0 a x rfl rfl)) (Tups.all ⟨Nat.succ.inj t.1, fun i b y h1 h2 => t.2 (i + 1) b y (by simpa using h1) (by simpa using h2)⟩)
section
variable {P : Program} {w : World} {K : PySem.W.Frag} {mg : Str → Option Value} {base : Heap}
/-- a gear stands at g -/
structure GearAt (H : Hp) (g : Addr) (r p : Int) : Prop where
  at_ : H g = some (.tup [.int r, .int p])
  r2 : 2 ≤ r
  r6 : r ≤ 1000000
  p0 : 0 ≤ p
  p6 : p ≤ 1000000
theorem GearAt.mono {H H' : Hp} {g : Addr} {r p : Int} (G : GearAt H g r p) (h : H' g = some (.tup [.int r, .int p])) : GearAt H' g r p := ⟨h, G.r2, G.r6, G.p0, G.p6⟩
def spNG : Sp := fun vs H Q _ => ∃ (g : Addr) (r p : Int), vs = [.ref g] ∧ GearAt H g r p ∧ Q .non H
theorem spNG_i {g : Addr} {r p : Int} {H : Hp} {Q : VK} {E : XK} (G : GearAt H g r p) (k : Q .non H) : spNG [.ref g] H Q E := ⟨g, r, p, rfl, G, k⟩
theorem ok_need_gear (F : FunAt K mg "need_gear" s_need_gear) (M_MOST : Cn mg "MOST" 1000000) : Has P w K mg base CX0 1 "need_gear" spNG := by
  refine F.ok sc_need_gear bo_need_gear (fun vs H Q E h => ?_) (fun f cdv A outer s H vs Q E hr h => ?_)
  · obtain ⟨g, r, p, rfl, _⟩ := h
    rfl
  · obtain ⟨g, r, p, rfl, G, k⟩ := h
    have hg := G.at_
    have h1 := G.r2
    have h2 := G.r6
    have h3 := G.p0
    have h4 := G.p6
    refine ⟨_, (pss_cons (ps_asg (pv 0) (kpg_tup (K := K) rfl rfl (pgs_cons (pg_name (i := 1) sc_need_gear.nd rfl (by first | exact Or.inl rfl | exact Or.inr rfl)) (pgs_cons (pg_name (i := 2) sc_need_gear.nd rfl (by first | exact Or.inl rfl | exact Or.inr rfl)) pgs_nil))))
 (pss_one (ps_if (PW.pt (pw_or (pt_not (pt_chain op_le op_le pe_int (pv 1) (pe_cn M_MOST rfl))) (pw_or1 (pt_not (pt_chain op_le op_le pe_int (pv 2) (pe_cn M_MOST rfl)))))) (pss_one ps_never) pss_nil))), ?_⟩
    refine r_start (σ' := [some (.ref g), none, none]) rfl ?_
    walk_at "go"
    refine iteDT (by omega) ?_
    walk_at "go"
    refine iteNF (by omega) ?_
    walk_at "go"
    refine iteDT (by omega) ?_
    walk_at "go"
    refine iteNF (by omega) ?_
    walk_at "go"
    exact k
def spNS : Sp := fun vs H Q _ => ∃ (g : Addr) (r p : Int) (z : Addr) (x : Int × Int), vs = [.ref g, .ref z] ∧ GearAt H g r p ∧ H z = some (.tup [.int x.1, .int x.2]) ∧ Stg p x ∧ Q .non H
theorem spNS_i {g z : Addr} {r p : Int} {x : Int × Int} {H : Hp} {Q : VK} {E : XK} (G : GearAt H g r p) (hz : H z = some (.tup [.int x.1, .int x.2])) (hs : Stg p x) (k : Q .non H) : spNS [.ref g, .ref z] H Q E := ⟨g, r, p, z, x, rfl, G, hz, hs, k⟩
theorem ok_need_standing (F : FunAt K mg "need_standing" s_need_standing) (H_need_gear : Has P w K mg base CX0 1 "need_gear" spNG) : Has P w K mg base CX0 2 "need_standing" spNS := by
  refine F.ok sc_need_standing bo_need_standing (fun vs H Q E h => ?_) (fun f cdv A outer s H vs Q E hr h => ?_)
  · obtain ⟨g, r, p, z, x, rfl, _⟩ := h
    rfl
  · obtain ⟨g, r, p, z, x, rfl, G, hz, hs, k⟩ := h
    have hg := G.at_
    obtain ⟨a1, a2⟩ := hs
    refine ⟨_, (pss_cons (ps_expr (pe_has H_need_gear hr (by omega) rfl pass0 (pa_cons (pv 0) pa_nil)))
 (pss_cons (ps_asg (pv 1) (kpg_tup (K := K) rfl rfl (pgs_cons (pg_name (i := 2) sc_need_standing.nd rfl (by first | exact Or.inl rfl | exact Or.inr rfl)) (pgs_cons (pg_name (i := 3) sc_need_standing.nd rfl (by first | exact Or.inl rfl | exact Or.inr rfl)) pgs_nil))))
 (pss_one (ps_if (pt_not (pt_chain op_le op_le (pe_op op_sub (pv 2) (pe_ix (kix (K := K) rfl) (pv 0) pe_int (fun _ _ => rfl))) (pv 3) (pv 2))) (pss_one ps_never) pss_nil)))), ?_⟩
    refine r_start (σ' := [some (.ref g), some (.ref z), none, none]) rfl ?_
    walk_at "go"
    refine spNG_i G ?_
    walk_at "go"
    refine iteDT (by omega) ?_
    walk_at "go"
    refine iteNF (by omega) ?_
    walk_at "go"
    exact k
def spNM (K : PySem.W.Frag) : Sp := fun vs H Q _ => ∃ (l : Addr) (ms : List Int), vs = [.ref l] ∧ SqL K H l (ms.map V.int) ∧ ms.length ≤ 100 ∧ Q .non H
theorem spNM_i {l : Addr} {ms : List Int} {H : Hp} {Q : VK} {E : XK} (hl : SqL K H l (ms.map V.int)) (h : ms.length ≤ 100) (k : Q .non H) : spNM K [.ref l] H Q E := ⟨l, ms, rfl, hl, h, k⟩
theorem ok_need_moves (B : Bl mg) (F : FunAt K mg "need_moves" s_need_moves) (M_MOST_MOVES : Cn mg "MOST_MOVES" 100) : Has P w K mg base CX0 1 "need_moves" (spNM K) := by
  refine F.ok sc_need_moves bo_need_moves (fun vs H Q E h => ?_) (fun f cdv A outer s H vs Q E hr h => ?_)
  · obtain ⟨l, ms, rfl, _⟩ := h
    rfl
  · obtain ⟨l, ms, rfl, hl, hm, k⟩ := h
    refine ⟨_, (pss_one (ps_if (pt_cmpR op_gt (pe_callB (kc_len (K := K) rfl) rfl B.len (by decide +kernel) (pa_cons (pv 0) pa_nil)) (pe_cn M_MOST_MOVES rfl) (nomark _)) (pss_one ps_never) pss_nil)), ?_⟩
    refine r_start (σ' := [some (.ref l)]) rfl ?_
    walk_at "go"
    rw [List.length_map]
    refine iteDF (by omega) ?_
    walk_at "go"
    exact k
def spBehind : Sp := fun vs H Q _ => ∃ (g : Addr) (r p : Int) (z : Addr) (x : Int × Int) (k : Int), vs = [.ref g, .ref z, .int k] ∧ H g = some (.tup [.int r, .int p]) ∧ H z = some (.tup [.int x.1, .int x.2]) ∧
  ∀ (q : Addr) (H' : Hp), H q = none → Same H H' → H' q = some (.tup [.int (nx p x k).1, .int (nx p x k).2]) → Q (.ref q) H'
theorem spBehind_i {g z : Addr} {r p k : Int} {x : Int × Int} {H : Hp} {Q : VK} {E : XK} (hg : H g = some (.tup [.int r, .int p])) (hz : H z = some (.tup [.int x.1, .int x.2]))
    (h : ∀ (q : Addr) (H' : Hp), H q = none → Same H H' → H' q = some (.tup [.int (nx p x k).1, .int (nx p x k).2]) → Q (.ref q) H') : spBehind [.ref g, .ref z, .int k] H Q E := ⟨g, r, p, z, x, k, rfl, hg, hz, h⟩
theorem ok_behind (B : Bl mg) (F : FunAt K mg "behind" s_behind) : Has P w K mg base CX0 1 "behind" spBehind := by
  refine F.ok sc_behind bo_behind (fun vs H Q E h => ?_) (fun f cdv A outer s H vs Q E hr h => ?_)
  · obtain ⟨g, r, p, z, x, k, rfl, _⟩ := h
    rfl
  · obtain ⟨g, r, p, z, x, k, rfl, hg, hz, h⟩ := h
    refine ⟨_, (pss_cons (ps_set (i := 3) sc_behind.nd rfl (by first | exact Or.inl rfl | exact Or.inr rfl) (pe_op (kop_add (K := K) rfl) (pe_ix (kix (K := K) rfl) (pv 1) pe_int (fun _ _ => rfl)) (pv 2)))
 (pss_one (ps_ret (pe_tup (pa_cons (pv 3) (pa_cons (pe_callB (kc_min (K := K) rfl rfl) rfl B.min (by decide +kernel) (pa_cons (pv 3) (pa_cons (pe_callB (kc_max (K := K) rfl rfl) rfl B.max (by decide +kernel) (pa_cons (pe_op op_sub (pv 3) (pe_ix (kix (K := K) rfl) (pv 0) pe_int (fun _ _ => rfl))) (pa_cons (pe_ix (kix (K := K) rfl) (pv 1) pe_int (fun _ _ => rfl)) pa_nil))) pa_nil))) pa_nil)))))), ?_⟩
    refine r_start (σ' := [some (.ref g), some (.ref z), some (.int k), none]) rfl ?_
    walk_at "go"
    intro q nq
    walk_at "go"
    exact h q _ nq (same_new nq) upd_same
def spAB (K : PySem.W.Frag) : Sp := fun vs H Q _ => ∃ (g : Addr) (r p : Int) (z : Addr) (x : Int × Int) (l : Addr) (ms : List Int), vs = [.ref g, .ref z, .ref l] ∧ H g = some (.tup [.int r, .int p]) ∧ H z = some (.tup [.int x.1, .int x.2]) ∧ SqL K H l (ms.map V.int) ∧ ms.length ≤ 1000 ∧
  ∀ (q : Addr) (as : List Addr) (H' : Hp), H q = none → Same H H' → H' q = some (.lst (as.map V.ref)) → Tups H' as (traj p x ms) → Q (.ref q) H'
theorem spAB_i {g z l : Addr} {r p : Int} {x : Int × Int} {ms : List Int} {H : Hp} {Q : VK} {E : XK} (hg : H g = some (.tup [.int r, .int p])) (hz : H z = some (.tup [.int x.1, .int x.2])) (hl : SqL K H l (ms.map V.int)) (hm : ms.length ≤ 1000)
    (h : ∀ (q : Addr) (as : List Addr) (H' : Hp), H q = none → Same H H' → H' q = some (.lst (as.map V.ref)) → Tups H' as (traj p x ms) → Q (.ref q) H') : spAB K [.ref g, .ref z, .ref l] H Q E := ⟨g, r, p, z, x, l, ms, rfl, hg, hz, hl, hm, h⟩
theorem ok_all_behind (B : Bl mg) (F : FunAt K mg "all_behind" s_all_behind) (H_behind : Has P w K mg base CX0 1 "behind" spBehind) : Has P w K mg base CX0 2 "all_behind" (spAB K) := by
  refine F.ok sc_all_behind bo_all_behind (fun vs H Q E h => ?_) (fun f cdv A outer s H vs Q E hr h => ?_)
  · obtain ⟨g, r, p, z, x, l, ms, rfl, _⟩ := h
    rfl
  · obtain ⟨g, r, p, z, x, l, ms, rfl, hg, hz, hl, hm, h⟩ := h
    refine ⟨_, (pss_cons (ps_set (i := 3) sc_all_behind.nd rfl (by first | exact Or.inl rfl | exact Or.inr rfl) (pe_lst pa_nil))
 (pss_cons (ps_for PassesOwn.never rfl (kpi_list (K := K) rfl (pv 2)) (pg_name (i := 4) sc_all_behind.nd rfl (by first | exact Or.inl rfl | exact Or.inr rfl)) (pss_cons (ps_set (i := 1) sc_all_behind.nd rfl (by first | exact Or.inl rfl | exact Or.inr rfl) (pe_has H_behind hr (by omega) rfl pass0 (pa_cons (pv 0) (pa_cons (pv 1) (pa_cons (pv 4) pa_nil)))))
 (pss_one (ps_expr (kpe_bm (K := K) rfl PySem.F.plainAttrs_list PySem.F.slot_list_append PySem.F.type_list_append mt_append (pv 3) (pa_cons (pv 1) pa_nil))))))
 (pss_one (ps_ret (pv 3))))), ?_⟩
    refine r_start (σ' := [some (.ref g), some (.ref z), some (.ref l), none, none]) rfl ?_
    walk_at "go"
    intro q nq
    walk_at "go"
    refine ⟨_, rfl, ⟨_, by walk_at "sq"⟩, fw_list (K := K) (a := l) (xs := ms.map V.int) (fun i σ H2 => ∃ (z' : Addr) (as : List Addr) (v : Option V), σ = [some (.ref g), some (.ref z'), some (.ref l), some (.ref q), v] ∧ Same H H2 ∧ H2 q = some (.lst (as.map V.ref)) ∧
        H2 z' = some (.tup [.int (pos p x (ms.take i)).1, .int (pos p x (ms.take i)).2]) ∧ Tups H2 as (traj p x (ms.take i)))
      ⟨z, [], none, rfl, same_new nq, upd_same, at_new nq hz, Tups.nil⟩ (fun i σ H2 _ ⟨_, _, _, _, s2, _⟩ => s2.seq hl) ?_ ?_⟩
    · rintro i y σ H2 hi ⟨z', as, v, rfl, s2, hq, hz', ht⟩
      obtain ⟨k, hk, rfl⟩ := map_at hi
      walk_at "go"
      refine spBehind_i (by walk_at "hp") hz' fun z2 H3 nz2 s3 hz2 => ?_
      walk_at "go"
      have hq3 : H3 q = some (.lst (as.map V.ref)) := s3 _ _ hq
      refine ⟨r_tyL hq3, ?_⟩
      walk_at "go"
      have hil : i < ms.length := (List.getElem?_eq_some_iff.mp hk).1
      have hlen : as.length = i := by rw [ht.1, traj_len, List.length_take]; omega
      refine r_appA hq3 (by rw [List.length_map]; exact small1000 (by omega)) fun H4 e4 w4 => ?_
      walk_at "go"
      have keep : ∀ b xs, H3 b = some (.tup xs) → H4 b = some (.tup xs) := fun b xs e => w4 _ _ (ne_of e hq3 (fun z => nomatch z)) e
      refine ⟨z2, as ++ [z2], _, rfl, fun b o e => w4 _ _ (ne_of_none e nq) (s3 _ _ (s2 _ _ e)), by rw [e4]; simp, ?_, ?_⟩
      · rw [take_snoc hk, pos_snoc]
        exact keep _ _ hz2
      · rw [take_snoc hk, traj_snoc]
        exact ((ht.mono fun b xs e => s3 _ _ e).mono keep).snoc (keep _ _ hz2)
    · rintro σ H2 ⟨z', as, v, rfl, s2, hq, hz', ht⟩
      walk_at "go"
      rw [List.length_map, List.take_length] at ht
      exact h q as H2 nq s2 hq ht
def spStands (K : PySem.W.Frag) : Sp := fun vs H Q _ => ∃ (g : Addr) (r p : Int) (z : Addr) (x : Int × Int) (l : Addr) (ms : List Int), vs = [.ref g, .ref z, .ref l] ∧ GearAt H g r p ∧ H z = some (.tup [.int x.1, .int x.2]) ∧ Stg p x ∧ SqL K H l (ms.map V.int) ∧ ms.length ≤ 100 ∧
  ∀ (q : Addr) (H' : Hp), Same H H' → H' q = some (.tup [.int (pos p x ms).1, .int (pos p x ms).2]) → Q (.ref q) H'
theorem spStands_i {g z l : Addr} {r p : Int} {x : Int × Int} {ms : List Int} {H : Hp} {Q : VK} {E : XK} (G : GearAt H g r p) (hz : H z = some (.tup [.int x.1, .int x.2])) (hs : Stg p x) (hl : SqL K H l (ms.map V.int)) (hm : ms.length ≤ 100)
    (h : ∀ (q : Addr) (H' : Hp), Same H H' → H' q = some (.tup [.int (pos p x ms).1, .int (pos p x ms).2]) → Q (.ref q) H') : spStands K [.ref g, .ref z, .ref l] H Q E := ⟨g, r, p, z, x, l, ms, rfl, G, hz, hs, hl, hm, h⟩
theorem ok_stands (B : Bl mg) (F : FunAt K mg "stands" s_stands) (H_need_standing : Has P w K mg base CX0 2 "need_standing" spNS) (H_need_moves : Has P w K mg base CX0 1 "need_moves" (spNM K)) (H_all_behind : Has P w K mg base CX0 2 "all_behind" (spAB K)) : Has P w K mg base CX0 3 "stands" (spStands K) := by
  refine F.ok sc_stands bo_stands (fun vs H Q E h => ?_) (fun f cdv A outer s H vs Q E hr h => ?_)
  · obtain ⟨g, r, p, z, x, l, ms, rfl, _⟩ := h
    rfl
  · obtain ⟨g, r, p, z, x, l, ms, rfl, G, hz, hs, hl, hm, h⟩ := h
    have hg := G.at_
    refine ⟨_, (pss_cons (ps_expr (pe_has H_need_standing hr (by omega) rfl pass0 (pa_cons (pv 0) (pa_cons (pv 1) pa_nil))))
 (pss_cons (ps_expr (pe_has H_need_moves hr (by omega) rfl pass0 (pa_cons (pv 2) pa_nil)))
 (pss_one (ps_ret (pe_ix (kix (K := K) rfl) (pe_op (kop_add (K := K) rfl) (pe_lst (pa_cons (pe_callTy (kc_tup (K := K) rfl) rfl B.tuple (by decide +kernel) (pa_cons (pv 1) pa_nil)) pa_nil)) (pe_has H_all_behind hr (by omega) rfl pass0 (pa_cons (pv 0) (pa_cons (pv 1) (pa_cons (pv 2) pa_nil))))) (pe_un un_neg pe_int) (fun _ _ => rfl)))))), ?_⟩
    refine r_start (σ' := [some (.ref g), some (.ref z), some (.ref l)]) rfl ?_
    walk_at "go"
    refine spNS_i G hz hs ?_
    walk_at "go"
    refine spNM_i hl hm ?_
    walk_at "go"
    refine r_tupT (by walk_at "sq") ?_
    walk_at "go"
    intro c nc
    walk_at "go"
    refine spAB_i (by walk_at "hp") (by walk_at "hp") (by walk_at "sq") (by omega) fun q as H' nq s' hq ht => ?_
    have hc : H' c = some (.lst [.ref z]) := by walk_at "hp"
    have hlen : as.length = ms.length := by rw [ht.1, traj_len]
    refine r_addL hc hq (by show 1 + (as.map V.ref).length ≤ _; rw [List.length_map]; exact Nat.le_of_lt (small1000 (by omega))) fun d nd => ?_
    walk_at "go"
    have hzs : H' z = some (.tup [.int x.1, .int x.2]) := by walk_at "hp"
    obtain ⟨b, hb⟩ : ∃ b, (z :: as)[as.length]? = some b := ⟨(z :: as)[as.length]'(by simp), List.getElem?_eq_getElem (by simp)⟩
    have hall : Tups H' (z :: as) (x :: traj p x ms) := by
      refine ⟨by simp [ht.1], fun i c y h1 h2 => ?_⟩
      cases i with
      | zero => cases h1; cases h2; exact hzs
      | succ i => exact ht.2 i c y h1 h2
    have hbt := hall.2 as.length b _ hb (by rw [hlen]; exact traj_last p ms x)
    refine r_ix (xs := [V.ref z] ++ as.map V.ref) (v := .ref b) (.inl (SqL.of upd_same)) ?_ ?_
    · have e : ([V.ref z] ++ as.map V.ref) = (z :: as).map V.ref := rfl
      have hlast := at_neg1 (xs := (z :: as).map V.ref) (n := as.length) (v := .ref b) (by simp) (by rw [List.getElem?_map, hb]; rfl)
      exact hlast
    · walk_at "go"
      have s1 : Same H (upd H' d (.lst ([V.ref z] ++ as.map V.ref))) := by walk_at "fr"
      exact h b _ s1 (by walk_at "hp")
end
end Rd

namespace Rd
open PySem L2
section
variable {P : Program} {w : World} {K : PySem.W.Frag} {mg : Str → Option Value} {base : Heap}
theorem FunAt.void {x : Str} {st : Stmt} {ps : List Str} (F : FunAt K mg x st) (bo : BindOk x st ps) : Has P w K mg base CX0 0 x (fun _ _ _ _ => False) := by
  obtain ⟨f, fd, F, hm⟩ := F.ex
  exact ⟨f, fd, ps, ⟨fun _ _ _ _ h => h.elim, fun _ _ _ _ _ _ _ _ _ _ _ _ _ h => h.elim⟩, hm, F.kp, F.binds bo⟩
/-- asked of the same data twice: True -/
def spSame : Nat → Sp
  | 0 => fun _ _ _ _ => False
  | n + 1 => fun vs H Q _ => ∃ (x y : V) (d : PyData), vs = [x, y] ∧ Is H x d ∧ Is H y d ∧ Fl n d ∧ ∀ H', Same H H' → Q (.bl true) H'
theorem spSame_i {n : Nat} {x y : V} {d : PyData} {H : Hp} {Q : VK} {E : XK} (hx : Is H x d) (hy : Is H y d) (f : Fl n d) (k : ∀ H', Same H H' → Q (.bl true) H') : spSame (n + 1) [x, y] H Q E := ⟨x, y, d, rfl, hx, hy, f, k⟩
theorem Fl.get {n i : Nat} {ds : List PyData} {d : PyData} (h : PyData.canLayAll0 ds = true ∧ PyData.depthAll ds ≤ n) (e : ds[i]? = some d) : Fl n d := by
  induction ds generalizing i with
  | nil => simp at e
  | cons a r ih =>
    obtain ⟨h1, h2⟩ := h
    rw [PyData.canLayAll0, Bool.and_eq_true] at h1
    rw [PyData.depthAll] at h2
    cases i with
    | zero =>
      cases e
      exact ⟨h1.1, by omega⟩
    | succ i => exact ih (i := i) ⟨h1.2, by omega⟩ (by simpa using e)
set_option maxHeartbeats 8000000 in
theorem ok_law_same (B : Bl mg) (F : FunAt K mg "_law_same" s_law_same) : ∀ n, Has P w K mg base CX0 n "_law_same" (spSame n)
  | 0 => F.void bo_law_same
  | n + 1 => by
    have H_law_same : Has P w K mg base CX0 n "_law_same" (spSame n) := ok_law_same B F n
    refine F.ok sc_law_same bo_law_same (fun vs H Q E h => ?_) (fun f cdv A outer s H vs Q E hr h => ?_)
    · obtain ⟨x, y, d, rfl, _⟩ := h
      rfl
    · obtain ⟨x, y, d, rfl, hx, hy, hf, k⟩ := h
      refine ⟨_, (pss_cons (ps_if (pt_val (pe_callB (kcc_isi (K := K) rfl) rfl B.isinstance (by decide +kernel) (pa_cons (pv 1) (pa_cons (pe_tup (pa_cons (pe_bltn rfl B.tuple (by decide +kernel) (v := .ty "tuple") rfl) (pa_cons (pe_bltn rfl B.list (by decide +kernel) (v := .ty "list") rfl) pa_nil))) pa_nil)))) (pss_cons (ps_if (PW.pt (pw_or (pt_not (pt_val (pe_callB (kcc_isi (K := K) rfl) rfl B.isinstance (by decide +kernel) (pa_cons (pv 0) (pa_cons (pe_tup (pa_cons (pe_bltn rfl B.tuple (by decide +kernel) (v := .ty "tuple") rfl) (pa_cons (pe_bltn rfl B.list (by decide +kernel) (v := .ty "list") rfl) pa_nil))) pa_nil))))) (pw_or1 (pt_cmpR (kop_ne (K := K) rfl hr.units) (pe_callB (kcc_isi (K := K) rfl) rfl B.isinstance (by decide +kernel) (pa_cons (pv 0) (pa_cons (pe_bltn rfl B.list (by decide +kernel) (v := .ty "list") rfl) pa_nil))) (pe_callB (kcc_isi (K := K) rfl) rfl B.isinstance (by decide +kernel) (pa_cons (pv 1) (pa_cons (pe_bltn rfl B.list (by decide +kernel) (v := .ty "list") rfl) pa_nil))) (nomark _))))) (pss_one (ps_ret pe_bl)) pss_nil)
 (pss_cons (ps_if (pt_cmpR (kop_ne (K := K) rfl hr.units) (pe_callB (kc_len (K := K) rfl) rfl B.len (by decide +kernel) (pa_cons (pv 0) pa_nil)) (pe_callB (kc_len (K := K) rfl) rfl B.len (by decide +kernel) (pa_cons (pv 1) pa_nil)) (nomark _)) (pss_one (ps_ret pe_bl)) pss_nil)
 (pss_one (ps_ret (pe_cmpR (kop_eq (K := K) rfl hr.units) (pe_lc (own := [("_law_k", 2)]) (g := (gName 2)) rfl sc_law_same.nd (pi_range1 rfl B.range (pa_cons (pe_callB (kc_len (K := K) rfl) rfl B.len (by decide +kernel) (pa_cons (pv 1) pa_nil)) pa_nil)) (blkOk_by (N := ["_law_found", "_law_due", "_law_k"]) (sc := defScope s_law_same) (own := [("_law_k", 2)]) (by decide +kernel)) (fun _ _ _ _ _ => (pg_name (i := 2) sc_law_same.nd rfl (by first | exact Or.inl rfl | exact Or.inr rfl))) (fun _ _ _ _ _ => (pts_one (pt_not (pt_val (pe_has H_law_same hr (by omega) rfl pass0 (pa_cons (pe_ix (kix (K := K) rfl) (pv 0) (pv 2) (fun _ _ => rfl)) (pa_cons (pe_ix (kix (K := K) rfl) (pv 1) (pv 2) (fun _ _ => rfl)) pa_nil))))))) (fun _ _ _ _ _ => (pv 2))) (pe_lst pa_nil) (nomark _)))))) pss_nil)
 (pss_cons (ps_if (pt_cmpR op_isN (pv 1) pe_non (nomark _)) (pss_one (ps_ret (pe_cmpR op_isN (pv 0) pe_non (nomark _)))) pss_nil)
 (pss_cons (ps_if (pt_val (pe_callB (kcc_isi (K := K) rfl) rfl B.isinstance (by decide +kernel) (pa_cons (pv 1) (pa_cons (pe_bltn rfl B.str (by decide +kernel) (v := .ty "str") rfl) pa_nil)))) (pss_one (ps_ret (pe_and (pe_callB (kcc_isi (K := K) rfl) rfl B.isinstance (by decide +kernel) (pa_cons (pv 0) (pa_cons (pe_bltn rfl B.str (by decide +kernel) (v := .ty "str") rfl) pa_nil))) (pe_one (pe_cmpR (kop_eq (K := K) rfl hr.units) (pv 0) (pv 1) (nomark _)))))) pss_nil)
 (pss_cons (ps_if (PW.pt (pw_or (pt_val (pe_callB (kcc_isi (K := K) rfl) rfl B.isinstance (by decide +kernel) (pa_cons (pv 1) (pa_cons (pe_bltn rfl B.bool (by decide +kernel) (v := .ty "bool") rfl) pa_nil)))) (pw_or1 (pt_val (pe_callB (kcc_isi (K := K) rfl) rfl B.isinstance (by decide +kernel) (pa_cons (pv 0) (pa_cons (pe_bltn rfl B.bool (by decide +kernel) (v := .ty "bool") rfl) pa_nil))))))) (pss_one (ps_ret (pe_and (pe_callB (kcc_isi (K := K) rfl) rfl B.isinstance (by decide +kernel) (pa_cons (pv 1) (pa_cons (pe_bltn rfl B.bool (by decide +kernel) (v := .ty "bool") rfl) pa_nil))) (pe_and (pe_callB (kcc_isi (K := K) rfl) rfl B.isinstance (by decide +kernel) (pa_cons (pv 0) (pa_cons (pe_bltn rfl B.bool (by decide +kernel) (v := .ty "bool") rfl) pa_nil))) (pe_one (pe_cmpR (kop_eq (K := K) rfl hr.units) (pv 0) (pv 1) (nomark _))))))) pss_nil)
 (pss_one (ps_ret (pe_and (pe_callB (kcc_isi (K := K) rfl) rfl B.isinstance (by decide +kernel) (pa_cons (pv 0) (pa_cons (pe_bltn rfl B.int (by decide +kernel) (v := .ty "int") rfl) pa_nil))) (pe_one (pe_cmpR (kop_eq (K := K) rfl hr.units) (pv 0) (pv 1) (nomark _)))))))))), ?_⟩
      refine r_start (σ' := [some x, some y, none]) rfl ?_
      cases d with
      | dict kvs => cases hx
      | none =>
        cases hx
        cases hy
        walk_at "go"
        intro t nt
        walk_at "go"
        refine r_isi2 upd_same (.base .non) (b1 := false) (b2 := false) (by decide +kernel) (by decide +kernel) ?_
        walk_at "go"
        refine iteF ?_
        walk_at "go"
        refine ⟨rfl, ?_⟩
        walk_at "go"
        refine iteDT rfl ?_
        walk_at "go"
        exact ⟨rfl, k _ (same_new nt)⟩
      | bool v =>
        cases hx
        cases hy
        walk_at "go"
        intro t nt
        walk_at "go"
        refine r_isi2 upd_same (.base (.bl v)) (b1 := false) (b2 := false) (by decide +kernel) (by decide +kernel) ?_
        walk_at "go"
        refine iteF ?_
        walk_at "go"
        refine ⟨rfl, ?_⟩
        walk_at "go"
        refine iteDF (by simp) ?_
        walk_at "go"
        refine r_isi (.base (.bl v)) (b := false) (by decide +kernel) ?_
        walk_at "go"
        refine iteF ?_
        walk_at "go"
        refine r_isi (.base (.bl v)) (b := true) (by decide +kernel) ?_
        walk_at "go"
        refine iteT ?_
        walk_at "go"
        refine iteT ?_
        walk_at "go"
        refine r_isi (.base (.bl v)) (b := true) (by decide +kernel) ?_
        walk_at "go"
        refine iteT ?_
        walk_at "go"
        refine r_isi (.base (.bl v)) (b := true) (by decide +kernel) ?_
        walk_at "go"
        refine iteT ?_
        walk_at "go"
        rw [decide_eq_true rfl]
        exact k _ (same_new nt)
      | int v =>
        cases hx
        cases hy
        walk_at "go"
        intro t nt
        walk_at "go"
        refine r_isi2 upd_same (.base (.int v)) (b1 := false) (b2 := false) (by decide +kernel) (by decide +kernel) ?_
        walk_at "go"
        refine iteF ?_
        walk_at "go"
        refine ⟨rfl, ?_⟩
        walk_at "go"
        refine iteDF (by simp) ?_
        walk_at "go"
        refine r_isi (.base (.int v)) (b := false) (by decide +kernel) ?_
        walk_at "go"
        refine iteF ?_
        walk_at "go"
        refine r_isi (.base (.int v)) (b := false) (by decide +kernel) ?_
        walk_at "go"
        refine iteF ?_
        walk_at "go"
        refine r_isi (.base (.int v)) (b := false) (by decide +kernel) ?_
        walk_at "go"
        refine iteF ?_
        walk_at "go"
        refine r_isi (.base (.int v)) (b := true) (by decide +kernel) ?_
        walk_at "go"
        refine iteT ?_
        walk_at "go"
        rw [decide_eq_true rfl]
        exact k _ (same_new nt)
      | str v =>
        cases hx
        cases hy
        walk_at "go"
        intro t nt
        walk_at "go"
        refine r_isi2 upd_same (.base (.str v)) (b1 := false) (b2 := false) (by decide +kernel) (by decide +kernel) ?_
        walk_at "go"
        refine iteF ?_
        walk_at "go"
        refine ⟨rfl, ?_⟩
        walk_at "go"
        refine iteDF (by simp) ?_
        walk_at "go"
        refine r_isi (.base (.str v)) (b := true) (by decide +kernel) ?_
        walk_at "go"
        refine iteT ?_
        walk_at "go"
        refine r_isi (.base (.str v)) (b := true) (by decide +kernel) ?_
        walk_at "go"
        refine iteT ?_
        walk_at "go"
        refine .inl ⟨rfl, ?_⟩
        rw [decide_eq_true rfl]
        exact k _ (same_new nt)
      | list ds =>
        cases hx with
        | lst ha hxs =>
        rename_i a xs
        cases hy with
        | lst hb hys =>
        rename_i b ys
        have hd : PyData.canLayAll0 ds = true ∧ PyData.depthAll ds + 1 ≤ n := by
          have h1 := hf.1
          have h2 := hf.2
          rw [PyData.canLay0] at h1
          rw [PyData.depth] at h2
          exact ⟨h1, h2⟩
        obtain ⟨n', rfl⟩ : ∃ n', n = n' + 1 := ⟨n - 1, by omega⟩
        walk_at "go"
        intro t nt
        walk_at "go"
        refine r_isi2 upd_same (.base (.lst (at_new nt hb))) (b1 := false) (b2 := true) (by decide +kernel) (by decide +kernel) ?_
        walk_at "go"
        refine iteT ?_
        walk_at "go"
        intro t2 nt2
        walk_at "go"
        refine r_isi2 upd_same (.base (.lst (at_new nt2 (at_new nt ha)))) (b1 := false) (b2 := true) (by decide +kernel) (by decide +kernel) ?_
        walk_at "go"
        refine iteF ?_
        walk_at "go"
        refine r_isi (.base (.lst (at_new nt2 (at_new nt ha)))) (b := true) (by decide +kernel) ?_
        walk_at "go"
        refine r_isi (.base (.lst (at_new nt2 (at_new nt hb)))) (b := true) (by decide +kernel) ?_
        walk_at "go"
        refine iteF ?_
        walk_at "go"
        have hlen : xs.length = ys.length := by rw [hxs.len, hys.len]
        refine iteNF (by rw [hlen]) ?_
        walk_at "go"
        have s2 : Same H (upd (upd H t (.tup [.ty "tuple", .ty "list"])) t2 (.tup [.ty "tuple", .ty "list"])) := (same_new nt).trans (same_new nt2)
        generalize upd (upd H t (.tup [.ty "tuple", .ty "list"])) t2 (.tup [.ty "tuple", .ty "list"]) = H2 at s2 ⊢
        refine ⟨_, rfl, by omega, by omega, fun D nD => lcw_range (σw := [some (.ref a), some (.ref b), none]) (fun i H3 => Same H H3 ∧ H3 D = some (.lst [])) rfl ⟨s2.trans (same_new nD), upd_same⟩ (fun i H3 hi h3 => ?_) fun H3 h3 => ?_⟩
        · obtain ⟨s3, hD⟩ := h3
          walk_at "go"
          refine ⟨rfl, ?_⟩
          have hi' : i < ds.length := by rw [← hys.len]; simpa using hi
          obtain ⟨u, d1, g1, g2, g3⟩ := hxs.get hi'
          obtain ⟨v, d2, g4, g5, g6⟩ := hys.get hi'
          have e12 : d2 = d1 := Option.some.inj (g5.symm.trans g2)
          subst e12
          walk_at "go"
          refine r_ix (.inl (SqL.of (s3 _ _ ha))) (at_of (j := i) (by omega) g1) ?_
          walk_at "go"
          refine r_ix (.inl (SqL.of (s3 _ _ hb))) (at_of (j := i) (by omega) g4) ?_
          walk_at "go"
          refine spSame_i (Is.mono s3 _ _ g3) (Is.mono s3 _ _ g6) (Fl.get ⟨hd.1, by omega⟩ g2) fun H4 s4 => ?_
          walk_at "go"
          refine iteF ?_
          exact ⟨s3.trans s4, s4 _ _ hD⟩
        · obtain ⟨s3, hD⟩ := h3
          walk_at "go"
          intro e ne
          walk_at "go"
          refine r_eqIs (d := .list []) (n := 1) (.lst (at_new ne hD) .nil) (.lst upd_same .nil) (Fl.list (by simp)) ?_
          walk_at "go"
          exact k _ (s3.trans (same_new ne))
      | tuple ds =>
        cases hx with
        | tup ha hxs =>
        rename_i a xs
        cases hy with
        | tup hb hys =>
        rename_i b ys
        have hd : PyData.canLayAll0 ds = true ∧ PyData.depthAll ds + 1 ≤ n := by
          have h1 := hf.1
          have h2 := hf.2
          rw [PyData.canLay0] at h1
          rw [PyData.depth] at h2
          exact ⟨h1, h2⟩
        obtain ⟨n', rfl⟩ : ∃ n', n = n' + 1 := ⟨n - 1, by omega⟩
        walk_at "go"
        intro t nt
        walk_at "go"
        refine r_isi2 upd_same (.base (.tup (at_new nt hb))) (b1 := true) (b2 := false) (by decide +kernel) (by decide +kernel) ?_
        walk_at "go"
        refine iteT ?_
        walk_at "go"
        intro t2 nt2
        walk_at "go"
        refine r_isi2 upd_same (.base (.tup (at_new nt2 (at_new nt ha)))) (b1 := true) (b2 := false) (by decide +kernel) (by decide +kernel) ?_
        walk_at "go"
        refine iteF ?_
        walk_at "go"
        refine r_isi (.base (.tup (at_new nt2 (at_new nt ha)))) (b := false) (by decide +kernel) ?_
        walk_at "go"
        refine r_isi (.base (.tup (at_new nt2 (at_new nt hb)))) (b := false) (by decide +kernel) ?_
        walk_at "go"
        refine iteF ?_
        walk_at "go"
        have hlen : xs.length = ys.length := by rw [hxs.len, hys.len]
        refine iteNF (by rw [hlen]) ?_
        walk_at "go"
        have s2 : Same H (upd (upd H t (.tup [.ty "tuple", .ty "list"])) t2 (.tup [.ty "tuple", .ty "list"])) := (same_new nt).trans (same_new nt2)
        generalize upd (upd H t (.tup [.ty "tuple", .ty "list"])) t2 (.tup [.ty "tuple", .ty "list"]) = H2 at s2 ⊢
        refine ⟨_, rfl, by omega, by omega, fun D nD => lcw_range (σw := [some (.ref a), some (.ref b), none]) (fun i H3 => Same H H3 ∧ H3 D = some (.lst [])) rfl ⟨s2.trans (same_new nD), upd_same⟩ (fun i H3 hi h3 => ?_) fun H3 h3 => ?_⟩
        · obtain ⟨s3, hD⟩ := h3
          walk_at "go"
          refine ⟨rfl, ?_⟩
          have hi' : i < ds.length := by rw [← hys.len]; simpa using hi
          obtain ⟨u, d1, g1, g2, g3⟩ := hxs.get hi'
          obtain ⟨v, d2, g4, g5, g6⟩ := hys.get hi'
          have e12 : d2 = d1 := Option.some.inj (g5.symm.trans g2)
          subst e12
          walk_at "go"
          refine r_ix (.inr (SqT.of (s3 _ _ ha))) (at_of (j := i) (by omega) g1) ?_
          walk_at "go"
          refine r_ix (.inr (SqT.of (s3 _ _ hb))) (at_of (j := i) (by omega) g4) ?_
          walk_at "go"
          refine spSame_i (Is.mono s3 _ _ g3) (Is.mono s3 _ _ g6) (Fl.get ⟨hd.1, by omega⟩ g2) fun H4 s4 => ?_
          walk_at "go"
          refine iteF ?_
          exact ⟨s3.trans s4, s4 _ _ hD⟩
        · obtain ⟨s3, hD⟩ := h3
          walk_at "go"
          intro e ne
          walk_at "go"
          refine r_eqIs (d := .list []) (n := 1) (.lst (at_new ne hD) .nil) (.lst upd_same .nil) (Fl.list (by simp)) ?_
          walk_at "go"
          exact k _ (s3.trans (same_new ne))
end
end Rd

namespace Rd
open PySem L2
section
variable {P : Program} {w : World} {K : PySem.W.Frag} {mg : Str → Option Value} {base : Heap}
def lx (p : Int) (x : Int × Int) (k : Int) : Int × Int := (x.1 + k, lb p x.1 x.2 k)
theorem lx_nx {p : Int} {x : Int × Int} (h : Stg p x) (k : Int) : lx p x k = nx p x k := by
  unfold lx nx
  rw [lb_pb h.1 h.2]
def spLB : Sp := fun vs H Q _ => ∃ (g : Addr) (r p : Int) (z : Addr) (x : Int × Int) (k : Int), vs = [.ref g, .ref z, .int k] ∧ H g = some (.tup [.int r, .int p]) ∧ H z = some (.tup [.int x.1, .int x.2]) ∧
  ∀ (q : Addr) (H' : Hp), H q = none → Same H H' → H' q = some (.tup [.int (lx p x k).1, .int (lx p x k).2]) → Q (.ref q) H'
theorem spLB_i {g z : Addr} {r p k : Int} {x : Int × Int} {H : Hp} {Q : VK} {E : XK} (hg : H g = some (.tup [.int r, .int p])) (hz : H z = some (.tup [.int x.1, .int x.2]))
    (h : ∀ (q : Addr) (H' : Hp), H q = none → Same H H' → H' q = some (.tup [.int (lx p x k).1, .int (lx p x k).2]) → Q (.ref q) H') : spLB [.ref g, .ref z, .int k] H Q E := ⟨g, r, p, z, x, k, rfl, hg, hz, h⟩
theorem ok_law_behind (B : Bl mg) (F : FunAt K mg "_law_behind" s_law_behind) : Has P w K mg base CX0 1 "_law_behind" spLB := by
  refine F.ok sc_law_behind bo_law_behind (fun vs H Q E h => ?_) (fun f cdv A outer s H vs Q E hr h => ?_)
  · obtain ⟨g, r, p, z, x, k, rfl, _⟩ := h
    rfl
  · obtain ⟨g, r, p, z, x, k, rfl, hg, hz, h⟩ := h
    refine ⟨_, (pss_cons (ps_asg (pv 1) (kpg_tup (K := K) rfl rfl (pgs_cons (pg_name (i := 3) sc_law_behind.nd rfl (by first | exact Or.inl rfl | exact Or.inr rfl)) (pgs_cons (pg_name (i := 4) sc_law_behind.nd rfl (by first | exact Or.inl rfl | exact Or.inr rfl)) pgs_nil))))
 (pss_cons (ps_if (pt_cmpR op_gt (pv 2) pe_int (nomark _)) (pss_cons (ps_set (i := 5) sc_law_behind.nd rfl (by first | exact Or.inl rfl | exact Or.inr rfl) (pe_op op_sub (pe_ix (kix (K := K) rfl) (pv 0) pe_int (fun _ _ => rfl)) (pe_op op_sub (pv 3) (pv 4))))
 (pss_one (ps_ret (pe_tup (pa_cons (pe_op (kop_add (K := K) rfl) (pv 3) (pv 2)) (pa_cons (pe_op (kop_add (K := K) rfl) (pv 4) (pe_callB (kc_max (K := K) rfl rfl) rfl B.max (by decide +kernel) (pa_cons pe_int (pa_cons (pe_op op_sub (pv 2) (pv 5)) pa_nil)))) pa_nil)))))) pss_nil)
 (pss_cons (ps_set (i := 5) sc_law_behind.nd rfl (by first | exact Or.inl rfl | exact Or.inr rfl) (pe_op op_sub (pv 3) (pv 4)))
 (pss_one (ps_ret (pe_tup (pa_cons (pe_op (kop_add (K := K) rfl) (pv 3) (pv 2)) (pa_cons (pe_op (kop_add (K := K) rfl) (pv 4) (pe_callB (kc_min (K := K) rfl rfl) rfl B.min (by decide +kernel) (pa_cons pe_int (pa_cons (pe_op (kop_add (K := K) rfl) (pv 2) (pv 5)) pa_nil)))) pa_nil)))))))), ?_⟩
    refine r_start (σ' := [some (.ref g), some (.ref z), some (.int k), none, none, none]) rfl ?_
    walk_at "go"
    refine iteD (fun hk => ?_) (fun hk => ?_)
    · walk_at "go"
      intro q nq
      walk_at "go"
      refine h q _ nq (same_new nq) ?_
      rw [upd_same]
      unfold lx lb
      rw [if_pos hk]
    · walk_at "go"
      intro q nq
      walk_at "go"
      refine h q _ nq (same_new nq) ?_
      rw [upd_same]
      unfold lx lb
      rw [if_neg hk]
end
end Rd

namespace Rd
open PySem L2 LamX
section
variable {P : Program} {w : World} {K : PySem.W.Frag} {mg : Str → Option Value} {base : Heap}
theorem Tabs.fr {T : List (Addr × Str)} {H H' : Hp} (t : Tabs T H) (R : Fr H H') : Tabs T H' := fun p hp => by
  obtain ⟨ps, h1, h2, h3⟩ := t p hp
  refine ⟨ps, R _ _ h1 (fun _ _ _ _ h => nomatch h), h2, fun pos cv hc => ?_⟩
  obtain ⟨c, e1, e2⟩ := h3 pos cv hc
  exact ⟨c, e1, R _ _ e2 (fun _ _ _ _ h => nomatch h)⟩
theorem ExtN.at_tup {H H' : Hp} {g : Addr} {xs : List V} (e : ExtN H H') (h : H g = some (.tup xs)) : H' g = some (.tup xs) := e _ _ h fun ps z => nomatch z
theorem ExtN.at_lst {H H' : Hp} {g : Addr} {xs : List V} (e : ExtN H H') (h : H g = some (.lst xs)) : H' g = some (.lst xs) := e _ _ h fun ps z => nomatch z
theorem ExtN.st {H H' : Hp} {st a : Addr} (e : ExtN H H') (s : St H st a) : St H' st a := by
  obtain ⟨i, m, r, h, q⟩ := s
  exact ⟨i, m, r, ExtN.at_lst e h, q⟩
def chs (r p : Int) (x : Int × Int) (goal : Int) : List Int := if (goal - x.2) % r = 0 then [0] else [x.2 + (goal - x.2) % r + p - x.1, x.2 + (goal - x.2) % r - r - x.1]
theorem chs_pos (r p : Int) (x : Int × Int) (goal : Int) : 0 < (chs r p x goal).length := by
  unfold chs
  split
  · exact Nat.succ_pos _
  · exact Nat.succ_pos _
def spGoals (K : PySem.W.Frag) : Sp := fun vs H Q _ => ∃ (g : Addr) (r p : Int) (z : Addr) (x : Int × Int) (l : Addr) (gs : List Int) (most : Int), vs = [.ref g, .ref z, .ref l, .int most] ∧ GearAt H g r p ∧ H z = some (.tup [.int x.1, .int x.2]) ∧ Stg p x ∧ SqL K H l (gs.map V.int) ∧
  (gs.length : Int) ≤ most ∧ gs.length ≤ 1000 ∧ (∀ y ∈ gs, 0 ≤ y ∧ y < r) ∧ ∀ H', Same H H' → Q .non H'
theorem spGoals_i {g z l : Addr} {r p most : Int} {x : Int × Int} {gs : List Int} {H : Hp} {Q : VK} {E : XK} (G : GearAt H g r p) (hz : H z = some (.tup [.int x.1, .int x.2])) (hs : Stg p x) (hl : SqL K H l (gs.map V.int)) (hm : (gs.length : Int) ≤ most) (h1 : gs.length ≤ 1000) (hg : ∀ y ∈ gs, 0 ≤ y ∧ y < r)
    (k : ∀ H', Same H H' → Q .non H') : spGoals K [.ref g, .ref z, .ref l, .int most] H Q E := ⟨g, r, p, z, x, l, gs, most, rfl, G, hz, hs, hl, hm, h1, hg, k⟩
theorem ok_need_goals (B : Bl mg) (F : FunAt K mg "need_goals" s_need_goals) (H_need_standing : Has P w K mg base CX0 2 "need_standing" spNS) : Has P w K mg base CX0 3 "need_goals" (spGoals K) := by
  refine F.ok sc_need_goals bo_need_goals (fun vs H Q E h => ?_) (fun f cdv A outer s H vs Q E hr h => ?_)
  · obtain ⟨g, r, p, z, x, l, gs, most, rfl, _⟩ := h
    rfl
  · obtain ⟨g, r, p, z, x, l, gs, most, rfl, G, hz, hs, hl, hm, h1, hg, k⟩ := h
    refine ⟨_, (pss_cons (ps_expr (pe_has H_need_standing hr (by omega) rfl pass0 (pa_cons (pv 0) (pa_cons (pv 1) pa_nil))))
 (pss_one (ps_if (PW.pt (pw_or (pt_cmpR op_gt (pe_callB (kc_len (K := K) rfl) rfl B.len (by decide +kernel) (pa_cons (pv 2) pa_nil)) (pv 3) (nomark _)) (pw_or1 (pt_cmpR (kop_ne (K := K) rfl hr.units) (pe_lc (own := [("goal", 4)]) (g := (gName 4)) rfl sc_need_goals.nd (kpi_list (K := K) rfl (pv 2)) (blkOk_by (N := ["gear", "standing", "goals", "most", "goal"]) (sc := defScope s_need_goals) (own := [("goal", 4)]) (by decide +kernel)) (fun _ _ _ _ _ => (pg_name (i := 4) sc_need_goals.nd rfl (by first | exact Or.inl rfl | exact Or.inr rfl))) (fun _ _ _ _ _ => (pts_one (pt_not (pt_chain op_le op_lt pe_int (pv 4) (pe_ix (kix (K := K) rfl) (pv 0) pe_int (fun _ _ => rfl)))))) (fun _ _ _ _ _ => (pv 4))) (pe_lst pa_nil) (nomark _))))) (pss_one ps_never) pss_nil))), ?_⟩
    refine r_start (σ' := [some (.ref g), some (.ref z), some (.ref l), some (.int most), none]) rfl ?_
    walk_at "go"
    refine spNS_i G hz hs ?_
    walk_at "go"
    rw [List.length_map]
    refine iteDF (by omega) ?_
    walk_at "go"
    refine ⟨_, rfl, ⟨_, hl⟩, fun D nD => lcw_list (K := K) (a := l) (xs := gs.map V.int) (σw := [some (.ref g), some (.ref z), some (.ref l), some (.int most), none])
      (fun n H8 => Same H H8 ∧ H8 D = some (.lst [])) rfl ⟨same_new nD, upd_same⟩ (fun n H8 _ h => h.1.seq hl) (fun n y H8 hn h => ?_) fun H8 h => ?_⟩
    · obtain ⟨h8, hD⟩ := h
      obtain ⟨v, hv, rfl⟩ := map_at hn
      have hb := hg v (List.mem_of_getElem? hv)
      walk_at "go"
      refine ⟨rfl, ?_⟩
      walk_at "go"
      refine iteDT hb.1 ?_
      walk_at "go"
      refine r_ix (.inr (SqT.of (h8 _ _ G.at_))) (v := .int r) rfl ?_
      walk_at "go"
      refine iteNF hb.2 ?_
      walk_at "go"
      exact ⟨h8, hD⟩
    · obtain ⟨h8, hD⟩ := h
      walk_at "go"
      intro t nt
      refine r_neNil (ns := []) (at_new nt hD) upd_same ?_
      walk_at "go"
      refine iteF ?_
      walk_at "go"
      exact k _ (h8.trans (same_new nt))
def spChoices : Sp := fun vs H Q _ => ∃ (g : Addr) (r p : Int) (z : Addr) (x : Int × Int) (goal : Int), vs = [.ref g, .ref z, .int goal] ∧ H g = some (.tup [.int r, .int p]) ∧ 0 < r ∧ H z = some (.tup [.int x.1, .int x.2]) ∧
  ∀ (q : Addr) (H' : Hp), H q = none → Same H H' → H' q = some (.lst ((chs r p x goal).map V.int)) → Q (.ref q) H'
theorem spChoices_i {g z : Addr} {r p goal : Int} {x : Int × Int} {H : Hp} {Q : VK} {E : XK} (hg : H g = some (.tup [.int r, .int p])) (h0 : 0 < r) (hz : H z = some (.tup [.int x.1, .int x.2]))
    (k : ∀ (q : Addr) (H' : Hp), H q = none → Same H H' → H' q = some (.lst ((chs r p x goal).map V.int)) → Q (.ref q) H') : spChoices [.ref g, .ref z, .int goal] H Q E := ⟨g, r, p, z, x, goal, rfl, hg, h0, hz, k⟩
theorem ok_choices (F : FunAt K mg "choices" s_choices) : Has P w K mg base CX0 1 "choices" spChoices := by
  refine F.ok sc_choices bo_choices (fun vs H Q E h => ?_) (fun f cdv A outer s H vs Q E hr h => ?_)
  · obtain ⟨g, r, p, z, x, goal, rfl, _⟩ := h
    rfl
  · obtain ⟨g, r, p, z, x, goal, rfl, hg, h0, hz, k⟩ := h
    refine ⟨_, (pss_cons (ps_asg (pv 0) (kpg_tup (K := K) rfl rfl (pgs_cons (pg_name (i := 3) sc_choices.nd rfl (by first | exact Or.inl rfl | exact Or.inr rfl)) (pgs_cons (pg_name (i := 4) sc_choices.nd rfl (by first | exact Or.inl rfl | exact Or.inr rfl)) pgs_nil))))
 (pss_cons (ps_asg (pv 1) (kpg_tup (K := K) rfl rfl (pgs_cons (pg_name (i := 5) sc_choices.nd rfl (by first | exact Or.inl rfl | exact Or.inr rfl)) (pgs_cons (pg_name (i := 6) sc_choices.nd rfl (by first | exact Or.inl rfl | exact Or.inr rfl)) pgs_nil))))
 (pss_cons (ps_set (i := 7) sc_choices.nd rfl (by first | exact Or.inl rfl | exact Or.inr rfl) (pe_op op_mod (pe_op op_sub (pv 2) (pv 6)) (pv 3)))
 (pss_cons (ps_if (pt_cmpR (kop_eq (K := K) rfl hr.units) (pv 7) pe_int (nomark _)) (pss_one (ps_ret (pe_lst (pa_cons pe_int pa_nil)))) pss_nil)
 (pss_one (ps_ret (pe_lst (pa_cons (pe_op op_sub (pe_op (kop_add (K := K) rfl) (pe_op (kop_add (K := K) rfl) (pv 6) (pv 7)) (pv 4)) (pv 5)) (pa_cons (pe_op op_sub (pe_op op_sub (pe_op (kop_add (K := K) rfl) (pv 6) (pv 7)) (pv 3)) (pv 5)) pa_nil))))))))), ?_⟩
    refine r_start (σ' := [some (.ref g), some (.ref z), some (.int goal), none, none, none, none, none]) rfl ?_
    walk_at "go"
    refine r_I h0 ?_
    walk_at "go"
    refine iteD (fun c => ?_) (fun c => ?_)
    · walk_at "go"
      intro q nq
      walk_at "go"
      refine k q _ nq (same_new nq) ?_
      rw [upd_same, chs, if_pos c]
      rfl
    · walk_at "go"
      intro q nq
      walk_at "go"
      refine k q _ nq (same_new nq) ?_
      rw [upd_same, chs, if_neg c]
      rfl
/-- the fewest steps: what to tells -/
def Few (r p : Int) (x : Int × Int) (goal v : Int) : Prop := v ∈ chs r p x goal ∧ ∀ y ∈ chs r p x goal, cod v ≤ cod y
def spTo (K : PySem.W.Frag) (T : List (Addr × Str)) : Sp := fun vs H Q _ => ∃ (g : Addr) (r p : Int) (z : Addr) (x : Int × Int) (goal : Int), vs = [.ref g, .ref z, .int goal] ∧ GearAt H g r p ∧ H z = some (.tup [.int x.1, .int x.2]) ∧ Stg p x ∧ 0 ≤ goal ∧ goal < r ∧ Tabs T H ∧
  ∀ (v : Int) (H' : Hp), ExtN H H' → Tabs T H' → Few r p x goal v → Q (.int v) H'
theorem spTo_i {T : List (Addr × Str)} {g z : Addr} {r p goal : Int} {x : Int × Int} {H : Hp} {Q : VK} {E : XK} (G : GearAt H g r p) (hz : H z = some (.tup [.int x.1, .int x.2])) (hs : Stg p x) (h0 : 0 ≤ goal) (h1 : goal < r) (hT : Tabs T H)
    (k : ∀ (v : Int) (H' : Hp), ExtN H H' → Tabs T H' → Few r p x goal v → Q (.int v) H') : spTo K T [.ref g, .ref z, .int goal] H Q E := ⟨g, r, p, z, x, goal, rfl, G, hz, hs, h0, h1, hT, k⟩
theorem ok_to {TT : List (Addr × Str)} {c Pt : Addr} (B : Bl mg) (F : FunTab K mg "to" s_to c Pt) (TB : TabB base mg c Pt) (hmT : (Pt, ("to" ++ ".<locals>." ++ "<lambda>" : Str)) ∈ TT) (huT : ∀ p ∈ TT, p.1 = Pt → p.2 = ("to" ++ ".<locals>." ++ "<lambda>" : Str))
    (H_need_goals : Has P w K mg base CX0 3 "need_goals" (spGoals K)) (H_choices : Has P w K mg base CX0 1 "choices" spChoices) : Has P w K mg base CX0 4 "to" (spTo K TT) := by
  refine F.ok sc_to bo_to (fun vs H Q E h => ?_) (fun f A outer s H vs Q E hr h => ?_)
  · obtain ⟨g, r, p, z, x, goal, rfl, _⟩ := h
    rfl
  · obtain ⟨g, r, p, z, x, goal, rfl, G, hz, hs, h0, h1, hT, k⟩ := h
    refine ⟨_, (pss_cons (ps_expr (pe_has H_need_goals hr (by omega) rfl pass0 (pa_cons (pv 0) (pa_cons (pv 1) (pa_cons (pe_lst (pa_cons (pv 2) pa_nil)) (pa_cons pe_int pa_nil))))))
 (pss_one (ps_ret (pe_minKey (K := K) (T := TT) (k := 0) (a := "steps") rfl rfl B.min (pe_has H_choices hr (by omega) rfl pass0 (pa_cons (pv 0) (pa_cons (pv 1) (pa_cons (pv 2) pa_nil)))) TB rfl hmT huT (hr.mono (by omega)) ⟨rfl, rfl, rfl, by decide +kernel, rfl, by decide +kernel, by decide +kernel⟩ rfl rfl (fun _ _ _ _ _ => rfl) (fun _ _ _ _ _ _ => (pe_tup (pa_cons (pe_callB call_absA rfl B.abs (by decide +kernel) (pa_cons (pv 0) pa_nil)) (pa_cons (pe_op op_sub pe_int (pv 0)) pa_nil)))) (by intro n H Q k; walk_at "go"; intro t nt; exact k t nt))))), ?_⟩
    refine r_start (σ' := [some (.ref g), some (.ref z), some (.int goal)]) rfl ?_
    walk_at "go"
    intro t nt
    walk_at "go"
    refine spGoals_i (gs := [goal]) (G.mono (at_new nt G.at_)) (at_new nt hz) hs (SqL.of upd_same) (Int.le_refl 1) (show 1 ≤ 1000 by decide) (fun y hy => by rw [List.mem_singleton.mp hy]; exact ⟨h0, h1⟩) fun H2 h2 => ?_
    walk_at "go"
    refine r_minKey ?_
    walk_at "go"
    have h02 : Same H H2 := (same_new nt).trans h2
    refine spChoices_i (h02 _ _ G.at_) (by have := G.r2; omega) (h02 _ _ hz) fun q H3 nq h3 hq => ?_
    refine ⟨q, _, rfl, SqL.of hq, chs_pos _ _ _ _, hT.ext (h02.trans h3), fun m H' m1 m2 eN T2 => ?_⟩
    exact k m H' (ExtN.trans (ExtN.of (h02.trans h3)) eN) T2 ⟨m1, m2⟩
end
end Rd

namespace Rd
open PySem L2
def Hit (r p : Int) (x : Int × Int) (goal k : Int) : Prop := ((nx p x k).2 - goal) % r = 0
theorem far_q (r goal s : Int) : ∃ q, goal - s = (goal - s) % r + r * q := ⟨(goal - s) / r, (Int.emod_add_mul_ediv _ _).symm⟩
theorem hit_of {r p goal k q : Int} {x : Int × Int} (h : (nx p x k).2 - goal = r * q) : Hit r p x goal k := by
  unfold Hit
  rw [h]
  exact Int.mul_emod_right r q
theorem hit_q {r p goal k : Int} {x : Int × Int} (h : Hit r p x goal k) : ∃ q, (nx p x k).2 - goal = r * q := by
  refine ⟨((nx p x k).2 - goal) / r, ?_⟩
  have := Int.emod_add_mul_ediv ((nx p x k).2 - goal) r
  unfold Hit at h
  omega
theorem up_nx {p k : Int} {x : Int × Int} (hs : Stg p x) (hp : 0 ≤ p) (h : 0 ≤ k) : (nx p x k).2 = max (x.1 + k - p) x.2 := by
  obtain ⟨a, b⟩ := hs
  unfold nx pb
  dsimp only
  omega
theorem dn_nx {p k : Int} {x : Int × Int} (hs : Stg p x) (hp : 0 ≤ p) (h : k ≤ 0) : (nx p x k).2 = min (x.1 + k) x.2 := by
  obtain ⟨a, b⟩ := hs
  unfold nx pb
  dsimp only
  omega
theorem mul_pos_case {r : Int} (h : 0 < r) (q : Int) : q ≤ -1 ∧ r * q ≤ -r ∨ q = 0 ∧ r * q = 0 ∨ 1 ≤ q ∧ r ≤ r * q := by
  rcases Int.lt_trichotomy q 0 with c | c | c
  · refine .inl ⟨by omega, ?_⟩
    have := Int.mul_le_mul_of_nonneg_left (show q ≤ -1 by omega) (Int.le_of_lt h)
    rw [Int.mul_neg, Int.mul_one] at this
    exact this
  · exact .inr (.inl ⟨c, by rw [c, Int.mul_zero]⟩)
  · refine .inr (.inr ⟨c, ?_⟩)
    have := Int.mul_le_mul_of_nonneg_left (show 1 ≤ q by omega) (Int.le_of_lt h)
    rw [Int.mul_one] at this
    exact this
theorem cod_nn {a : Int} (h : 0 ≤ a) : cod a = 2 * a := by
  unfold cod
  rw [if_neg (by omega)]
  omega
theorem cod_neg {a : Int} (h : a < 0) : cod a = 2 * (-a) + 1 := by
  unfold cod
  rw [if_pos h]
  omega
/-- what the fewest steps are -/
theorem few_facts {r p goal v : Int} {x : Int × Int} (hr : 0 < r) (hp : 0 ≤ p) (hs : Stg p x) (h : v ∈ chs r p x goal ∧ ∀ y ∈ chs r p x goal, cod v ≤ cod y) :
    Hit r p x goal v ∧ (v.natAbs : Int) ≤ r + p ∧ (∀ k, Hit r p x goal k → cod v ≤ cod k) := by
  obtain ⟨hm, hl⟩ := h
  have hs' := hs
  obtain ⟨a, b⟩ := hs'
  have f0 := Int.emod_nonneg (goal - x.2) (show r ≠ 0 by omega)
  have f1 := Int.emod_lt_of_pos (goal - x.2) hr
  obtain ⟨q, hq⟩ := far_q r goal x.2
  unfold chs at hm hl
  by_cases c : (goal - x.2) % r = 0
  · rw [if_pos c] at hm hl
    have e : v = 0 := List.mem_singleton.mp hm
    subst e
    refine ⟨hit_of (q := -q) ?_, by omega, fun k _ => ?_⟩
    · rw [up_nx hs hp (Int.le_refl 0), Int.mul_neg]
      omega
    · unfold cod
      split <;> omega
  · rw [if_neg c] at hm hl
    generalize hf : (goal - x.2) % r = far at *
    have l1 := hl (x.2 + far + p - x.1) (by simp)
    have l2 := hl (x.2 + far - r - x.1) (by simp)
    refine ⟨?_, ?_, fun k hk => ?_⟩
    · rcases List.mem_cons.mp hm with e | hm
      · refine hit_of (q := -q) ?_
        rw [e, up_nx hs hp (by omega), Int.mul_neg]
        omega
      · have e := List.mem_singleton.mp hm
        refine hit_of (q := -q - 1) ?_
        rw [e, dn_nx hs hp (by omega), Int.mul_sub, Int.mul_neg, Int.mul_one]
        omega
    · rcases List.mem_cons.mp hm with e | hm
      · omega
      · have e := List.mem_singleton.mp hm
        omega
    · obtain ⟨q2, hk⟩ := hit_q hk
      rcases Int.lt_or_le k 0 with c2 | c2
      · rw [dn_nx hs hp (by omega)] at hk
        rw [cod_neg c2]
        rw [cod_neg (a := x.2 + far - r - x.1) (by omega)] at l2
        have hh : min (x.1 + k) x.2 - x.2 = far + r * (q + q2) := by rw [Int.mul_add]; omega
        have := mul_pos_case hr (q + q2)
        omega
      · rw [up_nx hs hp c2] at hk
        rw [cod_nn c2]
        rw [cod_nn (a := x.2 + far + p - x.1) (by omega)] at l1
        have hh : max (x.1 + k - p) x.2 - x.2 = far + r * (q + q2) := by rw [Int.mul_add]; omega
        have := mul_pos_case hr (q + q2)
        omega
theorem hit_mod {r p goal k : Int} {x : Int × Int} (h : Hit r p x goal k) (h0 : 0 ≤ goal) (h1 : goal < r) : (nx p x k).2 % r = goal := by
  rw [Int.emod_eq_emod_iff_emod_sub_eq_zero.mpr h, Int.emod_eq_of_lt h0 h1]
/-- the law's own reckoning -/
theorem few_due {r p goal v : Int} {x : Int × Int} (hr : 0 < r) (hp : 0 ≤ p) (hs : Stg p x) (h : v ∈ chs r p x goal ∧ ∀ y ∈ chs r p x goal, cod v ≤ cod y) :
    ((goal - x.2) % r = 0 → v = 0) ∧ (0 < (goal - x.2) % r → ∀ u d, u = (goal - x.2) % r + p - (x.1 - x.2) → d = (x.2 - goal) % r + x.1 - x.2 → (u ≤ d → v = u) ∧ (¬ u ≤ d → v = 0 - d)) := by
  obtain ⟨hm, hl⟩ := h
  obtain ⟨a, b⟩ := hs
  have f0 := Int.emod_nonneg (goal - x.2) (show r ≠ 0 by omega)
  have f1 := Int.emod_lt_of_pos (goal - x.2) hr
  obtain ⟨q, hq⟩ := far_q r goal x.2
  unfold chs at hm hl
  refine ⟨fun c => ?_, fun c u d hu hd => ?_⟩
  · rw [if_pos c] at hm
    exact List.mem_singleton.mp hm
  · rw [if_neg (by omega)] at hm hl
    have e : (x.2 - goal) % r = r - (goal - x.2) % r := by
      have e1 : x.2 - goal = (r - (goal - x.2) % r) + r * (-q - 1) := by
        rw [Int.mul_sub, Int.mul_neg, Int.mul_one]
        omega
      rw [e1, Int.add_mul_emod_self_left]
      exact Int.emod_eq_of_lt (by omega) (by omega)
    generalize hf : (goal - x.2) % r = far at *
    rw [e] at hd
    have l1 := hl (x.2 + far + p - x.1) (by simp)
    have l2 := hl (x.2 + far - r - x.1) (by simp)
    rcases List.mem_cons.mp hm with e | hm
    · subst e
      rw [cod_nn (a := x.2 + far + p - x.1) (by omega), cod_neg (a := x.2 + far - r - x.1) (by omega)] at l2
      exact ⟨fun _ => by omega, fun n => by omega⟩
    · have e := List.mem_singleton.mp hm
      subst e
      rw [cod_nn (a := x.2 + far + p - x.1) (by omega), cod_neg (a := x.2 + far - r - x.1) (by omega)] at l1
      exact ⟨fun n => by omega, fun _ => by omega⟩
end Rd

namespace Rd
open PySem L2
section
variable {P : Program} {w : World} {K : PySem.W.Frag} {mg : Str → Option Value} {base : Heap}
def spTried : Sp := fun vs H Q _ => ∃ (g : Addr) (r p : Int) (z : Addr) (x : Int × Int) (goal v : Int), vs = [.ref g, .ref z, .int goal] ∧ H g = some (.tup [.int r, .int p]) ∧ H z = some (.tup [.int x.1, .int x.2]) ∧ Stg p x ∧ 0 < r ∧ r ≤ 1000000 ∧ 0 ≤ p ∧ p ≤ 1000000 ∧
  (v ∈ chs r p x goal ∧ ∀ y ∈ chs r p x goal, cod v ≤ cod y) ∧ ∀ H', Same H H' → Q (.int v) H'
theorem spTried_i {g z : Addr} {r p goal v : Int} {x : Int × Int} {H : Hp} {Q : VK} {E : XK} (hg : H g = some (.tup [.int r, .int p])) (hz : H z = some (.tup [.int x.1, .int x.2])) (hs : Stg p x) (r0 : 0 < r) (r1 : r ≤ 1000000) (p0 : 0 ≤ p) (p1 : p ≤ 1000000)
    (f : v ∈ chs r p x goal ∧ ∀ y ∈ chs r p x goal, cod v ≤ cod y) (k : ∀ H', Same H H' → Q (.int v) H') : spTried [.ref g, .ref z, .int goal] H Q E := ⟨g, r, p, z, x, goal, v, rfl, hg, hz, hs, r0, r1, p0, p1, f, k⟩
theorem ok_law_tried (B : Bl mg) (F : FunAt K mg "_law_tried" s_law_tried) (H_law_behind : Has P w K mg base CX0 1 "_law_behind" spLB) : Has P w K mg base CX0 2 "_law_tried" spTried := by
  refine F.ok sc_law_tried bo_law_tried (fun vs H Q E h => ?_) (fun f cdv A outer s H vs Q E hr h => ?_)
  · obtain ⟨g, r, p, z, x, goal, v, rfl, _⟩ := h
    rfl
  · obtain ⟨g, r, p, z, x, goal, v, rfl, hg, hz, hs, r0, r1, p0, p1, few, k⟩ := h
    obtain ⟨f1, f2, f3⟩ := few_facts r0 p0 hs few
    refine ⟨_, (pss_cons (ps_for PassesOwn.never rfl (pi_range1 rfl B.range (pa_cons (pe_op (kop_add (K := K) rfl) (pe_op (kop_add (K := K) rfl) (pe_op op_mul pe_int (pe_ix (kix (K := K) rfl) (pv 0) pe_int (fun _ _ => rfl))) (pe_ix (kix (K := K) rfl) (pv 0) pe_int (fun _ _ => rfl))) pe_int) pa_nil)) (pg_name (i := 3) sc_law_tried.nd rfl (by first | exact Or.inl rfl | exact Or.inr rfl)) (pss_one (ps_for PassesOwn.never rfl (kpi_list (K := K) rfl (pe_lst (pa_cons (pv 3) (pa_cons (pe_op op_sub pe_int (pv 3)) pa_nil)))) (pg_name (i := 4) sc_law_tried.nd rfl (by first | exact Or.inl rfl | exact Or.inr rfl)) (pss_one (ps_if (pt_cmpR (kop_eq (K := K) rfl hr.units) (pe_op op_mod (pe_op op_sub (pe_ix (kix (K := K) rfl) (pe_has H_law_behind hr (by omega) rfl pass0 (pa_cons (pv 0) (pa_cons (pv 1) (pa_cons (pv 4) pa_nil)))) pe_int (fun _ _ => rfl)) (pv 2)) (pe_ix (kix (K := K) rfl) (pv 0) pe_int (fun _ _ => rfl))) pe_int (nomark _)) (pss_one (ps_ret (pv 4))) pss_nil)))))
 (pss_one (ps_ret pe_non))), ?_⟩
    refine r_start (σ' := [some (.ref g), some (.ref z), some (.int goal), none, none]) rfl ?_
    walk_at "go"
    refine r_I (.inl ⟨by omega, by omega⟩) ?_
    walk_at "go"
    refine ⟨_, rfl, by omega, by omega, fw_range (fun i σ H2 => ∃ v3 v4, σ = [some (.ref g), some (.ref z), some (.int goal), v3, v4] ∧ Same H H2 ∧ ∀ k, Hit r p x goal k → (i : Int) ≤ k.natAbs) ⟨_, _, rfl, Same.refl _, fun k _ => by omega⟩ ?_ ?_⟩
    · rintro i σ H2 hi ⟨v3, v4, rfl, h2, no⟩
      walk_at "go"
      intro l nl
      walk_at "go"
      have e0 : (0 : Int) + (i : Int) = i := by omega
      rw [e0]
      refine ⟨_, rfl, ⟨_, SqL.of upd_same⟩, fw_list (K := K) (a := l) (xs := [(i : Int), 0 - (i : Int)].map V.int) (fun j σ H3 => ∃ v4, σ = [some (.ref g), some (.ref z), some (.int goal), some (.int i), v4] ∧ Same H H3 ∧ H3 l = some (.lst ([(i : Int), 0 - (i : Int)].map V.int)) ∧
          (1 ≤ j → ¬ Hit r p x goal i) ∧ (2 ≤ j → ¬ Hit r p x goal (0 - i)))
        ⟨_, rfl, h2.trans (same_new nl), upd_same, fun h => by omega, fun h => by omega⟩ (fun j σ H3 _ h => ?_) ?_ ?_⟩
      · obtain ⟨_, _, _, e, _⟩ := h
        exact SqL.of e
      · rintro j y σ H3 hj ⟨v4, rfl, h3, hl3, n1, n2⟩
        obtain ⟨k', hk', rfl⟩ := map_at hj
        walk_at "go"
        refine spLB_i (h3 _ _ hg) (h3 _ _ hz) fun q H4 nq h4 hq => ?_
        rw [lx_nx hs] at hq
        walk_at "go"
        have hg4 := h4 _ _ (h3 _ _ hg)
        walk_at "go"
        refine r_I r0 ?_
        walk_at "go"
        have hcod : (j = 0 ∧ k' = i) ∨ (j = 1 ∧ k' = 0 - i) := by
          match j, hk' with
          | 0, e => exact .inl ⟨rfl, (Option.some.inj e).symm⟩
          | 1, e => exact .inr ⟨rfl, (Option.some.inj e).symm⟩
        refine iteD (fun c => ?_) (fun c => ?_)
        · have hv : v = k' := by
            have a := f3 k' c
            have b := no v f1
            refine cod_inj ?_
            have nv : v = i → ¬ (1 ≤ j) := fun e h => n1 h (by rw [← e]; exact f1)
            unfold cod at a ⊢
            rcases hcod with ⟨e1, e2⟩ | ⟨e1, e2⟩
            · split at a <;> split at a <;> omega
            · split at a <;> split at a <;> omega
          walk_at "go"
          rw [← hv]
          exact k _ (h3.trans h4)
        · walk_at "go"
          refine ⟨_, rfl, h3.trans h4, h4 _ _ hl3, fun h => ?_, fun h => ?_⟩
          · rcases hcod with ⟨e1, e2⟩ | ⟨e1, e2⟩
            · rw [← e2]
              exact c
            · exact n1 (by omega)
          · rcases hcod with ⟨e1, e2⟩ | ⟨e1, e2⟩
            · omega
            · rw [← e2]
              exact c
      · rintro σ H3 ⟨v4, rfl, h3, _, n1, n2⟩
        refine ⟨_, _, rfl, h3, fun k hk => ?_⟩
        have a := no k hk
        by_cases e : (k.natAbs : Int) = i
        · rcases Int.lt_or_le k 0 with c | c
          · have : k = 0 - i := by omega
            subst this
            exact absurd hk (n2 (Nat.le_refl 2))
          · have : k = i := by omega
            subst this
            exact absurd hk (n1 (show 1 ≤ 2 by decide))
        · omega
    · rintro σ H2 ⟨v3, v4, rfl, h2, no⟩
      have a := no v f1
      omega
end
end Rd

namespace Rd
open PySem L2 LamX
section
variable {P : Program} {w : World} {K : PySem.W.Frag} {mg : Str → Option Value} {base : Heap}
set_option maxHeartbeats 8000000 in
theorem ok_law {TT : List (Addr × Str)} {f : Addr} {fd : FuncData} (B : Bl mg) (F : Fun K "law" "law" s_law f fd) (H_law_start : Has P w K mg base CX0 1 "_law_start" (spStart K)) (H_law_drawn : Has P w K mg base CX0 1 "_law_drawn" (spDrawn K))
    (H_law_same : Has P w K mg base CX0 1 "_law_same" (spSame 1)) (H_law_gear : Has P w K mg base CX0 2 "_law_gear" (spGear K)) (H_law_standing : Has P w K mg base CX0 2 "_law_standing" (spStanding K))
    (H_law_tried : Has P w K mg base CX0 2 "_law_tried" spTried) (H_to : Has P w K mg base CX0 4 "to" (spTo K TT)) (H_stands : Has P w K mg base CX0 3 "stands" (spStands K)) :
    FnOk P w K mg base CX0 6 f fd ["_law_script"] (spLawT K TT) := by
  refine F.ok sc_law (fun vs H Q E h => ?_) (fun cdv A outer s H vs Q E hr h => ?_)
  · obtain ⟨a, ns, rfl, _⟩ := h
    rfl
  · obtain ⟨a, ns, rfl, hS, hlen, hT, k⟩ := h
    refine ⟨_, (pss_cons (ps_set (i := 1) sc_law.nd rfl (by first | exact Or.inl rfl | exact Or.inr rfl) (pe_has H_law_start hr (by omega) rfl pass0 (pa_cons (pv 0) pa_nil)))
 (pss_cons (ps_for PassesOwn.never rfl (pi_range1 rfl B.range (pa_cons pe_int pa_nil)) (pg_name (i := 2) sc_law.nd rfl (by first | exact Or.inl rfl | exact Or.inr rfl)) (pss_cons (ps_set (i := 3) sc_law.nd rfl (by first | exact Or.inl rfl | exact Or.inr rfl) (pe_has H_law_gear hr (by omega) rfl pass0 (pa_cons (pv 1) (pa_cons pe_bl pa_nil))))
 (pss_cons (ps_set (i := 4) sc_law.nd rfl (by first | exact Or.inl rfl | exact Or.inr rfl) (pe_has H_law_standing hr (by omega) rfl pass0 (pa_cons (pv 1) (pa_cons (pv 3) pa_nil))))
 (pss_cons (ps_set (i := 5) sc_law.nd rfl (by first | exact Or.inl rfl | exact Or.inr rfl) (pe_has H_law_drawn hr (by omega) rfl pass0 (pa_cons (pv 1) (pa_cons (pe_ix (kix (K := K) rfl) (pv 3) pe_int (fun _ _ => rfl)) pa_nil))))
 (pss_cons (ps_set (i := 6) sc_law.nd rfl (by first | exact Or.inl rfl | exact Or.inr rfl) (pe_has H_to hr (by omega) rfl pass0 (pa_cons (pv 3) (pa_cons (pv 4) (pa_cons (pv 5) pa_nil)))))
 (pss_cons (ps_if (pt_not (pt_val (pe_has H_law_same hr (by omega) rfl pass0 (pa_cons (pv 6) (pa_cons (pe_has H_law_tried hr (by omega) rfl pass0 (pa_cons (pv 3) (pa_cons (pv 4) (pa_cons (pv 5) pa_nil)))) pa_nil))))) (pss_one (ps_ret pe_bl)) pss_nil)
 (pss_cons (ps_if (pt_cmpR (kop_ne (K := K) rfl hr.units) (pe_op op_mod (pe_ix (kix (K := K) rfl) (pe_has H_stands hr (by omega) rfl pass0 (pa_cons (pv 3) (pa_cons (pv 4) (pa_cons (pe_lst (pa_cons (pv 6) pa_nil)) pa_nil)))) pe_int (fun _ _ => rfl)) (pe_ix (kix (K := K) rfl) (pv 3) pe_int (fun _ _ => rfl))) (pv 5) (nomark _)) (pss_one (ps_ret pe_bl)) pss_nil)
 (pss_cons (ps_set (i := 3) sc_law.nd rfl (by first | exact Or.inl rfl | exact Or.inr rfl) (pe_has H_law_gear hr (by omega) rfl pass0 (pa_cons (pv 1) (pa_cons pe_bl pa_nil))))
 (pss_cons (ps_set (i := 4) sc_law.nd rfl (by first | exact Or.inl rfl | exact Or.inr rfl) (pe_has H_law_standing hr (by omega) rfl pass0 (pa_cons (pv 1) (pa_cons (pv 3) pa_nil))))
 (pss_cons (ps_set (i := 5) sc_law.nd rfl (by first | exact Or.inl rfl | exact Or.inr rfl) (pe_ix (kix (K := K) rfl) (pe_lst (pa_cons (pe_has H_law_drawn hr (by omega) rfl pass0 (pa_cons (pv 1) (pa_cons (pe_ix (kix (K := K) rfl) (pv 3) pe_int (fun _ _ => rfl)) pa_nil))) (pa_cons (pe_op op_mod (pe_ix (kix (K := K) rfl) (pv 4) pe_int (fun _ _ => rfl)) (pe_ix (kix (K := K) rfl) (pv 3) pe_int (fun _ _ => rfl))) pa_nil))) (pe_has H_law_drawn hr (by omega) rfl pass0 (pa_cons (pv 1) (pa_cons pe_int pa_nil))) (fun _ _ => rfl)))
 (pss_cons (ps_set (i := 7) sc_law.nd rfl (by first | exact Or.inl rfl | exact Or.inr rfl) (pe_op op_mod (pe_op op_sub (pv 5) (pe_ix (kix (K := K) rfl) (pv 4) pe_int (fun _ _ => rfl))) (pe_ix (kix (K := K) rfl) (pv 3) pe_int (fun _ _ => rfl))))
 (pss_cons (ps_set (i := 8) sc_law.nd rfl (by first | exact Or.inl rfl | exact Or.inr rfl) (pe_op op_mod (pe_op op_sub (pe_ix (kix (K := K) rfl) (pv 4) pe_int (fun _ _ => rfl)) (pv 5)) (pe_ix (kix (K := K) rfl) (pv 3) pe_int (fun _ _ => rfl))))
 (pss_cons (ps_set (i := 9) sc_law.nd rfl (by first | exact Or.inl rfl | exact Or.inr rfl) pe_int)
 (pss_cut (ps_if (pt_cmpR op_gt (pv 7) pe_int (nomark _)) (pss_cons (ps_set (i := 10) sc_law.nd rfl (by first | exact Or.inl rfl | exact Or.inr rfl) (pe_op op_sub (pe_op (kop_add (K := K) rfl) (pv 7) (pe_ix (kix (K := K) rfl) (pv 3) pe_int (fun _ _ => rfl))) (pe_op op_sub (pe_ix (kix (K := K) rfl) (pv 4) pe_int (fun _ _ => rfl)) (pe_ix (kix (K := K) rfl) (pv 4) pe_int (fun _ _ => rfl)))))
 (pss_cons (ps_set (i := 11) sc_law.nd rfl (by first | exact Or.inl rfl | exact Or.inr rfl) (pe_op op_sub (pe_op (kop_add (K := K) rfl) (pv 8) (pe_ix (kix (K := K) rfl) (pv 4) pe_int (fun _ _ => rfl))) (pe_ix (kix (K := K) rfl) (pv 4) pe_int (fun _ _ => rfl))))
 (pss_one (ps_set (i := 9) sc_law.nd rfl (by first | exact Or.inl rfl | exact Or.inr rfl) (pe_mid (pe_ifExp (pt_cmpR op_le (pv 10) (pv 11) (nomark _)) (pv 10) (pe_op op_sub pe_int (pv 11)))))))) pss_nil)
 (pss_one (ps_if (pt_not (pt_val (pe_has H_law_same hr (by omega) rfl pass0 (pa_cons (pe_has H_to hr (by omega) rfl pass0 (pa_cons (pv 3) (pa_cons (pv 4) (pa_cons (pv 5) pa_nil)))) (pa_cons (pv 9) pa_nil))))) (pss_one (ps_ret pe_bl)) pss_nil))))))))))))))))
 (pss_one (ps_ret pe_bl)))), ?_⟩
    refine r_start (σ' := [some (.ref a), none, none, none, none, none, none, none, none, none, none, none]) rfl ?_
    walk_at "go"
    refine spStart_i hS fun st H1 _ sm1 s1 => ?_
    walk_at "go"
    refine ⟨_, rfl, by decide, by decide, fw_range (fun i σ H2 => ∃ v2 v3 v4 v5 v6 v7 v8 v9 v10 v11, σ = [some (.ref a), some (.ref st), v2, v3, v4, v5, v6, v7, v8, v9, v10, v11] ∧ St H2 st a ∧ SqL K H2 a (ns.map V.int) ∧ Tabs TT H2)
      ⟨_, _, _, _, _, _, _, _, _, _, rfl, s1, sm1.seq hS, Tabs.ext hT sm1⟩ ?_ ?_⟩
    · rintro i σ H2 hi ⟨v2, v3, v4, v5, v6, v7, v8, v9, v10, v11, rfl, s2, hS2, T2⟩
      walk_at "go"
      refine spGear_i s2 hS2 fun g r p H3 r2 r6 p0 p6 _ s3 R3 hg => ?_
      have hS3 := fr_sq R3 hS2
      walk_at "go"
      refine spStanding_i s3 hS3 hg p0 p6 fun z m s H4 z1 z2 z3 z4 s4 R4 hz => ?_
      have hS4 := fr_sq R4 hS3
      have hg4 : H4 g = some (.tup [.int r, .int p]) := by walk_at "hp"
      walk_at "go"
      refine spDrawn_i s4 hS4 (by omega) (small200 (by omega) (by omega)) fun goal H5 a5 b5 s5 R5 => ?_
      have hS5 := fr_sq R5 hS4
      have G5 : GearAt H5 g r p := ⟨by walk_at "hp", r2, r6, p0, p6⟩
      have hz5 : H5 z = some (.tup [.int (m, s).1, .int (m, s).2]) := by walk_at "hp"
      have T5 : Tabs TT H5 := Tabs.fr (Tabs.fr (Tabs.fr T2 R3) R4) R5
      have hs : Stg p (m, s) := ⟨z1, z2⟩
      walk_at "go"
      refine spTo_i G5 hz5 hs a5 b5 T5 fun v H6 e6 T6 few => ?_
      have G6 : GearAt H6 g r p := G5.mono (ExtN.at_tup e6 G5.at_)
      have hz6 := ExtN.at_tup e6 hz5
      have s6 := ExtN.st e6 s5
      have hS6 := ExtN.sq e6 hS5
      obtain ⟨few1, few2, few3⟩ := few_facts (by omega) p0 hs few
      walk_at "go"
      refine spTried_i G6.at_ hz6 hs (by omega) r6 p0 p6 few fun H7 h7 => ?_
      walk_at "go"
      refine spSame_i (.int v) (.int v) (Fl.int _ _) fun H8 h8 => ?_
      have h68 : Same H6 H8 := h7.trans h8
      walk_at "go"
      refine iteF ?_
      walk_at "go"
      intro l nl
      walk_at "go"
      refine spStands_i (ms := [v]) (G6.mono (at_new nl (h68 _ _ G6.at_))) (at_new nl (h68 _ _ hz6)) hs (SqL.of upd_same) (show 1 ≤ 100 by decide) fun q H9 h9 hq => ?_
      have h69 : Same H6 H9 := h68.trans ((same_new nl).trans h9)
      walk_at "go"
      have hg9 := h69 _ _ G6.at_
      walk_at "go"
      refine r_I (show 0 < r by omega) ?_
      walk_at "go"
      refine iteNF (hit_mod few1 a5 b5) ?_
      walk_at "go"
      refine spGear_i (s6.same h69) (h69.seq hS6) fun g' r' p' H10 r2' r6' p0' p6' _ s10 R10 hg' => ?_
      have hS10 := fr_sq R10 (h69.seq hS6)
      walk_at "go"
      refine spStanding_i s10 hS10 hg' p0' p6' fun z' m' s' H11 z1' z2' z3' z4' s11 R11 hz' => ?_
      have hS11 := fr_sq R11 hS10
      have hg11 : H11 g' = some (.tup [.int r', .int p']) := by walk_at "hp"
      walk_at "go"
      refine spDrawn_i s11 hS11 (by omega) (small200 (by omega) (by omega)) fun w1 H12 a12 b12 s12 R12 => ?_
      have hS12 := fr_sq R12 hS11
      have hg12 : H12 g' = some (.tup [.int r', .int p']) := by walk_at "hp"
      have hz12 : H12 z' = some (.tup [.int m', .int s']) := by walk_at "hp"
      walk_at "go"
      refine r_I (show 0 < r' by omega) ?_
      walk_at "go"
      intro t nt
      walk_at "go"
      refine spDrawn_i (by walk_at "ss") (by walk_at "sq") (by omega) (by decide) fun w2 H13 a13 b13 s13 R13 => ?_
      obtain ⟨goal', e13, m13⟩ := pick2 w1 (s' % r') a13 (by omega)
      have k0 := Int.emod_nonneg s' (show r' ≠ 0 by omega)
      have k1 := Int.emod_lt_of_pos s' (show 0 < r' by omega)
      have g0 : 0 ≤ goal' := by omega
      have g1 : goal' < r' := by omega
      refine r_ix (by walk_at "sq") e13 ?_
      have hS13 : SqL K H13 a (ns.map V.int) := by walk_at "sq"
      have G13 : GearAt H13 g' r' p' := ⟨by walk_at "hp", r2', r6', p0', p6'⟩
      have hg13 := G13.at_
      have hz13 : H13 z' = some (.tup [.int m', .int s']) := by walk_at "hp"
      have T13 : Tabs TT H13 := by
        have a := Tabs.fr (Tabs.ext T6 h69) R10
        have b := Tabs.fr (Tabs.fr a R11) R12
        exact Tabs.fr (Tabs.ext b (same_new nt)) R13
      have hs' : Stg p' (m', s') := ⟨z1', z2'⟩
      walk_at "go"
      refine r_I (show 0 < r' by omega) ?_
      walk_at "go"
      refine r_I (show 0 < r' by omega) ?_
      walk_at "go"
      have f0 := Int.emod_nonneg (goal' - s') (show r' ≠ 0 by omega)
      refine r_cut (fun σ' H' => ∃ v7 v8 v10 v11 due, σ' = [some (.ref a), some (.ref st), some (.int (0 + i)), some (.ref g'), some (.ref z'), some (.int goal'), some (.int v), v7, v8, some (.int due), v10, v11] ∧ H' = H13 ∧
        ∀ v, Few r' p' (m', s') goal' v → v = due) ?_ ?_
      · walk_at "go"
        refine iteD (fun c => ?_) (fun c => ?_)
        · walk_at "go"
          refine r_mid (fun v H' => H' = H13 ∧ ∃ due, v = .int due ∧ ∀ v, Few r' p' (m', s') goal' v → v = due) ?_ ?_
          · walk_at "go"
            refine iteD (fun d => ?_) (fun d => ?_)
            · walk_at "go"
              exact ⟨rfl, _, rfl, fun v fw => ((few_due (by omega) p0' hs' fw).2 c _ _ rfl rfl).1 d⟩
            · walk_at "go"
              exact ⟨rfl, _, rfl, fun v fw => ((few_due (by omega) p0' hs' fw).2 c _ _ rfl rfl).2 d⟩
          · rintro _ _ ⟨rfl, due, rfl, hd⟩
            walk_at "go"
            exact ⟨_, _, _, _, due, rfl, rfl, hd⟩
        · walk_at "go"
          exact ⟨_, _, _, _, 0, rfl, rfl, fun v fw => (few_due (by omega) p0' hs' fw).1 (by dsimp only; omega)⟩
      · rintro _ _ ⟨v7, v8, v10, v11, due, rfl, rfl, hd⟩
        walk_at "go"
        refine spTo_i (x := (m', s')) G13 hz13 hs' g0 g1 T13 fun v' H14 e14 T14 few' => ?_
        rw [hd v' few']
        walk_at "go"
        refine spSame_i (.int due) (.int due) (Fl.int _ _) fun H15 h15 => ?_
        walk_at "go"
        refine iteF ?_
        walk_at "go"
        exact ⟨_, _, _, _, _, _, _, _, _, _, rfl, (ExtN.st e14 s13).same h15, h15.seq (ExtN.sq e14 hS13), Tabs.ext T14 h15⟩
    · rintro σ H2 ⟨v2, v3, v4, v5, v6, v7, v8, v9, v10, v11, rfl, s2, hS2, T2⟩
      walk_at "go"
      exact k _
theorem law_fn {f : Addr} {fd : FuncData} {c_to P_to : Addr} (B : Bl mg) (F_need_gear : FunAt K mg "need_gear" s_need_gear) (F_need_standing : FunAt K mg "need_standing" s_need_standing) (F_need_moves : FunAt K mg "need_moves" s_need_moves) (F_behind : FunAt K mg "behind" s_behind) (F_all_behind : FunAt K mg "all_behind" s_all_behind) (F_stands : FunAt K mg "stands" s_stands) (F_need_goals : FunAt K mg "need_goals" s_need_goals) (F_choices : FunAt K mg "choices" s_choices) (F_to : FunTab K mg "to" s_to c_to P_to) (F_law_start : FunAt K mg "_law_start" s_law_start) (F_law_drawn : FunAt K mg "_law_drawn" s_law_drawn) (F_law_same : FunAt K mg "_law_same" s_law_same) (F_law_gear : FunAt K mg "_law_gear" s_law_gear) (F_law_standing : FunAt K mg "_law_standing" s_law_standing) (F_law_behind : FunAt K mg "_law_behind" s_law_behind) (F_law_tried : FunAt K mg "_law_tried" s_law_tried) (M_MOST : Cn mg "MOST" 1000000) (M_MOST_MOVES : Cn mg "MOST_MOVES" 100) (TB_to : LamX.TabB base mg c_to P_to) (F : Fun K "law" "law" s_law f fd) : FnOk P w K mg base CX0 6 f fd ["_law_script"] (spLawT K [(P_to, ("to" ++ ".<locals>." ++ "<lambda>" : Str))]) := by
  have H0 : Has P w K mg base CX0 1 "_law_start" (spStart K) := ok_law_start F_law_start
  have H1 : Has P w K mg base CX0 1 "_law_drawn" (spDrawn K) := ok_law_drawn B F_law_drawn
  have H2 : Has P w K mg base CX0 1 "need_gear" spNG := ok_need_gear F_need_gear M_MOST
  have H3 : Has P w K mg base CX0 2 "need_standing" spNS := ok_need_standing F_need_standing H2
  have H4 : Has P w K mg base CX0 1 "need_moves" (spNM K) := ok_need_moves B F_need_moves M_MOST_MOVES
  have H5 : Has P w K mg base CX0 1 "behind" spBehind := ok_behind B F_behind
  have H6 : Has P w K mg base CX0 2 "all_behind" (spAB K) := ok_all_behind B F_all_behind H5
  have H7 : Has P w K mg base CX0 1 "_law_behind" spLB := ok_law_behind B F_law_behind
  exact ok_law B F H0 H1 (ok_law_same B F_law_same 1) (ok_law_gear B F_law_gear H1) (ok_law_standing B F_law_standing H1) (ok_law_tried B F_law_tried H7) (ok_to B F_to TB_to (List.mem_singleton.mpr rfl) (fun p hp _ => by rw [List.mem_singleton.mp hp]) (ok_need_goals B F_need_goals H3) (ok_choices F_choices)) (ok_stands B F_stands H3 H4 H6)
end
theorem all_mk {l : PySem.W.OpenLaw} {w : World} {K : PySem.W.Frag} {h : Heap} {mg : Str → Option Value} {fa : Addr} {q : Program} (X : K.In h) (G : h.Ns mainGlobals mg) (hfa : mg "law" = some (.ref fa)) (TA : TabsAt q K h)
    {f0 : Addr} {od0 an0 : Option Addr} {sl0 : Array (Option Value)} {oc0 kV0 dc0 pm0 cd0 ct0 : Value}
    {f1 : Addr} {od1 an1 : Option Addr} {sl1 : Array (Option Value)} {oc1 kV1 dc1 pm1 cd1 ct1 : Value}
    {f2 : Addr} {od2 an2 : Option Addr} {sl2 : Array (Option Value)} {oc2 kV2 dc2 pm2 cd2 ct2 : Value}
    {f3 : Addr} {od3 an3 : Option Addr} {sl3 : Array (Option Value)} {oc3 kV3 dc3 pm3 cd3 ct3 : Value}
    {f4 : Addr} {od4 an4 : Option Addr} {sl4 : Array (Option Value)} {oc4 kV4 dc4 pm4 cd4 ct4 : Value}
    {f5 : Addr} {od5 an5 : Option Addr} {sl5 : Array (Option Value)} {oc5 kV5 dc5 pm5 cd5 ct5 : Value}
    {f6 : Addr} {od6 an6 : Option Addr} {sl6 : Array (Option Value)} {oc6 kV6 dc6 pm6 cd6 ct6 : Value}
    {f7 : Addr} {od7 an7 : Option Addr} {sl7 : Array (Option Value)} {oc7 kV7 dc7 pm7 cd7 ct7 : Value}
    {f8 : Addr} {od8 an8 : Option Addr} {sl8 : Array (Option Value)} {oc8 kV8 dc8 pm8 cd8 ct8 : Value}
    {f9 : Addr} {od9 an9 : Option Addr} {sl9 : Array (Option Value)} {oc9 kV9 dc9 pm9 cd9 ct9 : Value}
    {f10 : Addr} {od10 an10 : Option Addr} {sl10 : Array (Option Value)} {oc10 kV10 dc10 pm10 cd10 ct10 : Value}
    {f11 : Addr} {od11 an11 : Option Addr} {sl11 : Array (Option Value)} {oc11 kV11 dc11 pm11 cd11 ct11 : Value}
    {f12 : Addr} {od12 an12 : Option Addr} {sl12 : Array (Option Value)} {oc12 kV12 dc12 pm12 cd12 ct12 : Value}
    {f13 : Addr} {od13 an13 : Option Addr} {sl13 : Array (Option Value)} {oc13 kV13 dc13 pm13 cd13 ct13 : Value}
    {f14 : Addr} {od14 an14 : Option Addr} {sl14 : Array (Option Value)} {oc14 kV14 dc14 pm14 cd14 ct14 : Value}
    {f15 : Addr} {od15 an15 : Option Addr} {sl15 : Array (Option Value)} {oc15 kV15 dc15 pm15 cd15 ct15 : Value}
    {f16 : Addr} {od16 an16 : Option Addr} {sl16 : Array (Option Value)} {oc16 kV16 dc16 pm16 cd16 ct16 : Value}
    {t_MOST : Tok}
    {t_MOST_MOVES : Tok}
    {cc8 P8 : Addr}
    (a0 : PySem.W.nsIn K mainGlobals "need_gear" = some (some (.ref f0))) (l0 : K.lookup f0 = some ⟨oc0, od0, .func (PySem.W.fnOf "need_gear" "need_gear" (defArgs s_need_gear) (defBody s_need_gear) (defScope s_need_gear) .none kV0 dc0 pm0 an0 cd0 ct0), sl0⟩) (c0 : PySem.W.codeIn K cd0 "need_gear" = true) (k0 : PySem.W.keepIn K (.ref f0) = true)
    (a1 : PySem.W.nsIn K mainGlobals "need_standing" = some (some (.ref f1))) (l1 : K.lookup f1 = some ⟨oc1, od1, .func (PySem.W.fnOf "need_standing" "need_standing" (defArgs s_need_standing) (defBody s_need_standing) (defScope s_need_standing) .none kV1 dc1 pm1 an1 cd1 ct1), sl1⟩) (c1 : PySem.W.codeIn K cd1 "need_standing" = true) (k1 : PySem.W.keepIn K (.ref f1) = true)
    (a2 : PySem.W.nsIn K mainGlobals "need_moves" = some (some (.ref f2))) (l2 : K.lookup f2 = some ⟨oc2, od2, .func (PySem.W.fnOf "need_moves" "need_moves" (defArgs s_need_moves) (defBody s_need_moves) (defScope s_need_moves) .none kV2 dc2 pm2 an2 cd2 ct2), sl2⟩) (c2 : PySem.W.codeIn K cd2 "need_moves" = true) (k2 : PySem.W.keepIn K (.ref f2) = true)
    (a3 : PySem.W.nsIn K mainGlobals "behind" = some (some (.ref f3))) (l3 : K.lookup f3 = some ⟨oc3, od3, .func (PySem.W.fnOf "behind" "behind" (defArgs s_behind) (defBody s_behind) (defScope s_behind) .none kV3 dc3 pm3 an3 cd3 ct3), sl3⟩) (c3 : PySem.W.codeIn K cd3 "behind" = true) (k3 : PySem.W.keepIn K (.ref f3) = true)
    (a4 : PySem.W.nsIn K mainGlobals "all_behind" = some (some (.ref f4))) (l4 : K.lookup f4 = some ⟨oc4, od4, .func (PySem.W.fnOf "all_behind" "all_behind" (defArgs s_all_behind) (defBody s_all_behind) (defScope s_all_behind) .none kV4 dc4 pm4 an4 cd4 ct4), sl4⟩) (c4 : PySem.W.codeIn K cd4 "all_behind" = true) (k4 : PySem.W.keepIn K (.ref f4) = true)
    (a5 : PySem.W.nsIn K mainGlobals "stands" = some (some (.ref f5))) (l5 : K.lookup f5 = some ⟨oc5, od5, .func (PySem.W.fnOf "stands" "stands" (defArgs s_stands) (defBody s_stands) (defScope s_stands) .none kV5 dc5 pm5 an5 cd5 ct5), sl5⟩) (c5 : PySem.W.codeIn K cd5 "stands" = true) (k5 : PySem.W.keepIn K (.ref f5) = true)
    (a6 : PySem.W.nsIn K mainGlobals "need_goals" = some (some (.ref f6))) (l6 : K.lookup f6 = some ⟨oc6, od6, .func (PySem.W.fnOf "need_goals" "need_goals" (defArgs s_need_goals) (defBody s_need_goals) (defScope s_need_goals) .none kV6 dc6 pm6 an6 cd6 ct6), sl6⟩) (c6 : PySem.W.codeIn K cd6 "need_goals" = true) (k6 : PySem.W.keepIn K (.ref f6) = true)
    (a7 : PySem.W.nsIn K mainGlobals "choices" = some (some (.ref f7))) (l7 : K.lookup f7 = some ⟨oc7, od7, .func (PySem.W.fnOf "choices" "choices" (defArgs s_choices) (defBody s_choices) (defScope s_choices) .none kV7 dc7 pm7 an7 cd7 ct7), sl7⟩) (c7 : PySem.W.codeIn K cd7 "choices" = true) (k7 : PySem.W.keepIn K (.ref f7) = true)
    (a8 : PySem.W.nsIn K mainGlobals "to" = some (some (.ref f8))) (l8 : K.lookup f8 = some ⟨oc8, od8, .func (PySem.W.fnOf "to" "to" (defArgs s_to) (defBody s_to) (defScope s_to) .none kV8 dc8 pm8 an8 cd8 ct8), sl8⟩) (c8 : PySem.W.codeIn K cd8 "to" = true) (k8 : PySem.W.keepIn K (.ref f8) = true)
    (a9 : PySem.W.nsIn K mainGlobals "_law_start" = some (some (.ref f9))) (l9 : K.lookup f9 = some ⟨oc9, od9, .func (PySem.W.fnOf "_law_start" "_law_start" (defArgs s_law_start) (defBody s_law_start) (defScope s_law_start) .none kV9 dc9 pm9 an9 cd9 ct9), sl9⟩) (c9 : PySem.W.codeIn K cd9 "_law_start" = true) (k9 : PySem.W.keepIn K (.ref f9) = true)
    (a10 : PySem.W.nsIn K mainGlobals "_law_drawn" = some (some (.ref f10))) (l10 : K.lookup f10 = some ⟨oc10, od10, .func (PySem.W.fnOf "_law_drawn" "_law_drawn" (defArgs s_law_drawn) (defBody s_law_drawn) (defScope s_law_drawn) .none kV10 dc10 pm10 an10 cd10 ct10), sl10⟩) (c10 : PySem.W.codeIn K cd10 "_law_drawn" = true) (k10 : PySem.W.keepIn K (.ref f10) = true)
    (a11 : PySem.W.nsIn K mainGlobals "_law_same" = some (some (.ref f11))) (l11 : K.lookup f11 = some ⟨oc11, od11, .func (PySem.W.fnOf "_law_same" "_law_same" (defArgs s_law_same) (defBody s_law_same) (defScope s_law_same) .none kV11 dc11 pm11 an11 cd11 ct11), sl11⟩) (c11 : PySem.W.codeIn K cd11 "_law_same" = true) (k11 : PySem.W.keepIn K (.ref f11) = true)
    (a12 : PySem.W.nsIn K mainGlobals "_law_gear" = some (some (.ref f12))) (l12 : K.lookup f12 = some ⟨oc12, od12, .func (PySem.W.fnOf "_law_gear" "_law_gear" (defArgs s_law_gear) (defBody s_law_gear) (defScope s_law_gear) .none kV12 dc12 pm12 an12 cd12 ct12), sl12⟩) (c12 : PySem.W.codeIn K cd12 "_law_gear" = true) (k12 : PySem.W.keepIn K (.ref f12) = true)
    (a13 : PySem.W.nsIn K mainGlobals "_law_standing" = some (some (.ref f13))) (l13 : K.lookup f13 = some ⟨oc13, od13, .func (PySem.W.fnOf "_law_standing" "_law_standing" (defArgs s_law_standing) (defBody s_law_standing) (defScope s_law_standing) .none kV13 dc13 pm13 an13 cd13 ct13), sl13⟩) (c13 : PySem.W.codeIn K cd13 "_law_standing" = true) (k13 : PySem.W.keepIn K (.ref f13) = true)
    (a14 : PySem.W.nsIn K mainGlobals "_law_behind" = some (some (.ref f14))) (l14 : K.lookup f14 = some ⟨oc14, od14, .func (PySem.W.fnOf "_law_behind" "_law_behind" (defArgs s_law_behind) (defBody s_law_behind) (defScope s_law_behind) .none kV14 dc14 pm14 an14 cd14 ct14), sl14⟩) (c14 : PySem.W.codeIn K cd14 "_law_behind" = true) (k14 : PySem.W.keepIn K (.ref f14) = true)
    (a15 : PySem.W.nsIn K mainGlobals "_law_tried" = some (some (.ref f15))) (l15 : K.lookup f15 = some ⟨oc15, od15, .func (PySem.W.fnOf "_law_tried" "_law_tried" (defArgs s_law_tried) (defBody s_law_tried) (defScope s_law_tried) .none kV15 dc15 pm15 an15 cd15 ct15), sl15⟩) (c15 : PySem.W.codeIn K cd15 "_law_tried" = true) (k15 : PySem.W.keepIn K (.ref f15) = true)
    (a16 : PySem.W.nsIn K mainGlobals "law" = some (some (.ref f16))) (l16 : K.lookup f16 = some ⟨oc16, od16, .func (PySem.W.fnOf "law" "law" (defArgs s_law) (defBody s_law) (defScope s_law) .none kV16 dc16 pm16 an16 cd16 ct16), sl16⟩) (c16 : PySem.W.codeIn K cd16 "law" = true) (k16 : PySem.W.keepIn K (.ref f16) = true)
    (m_MOST : PySem.W.nsIn K mainGlobals "MOST" = some (some (.int 1000000 t_MOST)))
    (m_MOST_MOVES : PySem.W.nsIn K mainGlobals "MOST_MOVES" = some (some (.int 100 t_MOST_MOVES)))
    (z_len : PySem.W.nsIn K mainGlobals "len" = some none)
    (z_range : PySem.W.nsIn K mainGlobals "range" = some none)
    (z_abs : PySem.W.nsIn K mainGlobals "abs" = some none)
    (z_max : PySem.W.nsIn K mainGlobals "max" = some none)
    (z_min : PySem.W.nsIn K mainGlobals "min" = some none)
    (z_list : PySem.W.nsIn K mainGlobals "list" = some none)
    (z_tuple : PySem.W.nsIn K mainGlobals "tuple" = some none)
    (z_int : PySem.W.nsIn K mainGlobals "int" = some none)
    (z_isinstance : PySem.W.nsIn K mainGlobals "isinstance" = some none)
    (z_sum : PySem.W.nsIn K mainGlobals "sum" = some none)
    (z_set : PySem.W.nsIn K mainGlobals "set" = some none)
    (z_sorted : PySem.W.nsIn K mainGlobals "sorted" = some none)
    (z_zip : PySem.W.nsIn K mainGlobals "zip" = some none)
    (z_enumerate : PySem.W.nsIn K mainGlobals "enumerate" = some none)
    (z_str : PySem.W.nsIn K mainGlobals "str" = some none)
    (z_bool : PySem.W.nsIn K mainGlobals "bool" = some none)
    (t8 : PySem.W.tabIn K "to" = some (cc8, P8)) (n8 : K.lookup P8 = none)
    (r8 : ((PyProof.Rows.recsOf q).any fun e => e.name == ("to" : Str)) = true) :
    LamX.LawAtS l w K CX0 6 63 "_law_script" mg fa h := by
  have e := hfa.symm.trans (PySem.W.mg_of X G a16)
  cases e
  have F := fun_mk (st := s_law) l16 c16 k16
  have B : Bl mg := ⟨PySem.W.mg_none_of X G z_len, PySem.W.mg_none_of X G z_range, PySem.W.mg_none_of X G z_abs, PySem.W.mg_none_of X G z_max, PySem.W.mg_none_of X G z_min, PySem.W.mg_none_of X G z_list, PySem.W.mg_none_of X G z_tuple, PySem.W.mg_none_of X G z_int, PySem.W.mg_none_of X G z_isinstance, PySem.W.mg_none_of X G z_sum, PySem.W.mg_none_of X G z_set, PySem.W.mg_none_of X G z_sorted, PySem.W.mg_none_of X G z_zip, PySem.W.mg_none_of X G z_enumerate, PySem.W.mg_none_of X G z_str, PySem.W.mg_none_of X G z_bool⟩
  have y1 : ∀ p ∈ ([(cc8, P8)] : List (Addr × Addr)), h.get? p.2 = some { cls := .none, data := .fields #[] } := fun p hp => by
    rw [List.mem_singleton.mp hp]
    exact (TA _ _ _ r8 t8).2
  have y2 : ∀ p ∈ ([(cc8, P8)] : List (Addr × Addr)), K.lookup p.2 = none := fun p hp => by
    rw [List.mem_singleton.mp hp]
    exact n8
  have y3 : ∀ p ∈ ([(cc8, P8)] : List (Addr × Addr)), PySem.W.CodeHd h p.1 p.2 := fun p hp => by
    rw [List.mem_singleton.mp hp]
    exact (TA _ _ _ r8 t8).1
  refine ⟨_, [(cc8, P8)], spLawT K [(P8, ("to" ++ ".<locals>." ++ "<lambda>" : Str))], y1, y2, y3, fun s v => .of_eq rfl, fun H a ns hl _ hH hS => ⟨a, ns, rfl, hS, hl, ?_, fun _ => rfl⟩, fun base _ _ TB => law_fn B (FunAt.mk' X G a0 l0 c0 k0) (FunAt.mk' X G a1 l1 c1 k1) (FunAt.mk' X G a2 l2 c2 k2) (FunAt.mk' X G a3 l3 c3 k3) (FunAt.mk' X G a4 l4 c4 k4) (FunAt.mk' X G a5 l5 c5 k5) (FunAt.mk' X G a6 l6 c6 k6) (FunAt.mk' X G a7 l7 c7 k7) (FunTab.mk' X G a8 l8 c8 k8 t8) (FunAt.mk' X G a9 l9 c9 k9) (FunAt.mk' X G a10 l10 c10 k10) (FunAt.mk' X G a11 l11 c11 k11) (FunAt.mk' X G a12 l12 c12 k12) (FunAt.mk' X G a13 l13 c13 k13) (FunAt.mk' X G a14 l14 c14 k14) (FunAt.mk' X G a15 l15 c15 k15) ⟨_, PySem.W.mg_of X G m_MOST⟩ ⟨_, PySem.W.mg_of X G m_MOST_MOVES⟩ (TB (cc8, P8) (by simp)) F⟩
  · intro p hp
    rw [List.mem_singleton.mp hp]
    exact LamX.TabS.nil (hH (cc8, P8) (by simp))
end Rd
open PySem PySem.W PyProof.Rows
set_option maxRecDepth 100000 in
set_option maxHeartbeats 0 in
theorem PySem.Challenge.cw_stepgear_k05_whole_the_fewest_to_a_place_holds : PySem.Challenge.rw_stepgear_k05_whole_the_fewest_to_a_place.Holds := by
  w_on; o_law; k_head; (case hw => w_witness2)
  k_fill
  refine Rd.walk_tabs (l := PySem.Challenge.rw_stepgear_k05_whole_the_fewest_to_a_place) (n := 63) (k := 6) (x := "_law_script") (CX := fun _ => L2.CX0) rfl (by decide) rfl ⟨rfl, by decide, by decide⟩ (fun w h Y => PySem.W.km_in_of Y) ?F (fun _ _ _ _ _ h => h)
  case F =>
    intro w mg fa h Y KX G hmg TA
    refine' Rd.all_mk KX G hmg TA ?a0 ?l0 ?c0 ?k0 ?a1 ?l1 ?c1 ?k1 ?a2 ?l2 ?c2 ?k2 ?a3 ?l3 ?c3 ?k3 ?a4 ?l4 ?c4 ?k4 ?a5 ?l5 ?c5 ?k5 ?a6 ?l6 ?c6 ?k6 ?a7 ?l7 ?c7 ?k7 ?a8 ?l8 ?c8 ?k8 ?a9 ?l9 ?c9 ?k9 ?a10 ?l10 ?c10 ?k10 ?a11 ?l11 ?c11 ?k11 ?a12 ?l12 ?c12 ?k12 ?a13 ?l13 ?c13 ?k13 ?a14 ?l14 ?c14 ?k14 ?a15 ?l15 ?c15 ?k15 ?a16 ?l16 ?c16 ?k16 ?m_MOST ?m_MOST_MOVES ?z_len ?z_range ?z_abs ?z_max ?z_min ?z_list ?z_tuple ?z_int ?z_isinstance ?z_sum ?z_set ?z_sorted ?z_zip ?z_enumerate ?z_str ?z_bool ?t8 ?n8 ?r8
    (case a0 => k_is)
    (case l0 => k_is)
    (case c0 => k_is)
    (case k0 => k_is)
    (case a1 => k_is)
    (case l1 => k_is)
    (case c1 => k_is)
    (case k1 => k_is)
    (case a2 => k_is)
    (case l2 => k_is)
    (case c2 => k_is)
    (case k2 => k_is)
    (case a3 => k_is)
    (case l3 => k_is)
    (case c3 => k_is)
    (case k3 => k_is)
    (case a4 => k_is)
    (case l4 => k_is)
    (case c4 => k_is)
    (case k4 => k_is)
    (case a5 => k_is)
    (case l5 => k_is)
    (case c5 => k_is)
    (case k5 => k_is)
    (case a6 => k_is)
    (case l6 => k_is)
    (case c6 => k_is)
    (case k6 => k_is)
    (case a7 => k_is)
    (case l7 => k_is)
    (case c7 => k_is)
    (case k7 => k_is)
    (case a8 => k_is)
    (case l8 => k_is)
    (case c8 => k_is)
    (case k8 => k_is)
    (case a9 => k_is)
    (case l9 => k_is)
    (case c9 => k_is)
    (case k9 => k_is)
    (case a10 => k_is)
    (case l10 => k_is)
    (case c10 => k_is)
    (case k10 => k_is)
    (case a11 => k_is)
    (case l11 => k_is)
    (case c11 => k_is)
    (case k11 => k_is)
    (case a12 => k_is)
    (case l12 => k_is)
    (case c12 => k_is)
    (case k12 => k_is)
    (case a13 => k_is)
    (case l13 => k_is)
    (case c13 => k_is)
    (case k13 => k_is)
    (case a14 => k_is)
    (case l14 => k_is)
    (case c14 => k_is)
    (case k14 => k_is)
    (case a15 => k_is)
    (case l15 => k_is)
    (case c15 => k_is)
    (case k15 => k_is)
    (case a16 => k_is)
    (case l16 => k_is)
    (case c16 => k_is)
    (case k16 => k_is)
    (case m_MOST => k_is)
    (case m_MOST_MOVES => k_is)
    (case z_len => k_is)
    (case z_range => k_is)
    (case z_abs => k_is)
    (case z_max => k_is)
    (case z_min => k_is)
    (case z_list => k_is)
    (case z_tuple => k_is)
    (case z_int => k_is)
    (case z_isinstance => k_is)
    (case z_sum => k_is)
    (case z_set => k_is)
    (case z_sorted => k_is)
    (case z_zip => k_is)
    (case z_enumerate => k_is)
    (case z_str => k_is)
    (case z_bool => k_is)
    (case t8 => with_unfolding_all rfl)
    (case n8 => first | k_is | with_unfolding_all rfl)
    (case r8 => first | rfl | decide +kernel)

