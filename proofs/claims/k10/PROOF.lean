import PyProof.Rows.All
import Wide.All
import OpenK.AllK
import Wide.FinOn
import HandS.ForMost
import HandS.Wide
import HandS.Style
import HandS.TupAny
import HandS.IsInst
import HandS.Conv
import HandS.Zip
import HandS.Rev
import HandS.Deep
import HandS.DictComp
import HandS.Defaults
import KE.DataEq
import HandS.More
import HandS.Head0
import HandS.Head1
import HandS.Head2
import HandS.HeadEnd
import HandS.HeadHook1
import HandS.HeadHook2
import PySem.Challenge.RW_everychoir_k10_closed_trees_judged
section
set_option Elab.async false
set_option maxRecDepth 100000
set_option maxHeartbeats 4000000
/-! The rules of the layer with the written part K as a letter of its own: within a comprehension's block a reading may not speak of the block's context. -/
namespace EV
open PySem PySem.Spec PyProof.Rows L2
section
variable {X : Cx} {K : PySem.W.Frag}
theorem ixL (h : X.K = K) : IxR X (rIxL K) := by subst h; exact ix_list
theorem ixT (h : X.K = K) : IxR X (rIxT K) := by subst h; exact ix_tup
theorem slL (h : X.K = K) : SlR X (rSlL K) := by subst h; exact sl_list
theorem slT (h : X.K = K) : SlR X (rSlA K) := by subst h; exact sl_tupA
theorem opCatT (h : X.K = K) : OpR X (binaryOp .Add) (rCatA K) := by subst h; exact op_catA
theorem opInS (h : X.K = K) : OpR X (compareOp .In) (rIn K false) := by subst h; exact op_in_seq
theorem opNiS (h : X.K = K) : OpR X (compareOp .NotIn) (rIn K true) := by subst h; exact op_notIn_seq
theorem opEqD (h : X.K = K) (hu : X.A.units + 64 < cLine) : OpR X (compareOp .Eq) (rEqD K) := by subst h; exact op_eqD hu
theorem opNeD (h : X.K = K) (hu : X.A.units + 64 < cLine) : OpR X (compareOp .NotEq) (rNeD K) := by subst h; exact op_neD hu
theorem opInD (h : X.K = K) (hu : X.A.units + 65 < cLine) : OpR X (compareOp .In) (rInD K) := by subst h; exact op_inD hu
theorem opNiD (h : X.K = K) (hu : X.A.units + 65 < cLine) : OpR X (compareOp .NotIn) (rNotInD K) := by subst h; exact op_notInD hu
theorem units65 {A : Around} {k : Nat} (hr : Room k A) : A.units + 65 < cLine := by have := hr.un; omega
def rInt1 : List V → Hp → VK → Prop := fun xs H Q => (∃ i, xs = [.int i] ∧ Q (.int i) H) ∨ ∃ k, xs = [.bl k] ∧ Q (.int (if k then 1 else 0)) H
def rAbs1 : List V → Hp → VK → Prop := fun xs H Q => ∃ i, xs = [.int i] ∧ Q (.int (if i < 0 then -i else i)) H
def rMax2 : List V → Hp → VK → Prop := fun xs H Q => ∃ i j, xs = [.int i, .int j] ∧ Q (.int (if j > i then j else i)) H
def rMin2 : List V → Hp → VK → Prop := fun xs H Q => ∃ i j, xs = [.int i, .int j] ∧ Q (.int (if j < i then j else i)) H
def rStr1 : List V → Hp → VK → Prop := fun xs H Q => ∃ i, xs = [.int i] ∧ i.natAbs.log2 < 1920 ∧ Q (.str (toString i)) H
def rAddStr : R2 := fun x y H Q => ∃ i j, x = .str i ∧ y = .str j ∧ i.length + j.length ≤ sizeLine ∧ Q (.str (i ++ j)) H
def rNon : R2 := fun x y H Q => y = .non ∧ Q (.bl (decide (x = .non))) H
def rNotNon : R2 := fun x y H Q => y = .non ∧ Q (.bl (!decide (x = .non))) H
theorem cInt : CallR X (.type "int") rInt1 := call_int1
theorem cAbs : CallR X (.builtin "abs") rAbs1 := call_abs
theorem cMax2 (hc : X.calm = true) : CallR X (.builtin "max") rMax2 := call_max2 hc
theorem cMin2 (hc : X.calm = true) : CallR X (.builtin "min") rMin2 := call_min2 hc
theorem cStr : CallR X (.type "str") rStr1 := call_str_int
theorem opAddS : OpR X (binaryOp .Add) rAddStr := op_add_str
theorem opIsN : OpR X (compareOp .Is) rNon := op_isN
theorem opNotN : OpR X (compareOp .IsNot) rNotNon := op_notN
/-- len(x) of a list, a tuple; list(x); tuple(x) -/
def rLen (K : PySem.W.Frag) : List V → Hp → VK → Prop := fun xs H Q => ∃ p ys, xs = [.ref p] ∧ (SqL K H p ys ∨ SqT K H p ys) ∧ Q (.int ys.length) H
def rList (K : PySem.W.Frag) : List V → Hp → VK → Prop := fun xs H Q => ∃ p ys, xs = [.ref p] ∧ (SqL K H p ys ∨ SqT K H p ys) ∧ ∀ l, H l = none → Q (.ref l) (upd H l (.lst ys))
def rTuple (K : PySem.W.Frag) : List V → Hp → VK → Prop := fun xs H Q => ∃ p ys, xs = [.ref p] ∧ ((SqL K H p ys ∧ ∀ l, H l = none → Q (.ref l) (upd H l (.tup ys))) ∨ (SqT K H p ys ∧ Q (.ref p) H))
theorem cLen (h : X.K = K) : CallR X (.builtin "len") (rLen K) := by subst h; exact call_len_seq
theorem cList (h : X.K = K) : CallR X (.type "list") (rList K) := by subst h; exact call_list_of
theorem cTuple (h : X.K = K) : CallR X (.type "tuple") (rTuple K) := by subst h; exact call_tuple_of
theorem cAll (h : X.K = K) (hc : X.calm = true) : CallR X (.builtin "all") (rAll K) := by subst h; exact cr_all hc
theorem cAny (h : X.K = K) (hc : X.calm = true) : CallR X (.builtin "any") (rAny K) := by subst h; exact cr_any hc
theorem cMax (h : X.K = K) (hc : X.calm = true) : CallR X (.builtin "max") (rMax K) := by subst h; exact cr_max hc
theorem cMin (h : X.K = K) (hc : X.calm = true) : CallR X (.builtin "min") (rMin K) := by subst h; exact cr_min hc
theorem cSum (h : X.K = K) (hc : X.calm = true) : CallR X (.builtin "sum") (rSum K) := by subst h; exact cr_sum hc
theorem cIsi (h : X.K = K) : CallR X (.builtin "isinstance") (rIsi K) := by subst h; exact call_isi
def rDictP (K : PySem.W.Frag) : List V → Hp → VK → Prop := fun xs H Q => ∃ (a : Addr) (ps : List Addr) (kvs : List (Key × V)), xs = [.ref a] ∧ SqL K H a (ps.map V.ref) ∧ Paired (fun p kv => SqT K H p [kV kv.1, kv.2]) ps kvs ∧ ∀ p, H p = none → Q (.ref p) (upd H p (.dK (mergeK [] kvs)))
theorem cDictP (h : X.K = K) (hc : X.calm = true) : CallR X (.type "dict") (rDictP K) := by subst h; exact call_dictP hc
theorem piL {tg l : Expr} {tl : TE} (h : X.K = K) (hl : PE X l tl) : PI X tg l (iList K tl) := by subst h; exact pi_list hl
theorem piT {tg l : Expr} {tl : TE} (h : X.K = K) (hl : PE X l tl) : PI X tg l (iTup K tl) := by subst h; exact pi_tup hl
theorem piEnum {e : Expr} {ta : TA} {p pos tpos : Pos} {elts : List Expr} {kk : Nat} (h : X.K = K) (hg : Gl X "enumerate") (hm : X.mg "enumerate" = none) (ha : PA X [e] ta) (hs : starEach [e] X.env = [(false, eval e X.env)] := by rfl) :
    PI X (.Tuple elts kk tpos) (.Call (.Name "enumerate" p) [e] [] pos) (iEnum K ta) := by subst h; exact pi_enum hg hm ha hs
theorem piZip {e e2 : Expr} {ta : TA} {p pos tpos : Pos} {elts : List Expr} {kk : Nat} (h : X.K = K) (hg : Gl X "zip") (hm : X.mg "zip" = none) (ha : PA X [e, e2] ta)
    (hs : starEach [e, e2] X.env = (false, eval e X.env) :: starEach [e2] X.env := by rfl) (hpl : (backTo pos (starEach [e2] X.env)).any (·.1) = false := by rfl) :
    PI X (.Tuple elts kk tpos) (.Call (.Name "zip" p) [e, e2] [] pos) (RZ.iZipA K ta) := by subst h; exact RZ.pi_zipA hg hm ha hs hpl
theorem piRev {tg e : Expr} {te : TE} {p pos : Pos} (h : X.K = K) (hg : Gl X "reversed") (hm : X.mg "reversed" = none) (he : PE X e te) (hs : starEach [e] X.env = (false, eval e X.env) :: starEach [] X.env := by rfl) :
    PI X tg (.Call (.Name "reversed" p) [e] [] pos) (RT.iRevA K te) := by subst h; exact RT.pi_revA hg hm he hs
theorem pgT {es : List Expr} {k : Nat} {t : TGs} {n : Nat} {pos : Pos} (h : X.K = K) (hc : X.calm = true) (hp : PGs X es t)
    (hn : (assignEach es X.env).length = n := by rfl) (hst : (assignEach es X.env).findIdx? (·.1) = none := by rfl) : PG X (.Tuple es k pos) (gTup K n t) := by subst h; exact pg_tup hc hp hn hst
theorem peFld {e : Expr} {f : Str} {pos : Pos} {ta : TE} (h : X.K = K) (he : PE X e ta) (hb : attributeBase e f X.env (eval e X.env) = eval e X.env := by rfl) : PE X (.Attribute e f pos) (tFld K ta f) := by subst h; exact pe_fld he hb
def tTruth (K : PySem.W.Frag) (ta : TE) : TT := fun σ H Q => ta σ H fun x H' => ∃ k, TruV K x H' k ∧ Q k H'
theorem ptTruth {a : Expr} {ta : TE} (h : X.K = K) (ha : PE X a ta) (he : ∀ whole, isTrue a X.env whole = (do let v ← whole; standAt a.pos; holding [v] (truthy v)) := by intro _; rfl) : PT X a (tTruth K ta) := by subst h; exact pt_truth ha he
theorem peBm0 {T id : String} {name : Str} {r : V → List V → Hp → VK → Prop} {o : Expr} {to : TE} {apos cpos : Pos} (h : X.K = K) (pa : PlainAttrs T) (slot : Slot T name id) (hty : typeOf (.builtin id) = pure (.type "method_descriptor")) (hm : MtR X id r) (ho : PE X o to)
    (hbase : attributeBase o name X.env (eval o X.env) = eval o X.env := by rfl) (hline : (apos.endLine == cpos.line) = true := by rfl) : PE X (.Call (.Attribute o name apos) [] [] cpos) (tBM0 K T r to) := by subst h; exact pe_bm0 pa slot hty hm ho hbase hline
theorem peBm {T id : String} {name : Str} {r : V → List V → Hp → VK → Prop} {o e : Expr} {es : List Expr} {to : TE} {t : TA} {apos cpos : Pos} (h : X.K = K) (pa : PlainAttrs T) (slot : Slot T name id) (hty : typeOf (.builtin id) = pure (.type "method_descriptor")) (hm : MtR X id r) (ho : PE X o to) (ha : PA X (e :: es) t)
    (hbase : attributeBase o name X.env (eval o X.env) = eval o X.env := by rfl)
    (hfew : ((backTo cpos (starEach (e :: es) X.env)).all (fun x => !x.1) && (backToKw cpos (keywordEach [] X.env)).all (fun x => x.1.isSome)
      && decide ((e :: es).length + ([] : List Keyword).length + (if ([] : List Keyword).isEmpty then 0 else 1) < 30)) = true := by rfl)
    (hline : (apos.endLine == cpos.line) = true := by rfl) (hs : starEach (e :: es) X.env = (false, eval e X.env) :: starEach es X.env := by rfl) (hplain : (backTo cpos (starEach es X.env)).any (·.1) = false := by rfl) : PE X (.Call (.Attribute o name apos) (e :: es) [] cpos) (tBM K T r to t) := by subst h; exact pe_bm pa slot hty hm ho ha hbase hfew hline hs hplain
end
end EV
end
section
set_option Elab.async false
set_option maxRecDepth 100000
set_option maxHeartbeats 4000000
/-! A dict comprehension whose keys are tuples of ints and texts: the layer has it for keys that are ints and texts; turned to tuples by hand. -/
namespace EV
open PySem PySem.Spec PyProof.Rows L2
theorem dictSetT {X : Cx} {pins : List (Addr × Obj)} {σ : L2.St} {H : Hp} {s : Shared} {E : Value → Shared → Prop} {D b : Addr} {kvs : List (List Key × V)} {k : List Key} {v : V} {r : Value} {Q : Unit → Shared → Prop}
    (hu : X.A.units < cLine) (I : Inv X pins σ H s) (hD : H D = some (.dT kvs)) (hb : H b = some (.tup (k.map kV))) (hz : kvs.length < sizeLine) (rv : RelV v r)
    (h : ∀ s', Inv X pins σ (upd H D (.dT (putK kvs k v))) s' → Q () s') : wpAny (model X.prog X.w) X.A (dictSet D (.ref b) r) Q E s := by
  obtain ⟨z, hd, xs, rel, dd⟩ := dt_of I.hok hD
  have e0 : xs.length = kvs.length := (Paired.length rel).symm
  refine wpAny_dictSet_heap (knd := tupleKind (mixKind X.prog X.w)) (hsz := by omega) hu (key_of I.hok hb) dd fun h' dd' hs => h _ ?_
  obtain ⟨q, es, ep, hq, h2, h3, h4, _, h5⟩ := dd'
  have hl : (putK kvs k v).length ≤ sizeLine := by
    have := length_putK kvs k v
    omega
  refine d_write I (by rw [hD]; exact True.intro) hs ⟨q, hq⟩ ⟨hl, hd, _, (rel.put k hb rv).keeps fun c ys ec => ?_, q, es, ep, hq, h2, h3, h4, h5⟩
  have nc : c ≠ D := ne_of ec hD (fun z => nomatch z)
  rw [upd_ne nc]
  exact ec
section
variable {X : Cx}
/-- {k: v for target in iter if ..}, the keys tuples -/
def tDcT (wi : TI) (g : TG) (tt : TT) (tk tv : TE) (vs : List Nat) : TE := fun σ H Q => wi σ H fun J H1 => ∀ D, H1 D = none →
  ∃ W : Nat → Nat → Hp → Prop, (∃ m, W 0 m (upd H1 D (.dT []))) ∧ ∀ i m H, W i m H →
    (J.stop i H ∧ Q (.ref D) H) ∨ (J.go i H ∧ ∃ Nx : Hp → Prop, (∀ H', Nx H' → ∃ m', m' < m ∧ W (i + 1) m' H') ∧
      ∀ x H', J.yld i H x H' → g x (wipe σ vs) H' fun σ2 H2 => wipe σ2 vs = wipe σ vs ∧ tt σ2 H2 fun b H3 =>
        if b = true then tk σ2 H3 fun y H4 => tv σ2 H4 fun z H5 => ∃ kvs k a, y = .ref a ∧ H5 a = some (.tup (k.map kV)) ∧ H5 D = some (.dT kvs) ∧ kvs.length < sizeLine ∧ Nx (upd H5 D (.dT (putK kvs k z))) else Nx H3)
abbrev BlkG (X : Cx) (scope : Scope) (F : Cx → Prop) : Prop := ∀ (s : Shared) (H : Hp) (C : Addr) (cl : List (Str × Addr)) (fp : List Addr), F (X.blk s H scope (compEnvC scope cl C X.env) fp)
theorem dcT_core {pins : List (Addr × Obj)} {s : Shared} {σ : L2.St} {H : Hp} {Q : VK} {kx vx tg iter : Expr} {ifs : List Expr} {scope : Scope} {own : List (Str × Nat)} {pos pos' : Pos} {wi : TI} {g : TG} {tt : TT} {tk tv : TE} {use : Option (Value → Sem Unit)} {Qf : Value → Shared → Prop}
    (hu : X.A.units < cLine) (hc : X.calm = true) (hN : X.N.Nodup) (I : Inv X pins σ H s) (hi : PI X tg iter wi) (ok : BlkOk X.N X.env.scope scope own)
    (hg : BlkG X scope fun Y => PG Y tg g) (ht : BlkG X scope fun Y => PTs Y ifs tt) (hk : BlkG X scope fun Y => PE Y kx tk) (he : BlkG X scope fun Y => PE Y vx tv) (hs : ∀ x, foldedSetIterable iter X.env x = pure x)
    (h : tDcT wi g tt tk tv (own.map (·.2)) σ H Q)
    (hRR : ∀ D C s' m H', Inv X pins σ H' s' → Q (.ref D) H' → s'.heap.Ns C m → FpOk X pins H' C → compPost (model X.prog X.w) X.A X.xe use Qf (.ref D) C (.ok .next) s') :
    wpAny (model X.prog X.w) X.A (comprehension (.DictComp kx vx [⟨tg, iter, ifs, 0⟩] scope pos) scope X.env pos' newDict false (eval iter X.env) use) Qf X.xe s := by
  have hfree : ∀ y ∈ scope.names, y.2 = .free → ∃ c, X.env.cells.lookup y.1 = some c := fun y hy e => (ok.free y hy e).elim (fun k => I.ok.has _ (.inl k)) fun k => I.ok.has _ (.inr k)
  refine wpAny_comprehension_free (use := use) rfl hs (closure_ok hfree) ok.kind (fun y hy e => by rw [ok.uniq y hy, e]) (thn (hi.run pins s σ H _ I h) fun xv s1 hx => thn hx fun itv s2 h2 => ?_)
  obtain ⟨it, fp, tn, J, H2, e, I2, T, st2, f2, q⟩ := h2
  subst e
  refine wpAny_newObj_type (newEnv_comp ?_)
  generalize hD : s2.heap.objs.size = D
  have hDn : H2 D = none := I2.hok.fresh (Nat.le_of_eq hD)
  obtain ⟨W, ⟨m0, w0⟩, turn⟩ := q D hDn
  generalize hs3 : ({ s2 with heap := s2.heap.push { cls := .type "dict", data := .dict #[] } } : Shared) = s3
  have I3 : Inv X pins σ (upd H2 D (.dT [])) s3 := by
    rw [← hs3]
    refine I2.laid (t' := s2.toks) (fun b o e => Heap.get?_push_of_some _ e) (Nat.le_of_eq hD) ?_
    rw [← hD]
    exact dt_empty s2.heap I2.big
  have h3 : s3.heap = s2.heap.push { cls := .type "dict", data := .dict #[] } := by rw [← hs3]
  have sz : ∀ b ∈ fp, b < s2.heap.objs.size := fun b hb => let ⟨_, e, _⟩ := T.obj _ _ st2 b hb; Heap.lt_size e
  have f3 : ∀ b ∈ fp, FpOk X pins (upd H2 D (.dT [])) b ∧ b < s3.heap.objs.size := fun b hb => by
    have hlt := sz b hb
    have nbD : b ≠ D := by rw [← hD]; exact Nat.ne_of_lt hlt
    refine ⟨⟨?_, (f2 b hb).2⟩, by rw [h3, Heap.size_push]; exact Nat.lt_succ_of_lt hlt⟩
    rw [upd_ne nbD]
    exact (f2 b hb).1
  have st3 : tn 0 s3.heap := T.keep _ _ _ st2 fun b _ o e => by rw [h3]; exact Heap.get?_push_of_some _ e
  have I4 := block_start I3 ok hN f3
  show codeAny _ _ (.compStart (.DictComp kx vx [⟨tg, iter, ifs, 0⟩] scope pos) 0 (.ref it) (.ref D) (compEnvC scope (cellsFrom (s3.heap.objs.size + 1) scope.names (cloFrom X.env.cells scope.names [])) s3.heap.objs.size X.env))
    (compPost (model X.prog X.w) X.A X.xe use Qf (.ref D) s3.heap.objs.size) { s3 with heap := pushCells (s3.heap.push { cls := .type "dict", data := .dict #[] }) scope.names }
  generalize hcl : cellsFrom (s3.heap.objs.size + 1) scope.names (cloFrom X.env.cells scope.names []) = cl at I4 ⊢
  have pg := hg s3 (upd H2 D (.dT [])) s3.heap.objs.size cl fp
  have pt := ht s3 (upd H2 D (.dT [])) s3.heap.objs.size cl fp
  have pk := hk s3 (upd H2 D (.dT [])) s3.heap.objs.size cl fp
  have pe := he s3 (upd H2 D (.dT [])) s3.heap.objs.size cl fp
  have nfp : ∀ b ∈ fp, (upd H2 D (.dT [])) b = none := fun b hb => (f3 b hb).1.1
  generalize hce : compEnvC scope cl s3.heap.objs.size X.env = ce at I4 pg pt pk pe ⊢
  have cL : ce.locals = s3.heap.objs.size := by subst hce; rfl
  generalize hH3 : upd H2 D (.dT []) = H3 at I3 I4 pg pt pk pe w0 nfp f3
  generalize hs4 : ({ s3 with heap := pushCells (s3.heap.push { cls := .type "dict", data := .dict #[] }) scope.names } : Shared) = s4 at I4 ⊢
  have st4 : tn 0 s4.heap := T.keep _ _ _ st3 fun b _ o e => by rw [← hs4]; exact pushCells_keeps _ _ _ _ (Heap.get?_push_of_some _ e)
  have stat : ∀ {σ' : L2.St} {H' : Hp} {s' : Shared}, Inv (X.blk s3 H3 scope ce fp) [] σ' H' s' → (∀ b ∈ fp, H' b = none) → ∀ b ∈ fp, FpOk (X.blk s3 H3 scope ce fp) [] H' b := fun I' hn b hb =>
    ⟨hn b hb, (I'.ok.exf b hb).1, I'.ok.exfs b hb, .inl hb, fun x c e => (I'.ok.exf b hb).2 x c e, fun p hp => absurd (show p ∈ ([] : List (Addr × Obj)) ++ [] from hp) (by simp)⟩
  refine codeAny_compStart_dict ?loop (T.self X.A 0 _ _ _ st4 ?loop)
  refine compLoop_anyD (fun n s' => ∃ i H', Inv (X.blk s3 H3 scope ce fp) [] (wipe σ (own.map (·.2))) H' s' ∧ tn i s'.heap ∧ (∀ b ∈ fp, H' b = none) ∧ W i n H') ?_ m0 ⟨0, H3, I4, st4, nfp, w0⟩
  rintro n s5 ⟨i, H5, I5, st5, n5, w5⟩
  rcases turn i n H5 w5 with ⟨stop, qq⟩ | ⟨go, Nx, hNx, step⟩
  · refine thnF (T.done (X.blk s3 H3 scope ce fp) rfl rfl rfl hc i [] s5 _ H5 (fun _ _ => False) I5 (stat I5 n5) st5 stop) fun r s6 ⟨hr, I6⟩ => ?_
    subst hr
    have I7 : Inv X pins σ H5 s6 := I3.call' (ch := fp) I6.os I6.base I6.hok I6.bare fun b hb => let f := (f3 b hb).1.2; ⟨f.2.2.1, f.1, f.2.2.2.1, f.2.2.2.2⟩
    have nC : H5 s3.heap.objs.size = none := by
      have z : H5 ce.locals = none := I6.free
      rwa [cL] at z
    obtain ⟨m, hn, _⟩ := I6.loc
    have hn : s6.heap.Ns ce.locals m := hn
    rw [cL] at hn
    exact hRR D s3.heap.objs.size s6 m H5 I7 qq hn (I3.fpOk (Nat.le_refl _) nC)
  · refine thnF (T.item (X.blk s3 H3 scope ce fp) rfl rfl rfl hc i [] s5 _ H5 (fun _ _ => False) I5 (stat I5 n5) st5 go) fun r s6 ⟨u, hr, h6⟩ => ?_
    subst hr
    refine thnF h6 fun _ s7 ⟨x, H7, I7, r7, y7, st7, n7⟩ => ?_
    have I7' := I7.pinned (stat I7 n7) (T.obj _ _ st7)
    refine thnF (pg.run _ s7 _ H7 x u _ I7' r7 (step x H7 y7)) fun _ s8 ⟨σ8, H8, I8, hw8, q8⟩ => ?_
    refine thnF (pt.run _ s8 σ8 H8 _ I8 q8) fun b s9 ⟨H9, I9, q9⟩ => ?_
    have fin : ∀ {s' : Shared} {H' : Hp}, Inv (X.blk s3 H3 scope ce fp) ([] ++ pinsAt fp s7.heap) σ8 H' s' → Nx H' →
        ∃ m, m < n ∧ ∃ i H', Inv (X.blk s3 H3 scope ce fp) [] (wipe σ (own.map (·.2))) H' s' ∧ tn i s'.heap ∧ (∀ b ∈ fp, H' b = none) ∧ W i m H' := fun {s' H'} I' nx => by
      obtain ⟨m', hm, w'⟩ := hNx H' nx
      have pin' : ∀ b ∈ fp, ∀ o, s7.heap.get? b = some o → s'.heap.get? b = some o ∧ H' b = none := fun b hb o e =>
        let z := I'.pin (b, o) (List.mem_append_right _ (List.mem_append_right _ (mem_pinsAt hb e)))
        ⟨z.1, z.2.1⟩
      have hl : (wipe σ (own.map (·.2))).length = σ8.length := by rw [← hw8, wipe_length]
      refine ⟨m', hm, i + 1, H', (I'.unpinned (pins := [])).weak hl (fun j v e => ?_), T.keep _ _ _ st7 fun b hb o e => (pin' b hb o e).1, fun b hb => ?_, w'⟩
      · rw [← hw8] at e
        exact (wipe_some e).1
      · obtain ⟨o, e, _⟩ := T.obj _ _ st7 b hb
        exact (pin' b hb o e).2
    cases b with
    | false =>
      simp only [Bool.false_eq_true, if_false] at q9 ⊢
      exact fin I9 q9
    | true =>
      simp only [if_true] at q9 ⊢
      refine thnF (pk.run _ s9 σ8 H9 _ I9 q9) fun z s10 ⟨yk, H10, I10, r10, q10⟩ => ?_
      refine thnF (pe.run _ s10 σ8 H10 _ I10 q10) fun z2 s11 ⟨yv, H11, I11, r11, kvs, k, a, ek, ha, hD11, hz11, nx⟩ => ?_
      subst ek
      cases (show z = Value.ref a from r10)
      exact dictSetT (X := X.blk s3 H3 scope ce fp) hu I11 hD11 ha hz11 r11 fun s12 I12 => fin I12 nx
theorem peDcT {kx vx tg iter : Expr} {ifs : List Expr} {scope : Scope} {own : List (Str × Nat)} {pos : Pos} {wi : TI} {g : TG} {tt : TT} {tk tv : TE} (hu : X.A.units + 1 < cLine) (hc : X.calm = true) (hN : X.N.Nodup) (hi : PI X tg iter wi) (ok : BlkOk X.N X.env.scope scope own)
    (hg : BlkG X scope fun Y => PG Y tg g) (ht : BlkG X scope fun Y => PTs Y ifs tt) (hk : BlkG X scope fun Y => PE Y kx tk) (he : BlkG X scope fun Y => PE Y vx tv) (hs : ∀ x, foldedSetIterable iter X.env x = pure x := by intro _; rfl) :
    PE X (.DictComp kx vx [⟨tg, iter, ifs, 0⟩] scope pos) (tDcT wi g tt tk tv (own.map (·.2))) := by
  refine ⟨fun pins s σ H Q I h => ?_⟩
  rw [arm_eval_DictComp]
  refine dcT_core (by omega) hc hN I hi ok hg ht hk he hs h fun D C s' m H' I' q hn f => ⟨m, hn, fun h'' sb => ?_⟩
  obtain ⟨f0, f1, f2, f3, f4, f5⟩ := f
  exact ⟨.ref D, H', I'.turned (t' := s'.toks) (fun b o hb e => (sb.2 b hb).trans e) f0 f1 f3 f4 f5, rfl, q⟩
end
end EV
end
section
set_option Elab.async false
set_option maxRecDepth 100000
set_option maxHeartbeats 4000000
/-! What stands in the heap: data by representation; == and in over them; heaps that keep all but one object. -/
namespace EV
open PySem PySem.Spec PyProof.Rows L2

/-! ### == and in over data -/
def rEqP (K : PySem.W.Frag) (neg : Bool) : R2 := fun x y H Q => ∃ d e, Dp K H x d ∧ Dp K H y e ∧ d.plain = true ∧ e.plain = true ∧ d.depth ≤ 60 ∧ Q (.bl (if neg then !PyData.eqv d e else PyData.eqv d e)) H
def rInP (K : PySem.W.Frag) (neg : Bool) : R2 := fun x y H Q => ∃ d ds, Dp K H x d ∧ Dp K H y (.list ds) ∧ d.plain = true ∧ PyData.plainAll ds = true ∧ d.depth ≤ 60 ∧ Q (.bl (if neg then !(ds.any fun z => PyData.eqv z d) else ds.any fun z => PyData.eqv z d)) H
section
variable {X : Cx} {K : PySem.W.Frag}
theorem opEqP (h : X.K = K) (hu : X.A.units + 64 < cLine) : OpR X (compareOp .Eq) (rEqP K false) := by
  subst h
  intro pins s σ H x y v u Q I rx ry ⟨d, e, hd, he, pd, pe, dd, q⟩
  obtain ⟨as, r1⟩ := Dp.reads I d x v hd rx
  obtain ⟨bs, r2⟩ := Dp.reads I e y u he ry
  exact SeqAt.eq_plain r1 r2 pd pe (by omega) ⟨.bl _, H, I, rfl, q⟩
theorem opNeP (h : X.K = K) (hu : X.A.units + 64 < cLine) : OpR X (compareOp .NotEq) (rEqP K true) := by
  subst h
  intro pins s σ H x y v u Q I rx ry ⟨d, e, hd, he, pd, pe, dd, q⟩
  obtain ⟨as, r1⟩ := Dp.reads I d x v hd rx
  obtain ⟨bs, r2⟩ := Dp.reads I e y u he ry
  exact SeqAt.ne_plain r1 r2 pd pe (by omega) ⟨.bl _, H, I, rfl, q⟩
theorem opInP (h : X.K = K) (hu : X.A.units + 64 < cLine) : OpR X (compareOp .In) (rInP K false) := by
  subst h
  intro pins s σ H x y v u Q I rx ry ⟨d, ds, hd, he, pd, pe, dd, q⟩
  obtain ⟨as, r1⟩ := Dp.reads I d x v hd rx
  obtain ⟨bs, r2⟩ := Dp.reads I (.list ds) y u he ry
  exact SeqAt.in_list_data r2 r1 pe pd (by omega) ⟨.bl _, H, I, rfl, q⟩
theorem opNiP (h : X.K = K) (hu : X.A.units + 64 < cLine) : OpR X (compareOp .NotIn) (rInP K true) := by
  subst h
  intro pins s σ H x y v u Q I rx ry ⟨d, ds, hd, he, pd, pe, dd, q⟩
  obtain ⟨as, r1⟩ := Dp.reads I d x v hd rx
  obtain ⟨bs, r2⟩ := Dp.reads I (.list ds) y u he ry
  exact SeqAt.notIn_list_data r2 r1 pe pd (by omega) ⟨.bl _, H, I, rfl, q⟩
end

/-! ### pairs of lists -/
section
variable {α β γ : Type} {R S : α → β → Prop}
theorem P2.len {xs : List α} {ys : List β} (h : Paired R xs ys) : xs.length = ys.length := Paired.length h
theorem P2.at {xs : List α} {ys : List β} (h : Paired R xs ys) : ∀ {i : Nat} {y : β}, ys[i]? = some y → ∃ x, xs[i]? = some x ∧ R x y := by
  induction h with
  | nil => intro i y e; cases e
  | cons r _ ih =>
    intro i y e
    cases i with
    | zero => cases e; exact ⟨_, rfl, r⟩
    | succ i => exact ih e
theorem P2.at' {xs : List α} {ys : List β} (h : Paired R xs ys) : ∀ {i : Nat} {x : α}, xs[i]? = some x → ∃ y, ys[i]? = some y ∧ R x y := by
  induction h with
  | nil => intro i y e; cases e
  | cons r _ ih =>
    intro i y e
    cases i with
    | zero => cases e; exact ⟨_, rfl, r⟩
    | succ i => exact ih e
theorem P2.mono {xs : List α} {ys : List β} (h : Paired R xs ys) (f : ∀ a b, R a b → S a b) : Paired S xs ys := by
  induction h with
  | nil => exact .nil
  | cons r _ ih => exact .cons (f _ _ r) ih
theorem P2.app {xs us : List α} {ys vs : List β} (h : Paired R xs ys) (g : Paired R us vs) : Paired R (xs ++ us) (ys ++ vs) := by
  induction h with
  | nil => exact g
  | cons r _ ih => exact .cons r ih
theorem P2.snoc {xs : List α} {ys : List β} {x : α} {y : β} (h : Paired R xs ys) (r : R x y) : Paired R (xs ++ [x]) (ys ++ [y]) := P2.app h (.cons r .nil)
theorem P2.take {xs : List α} {ys : List β} (h : Paired R xs ys) : ∀ n, Paired R (xs.take n) (ys.take n) := by
  induction h with
  | nil => intro n; cases n <;> exact .nil
  | cons r _ ih => intro n; cases n with | zero => exact .nil | succ n => exact .cons r (ih n)
theorem P2.drop {xs : List α} {ys : List β} (h : Paired R xs ys) : ∀ n, Paired R (xs.drop n) (ys.drop n) := by
  induction h with
  | nil => intro n; cases n <;> exact .nil
  | cons r t ih => intro n; cases n with | zero => exact .cons r t | succ n => exact ih n
theorem P2.rev {xs : List α} {ys : List β} (h : Paired R xs ys) : Paired R xs.reverse ys.reverse := by
  induction h with
  | nil => exact .nil
  | cons r _ ih => rw [List.reverse_cons, List.reverse_cons]; exact P2.snoc ih r
theorem P2.map {f : β → α} (ys : List β) (h : ∀ y ∈ ys, R (f y) y) : Paired R (ys.map f) ys := by
  induction ys with
  | nil => exact .nil
  | cons y r ih => exact .cons (h y List.mem_cons_self) (ih fun z hz => h z (List.mem_cons_of_mem _ hz))
theorem P2.eq_map {f : β → α} {xs : List α} {ys : List β} (h : Paired (fun a b => a = f b) xs ys) : xs = ys.map f := by
  induction h with
  | nil => rfl
  | cons r _ ih => rw [r, ih]; rfl
theorem P2.nil_iff {xs : List α} {ys : List β} (h : Paired R xs ys) : xs = [] ↔ ys = [] := by
  cases h with
  | nil => exact Iff.intro (fun _ => rfl) (fun _ => rfl)
  | cons => exact Iff.intro (fun e => nomatch e) (fun e => nomatch e)
theorem P2.isEmpty {xs : List α} {ys : List β} (h : Paired R xs ys) : xs.isEmpty = ys.isEmpty := by cases h <;> rfl
theorem P2.mem {xs : List α} {ys : List β} (h : Paired R xs ys) : ∀ {x : α}, x ∈ xs → ∃ y ∈ ys, R x y := by
  induction h with
  | nil => intro x e; cases e
  | cons r _ ih =>
    intro x e
    rcases List.mem_cons.mp e with rfl | e
    · exact ⟨_, List.mem_cons_self, r⟩
    · obtain ⟨y, hy, q⟩ := ih e
      exact ⟨y, List.mem_cons_of_mem _ hy, q⟩
end

/-! ### representations -/
abbrev Rep (α : Type) := Hp → V → α → Prop
def rS : Rep Str := fun _ v s => v = .str s
def rN : Rep Nat := fun _ v n => v = .int n
def rZ : Rep Int := fun _ v n => v = .int n
def rB : Rep Bool := fun _ v b => v = .bl b
def rL {α : Type} (R : Rep α) : Rep (List α) := fun H v xs => ∃ p vs, v = .ref p ∧ H p = some (.lst vs) ∧ Paired (R H) vs xs
def rT {α : Type} (R : Rep α) : Rep (List α) := fun H v xs => ∃ p vs, v = .ref p ∧ H p = some (.tup vs) ∧ Paired (R H) vs xs
def rP {α β : Type} (R : Rep α) (S : Rep β) : Rep (α × β) := fun H v x => ∃ p a b, v = .ref p ∧ H p = some (.tup [a, b]) ∧ R H a x.1 ∧ S H b x.2
def Mono {α : Type} (R : Rep α) : Prop := ∀ (H H' : Hp) (v : V) (x : α), Same H H' → R H v x → R H' v x
theorem Mono.up {α : Type} {R : Rep α} (m : Mono R) {H H' : Hp} {v : V} {x : α} (e : Same H H') (h : R H v x) : R H' v x := m H H' v x e h
section
variable {α β : Type} {R : Rep α} {S : Rep β}
theorem mS : Mono rS := fun _ _ _ _ _ h => h
theorem mN : Mono rN := fun _ _ _ _ _ h => h
theorem mB : Mono rB := fun _ _ _ _ _ h => h
theorem mZ : Mono rZ := fun _ _ _ _ _ h => h
theorem mL (m : Mono R) : Mono (rL R) := fun _ _ _ _ e ⟨p, vs, hv, hp, h⟩ => ⟨p, vs, hv, e _ _ hp, P2.mono h fun _ _ => m.up e⟩
theorem mT (m : Mono R) : Mono (rT R) := fun _ _ _ _ e ⟨p, vs, hv, hp, h⟩ => ⟨p, vs, hv, e _ _ hp, P2.mono h fun _ _ => m.up e⟩
theorem mP (m : Mono R) (n : Mono S) : Mono (rP R S) := fun _ _ _ _ e ⟨p, a, b, hv, hp, h, g⟩ => ⟨p, a, b, hv, e _ _ hp, m.up e h, n.up e g⟩
end
abbrev Row := List Str
abbrev Dem := List Nat × List Row
abbrev rRow : Rep Row := rT rS
abbrev rRows : Rep (List Row) := rL rRow
abbrev rStrs : Rep (List Str) := rL rS
abbrev rNats : Rep (List Nat) := rL rN
abbrev rMenus : Rep (List (List Str)) := rL rStrs
abbrev rDem : Rep Dem := rP rNats rRows
abbrev rDems : Rep (List Dem) := rL rDem
theorem mStrs : Mono rStrs := mL mS
theorem mRow : Mono rRow := mT mS
theorem mRows : Mono rRows := mL mRow
theorem mMenus : Mono rMenus := mL mStrs
theorem mDem : Mono rDem := mP (mL mN) mRows
theorem mDems : Mono rDems := mL mDem
theorem strs_eq {H : Hp} {vs : List V} {xs : List Str} (h : Paired (rS H) vs xs) : vs = xs.map V.str := P2.eq_map h
theorem strs_of {H : Hp} (xs : List Str) : Paired (rS H) (xs.map V.str) xs := P2.map xs fun _ _ => rfl
theorem nats_eq {H : Hp} {vs : List V} {xs : List Nat} (h : Paired (rN H) vs xs) : vs = xs.map fun n : Nat => V.int (n : Int) := P2.eq_map h
theorem bls_eq {H : Hp} {vs : List V} {xs : List Bool} (h : Paired (rB H) vs xs) : vs = xs.map V.bl := P2.eq_map h
theorem nats_of {H : Hp} (xs : List Nat) : Paired (rN H) (xs.map fun n : Nat => V.int (n : Int)) xs := P2.map xs fun _ _ => rfl
theorem rRow.at {H : Hp} {v : V} {r : Row} (h : rRow H v r) : ∃ p, v = .ref p ∧ H p = some (.tup (r.map V.str)) := by
  obtain ⟨p, vs, e, hp, q⟩ := h
  rw [strs_eq q] at hp
  exact ⟨p, e, hp⟩
theorem rRow.of {H : Hp} {p : Addr} {r : Row} (h : H p = some (.tup (r.map V.str))) : rRow H (.ref p) r := ⟨p, _, rfl, h, strs_of r⟩
theorem rStrs.at {H : Hp} {v : V} {r : Row} (h : rStrs H v r) : ∃ p, v = .ref p ∧ H p = some (.lst (r.map V.str)) := by
  obtain ⟨p, vs, e, hp, q⟩ := h
  rw [strs_eq q] at hp
  exact ⟨p, e, hp⟩
theorem rStrs.of {H : Hp} {p : Addr} {r : Row} (h : H p = some (.lst (r.map V.str))) : rStrs H (.ref p) r := ⟨p, _, rfl, h, strs_of r⟩
theorem rNats.at {H : Hp} {v : V} {r : List Nat} (h : rNats H v r) : ∃ p, v = .ref p ∧ H p = some (.lst (r.map fun n : Nat => V.int (n : Int))) := by
  obtain ⟨p, vs, e, hp, q⟩ := h
  rw [nats_eq q] at hp
  exact ⟨p, e, hp⟩
theorem rNats.of {H : Hp} {p : Addr} {r : List Nat} (h : H p = some (.lst (r.map fun n : Nat => V.int (n : Int)))) : rNats H (.ref p) r := ⟨p, _, rfl, h, nats_of r⟩

theorem rRow.upL {H : Hp} {D : Addr} {a : List V} {o : HO} {v : V} {r : Row} (hD : H D = some (.lst a)) (h : rRow H v r) : rRow (upd H D o) v r := by
  obtain ⟨p, vs, e, hp, q⟩ := h
  exact ⟨p, vs, e, by rw [upd_ne (ne_of hp hD (fun z => nomatch z))]; exact hp, q⟩
/-! ### as data -/
structure Enc {α : Type} (R : Rep α) (e : α → PyData) : Prop where
  dp : ∀ (K : PySem.W.Frag) {H : Hp} {v : V} {x : α}, R H v x → Dp K H v (e x)
  plain : ∀ x, (e x).plain = true
  depth : ∀ x, (e x).depth ≤ 8
  eqv : ∀ x y, PyData.eqv (e x) (e y) = true ↔ x = y
theorem eS : Enc rS PyData.str := ⟨fun K H v x h => by cases h; exact .str x, fun _ => rfl, fun _ => by simp [PyData.depth], fun x y => by simp [PyData.eqv]⟩
theorem eN : Enc rN (fun n : Nat => PyData.int (n : Int)) := ⟨fun K H v x h => by cases h; exact .int _, fun _ => rfl, fun _ => by simp [PyData.depth], fun x y => by simp [PyData.eqv]; omega⟩
theorem dpAll {α : Type} {R : Rep α} {e : α → PyData} (E : Enc R e) (K : PySem.W.Frag) {H : Hp} {vs : List V} {xs : List α} (h : Paired (R H) vs xs) : DpAll K H vs (xs.map e) := by
  induction h with
  | nil => exact .nil
  | cons r _ ih => exact .cons (E.dp K r) ih
theorem plain_all {α : Type} {R : Rep α} {e : α → PyData} (E : Enc R e) (xs : List α) : PyData.plainAll (xs.map e) = true := by
  induction xs with
  | nil => rfl
  | cons x r ih => rw [List.map_cons, PyData.plainAll, E.plain, ih]; rfl
theorem eqv_all {α : Type} {R : Rep α} {e : α → PyData} (E : Enc R e) : ∀ xs ys : List α, PyData.eqvAll (xs.map e) (ys.map e) = true ↔ xs = ys
  | [], [] => by simp [PyData.eqvAll]
  | [], _ :: _ => by simp [PyData.eqvAll]
  | _ :: _, [] => by simp [PyData.eqvAll]
  | x :: xs, y :: ys => by
    rw [List.map_cons, List.map_cons, PyData.eqvAll, Bool.and_eq_true, E.eqv, eqv_all E xs ys, List.cons.injEq]
theorem depth_all {α : Type} {e : α → PyData} {n : Nat} (h : ∀ x, (e x).depth ≤ n) (xs : List α) : PyData.depthAll (xs.map e) ≤ n := by
  induction xs with
  | nil => rw [List.map_nil, PyData.depthAll]; exact Nat.zero_le _
  | cons x r ih => rw [List.map_cons, PyData.depthAll]; exact Nat.max_le.mpr ⟨h x, ih⟩
/-- rows -/
def dRow (r : Row) : PyData := .tuple (r.map PyData.str)
theorem eRow : Enc rRow dRow where
  dp K H v x := fun ⟨p, vs, e, hp, q⟩ => by subst e; exact .tup (SqT.of hp) (dpAll eS K q)
  plain x := plain_all eS x
  depth x := by
    have h := depth_all (e := PyData.str) (n := 0) (fun _ => by simp [PyData.depth]) x
    rw [dRow, PyData.depth]
    omega
  eqv x y := by rw [dRow, dRow, PyData.eqv]; exact eqv_all eS x y
def dStrs (r : Row) : PyData := .list (r.map PyData.str)
theorem eStrs : Enc rStrs dStrs where
  dp K H v x := fun ⟨p, vs, e, hp, q⟩ => by subst e; exact .lst (SqL.of hp) (dpAll eS K q)
  plain x := plain_all eS x
  depth x := by
    have h := depth_all (e := PyData.str) (n := 0) (fun _ => by simp [PyData.depth]) x
    rw [dStrs, PyData.depth]
    omega
  eqv x y := by rw [dStrs, dStrs, PyData.eqv]; exact eqv_all eS x y
def dNats (r : List Nat) : PyData := .list (r.map fun n : Nat => PyData.int (n : Int))
theorem eNats : Enc rNats dNats where
  dp K H v x := fun ⟨p, vs, e, hp, q⟩ => by subst e; exact .lst (SqL.of hp) (dpAll eN K q)
  plain x := plain_all eN x
  depth x := by
    have h := depth_all (e := fun n : Nat => PyData.int (n : Int)) (n := 0) (fun _ => by simp [PyData.depth]) x
    rw [dNats, PyData.depth]
    omega
  eqv x y := by rw [dNats, dNats, PyData.eqv]; exact eqv_all eN x y
section
variable {α : Type} [DecidableEq α] {R : Rep α} {e : α → PyData} {K : PySem.W.Frag} {H : Hp} {v w : V} {x y : α} {Q : VK}
theorem any_mem (E : Enc R e) (x : α) (xs : List α) : ((xs.map e).any fun z => PyData.eqv z (e x)) = decide (x ∈ xs) := by
  rw [Bool.eq_iff_iff, List.any_eq_true, decide_eq_true_eq]
  constructor
  · rintro ⟨z, hz, q⟩
    obtain ⟨y, hy, rfl⟩ := List.mem_map.mp hz
    rw [← (E.eqv y x).mp q]
    exact hy
  · intro h
    exact ⟨e x, List.mem_map.mpr ⟨x, h, rfl⟩, (E.eqv x x).mpr rfl⟩
theorem eqv_dec (E : Enc R e) : PyData.eqv (e x) (e y) = decide (x = y) := by rw [Bool.eq_iff_iff, E.eqv, decide_eq_true_eq]
theorem w_eq (E : Enc R e) (h : R H v x) (g : R H w y) (q : Q (.bl (decide (x = y))) H) : rEqP K false v w H Q :=
  ⟨e x, e y, E.dp K h, E.dp K g, E.plain x, E.plain y, Nat.le_trans (E.depth x) (by decide), by rw [eqv_dec E]; exact q⟩
theorem w_ne (E : Enc R e) (h : R H v x) (g : R H w y) (q : Q (.bl (!decide (x = y))) H) : rEqP K true v w H Q :=
  ⟨e x, e y, E.dp K h, E.dp K g, E.plain x, E.plain y, Nat.le_trans (E.depth x) (by decide), by rw [eqv_dec E]; exact q⟩
theorem w_in {xs : List α} (E : Enc R e) (h : R H v x) (g : rL R H w xs) (q : Q (.bl (decide (x ∈ xs))) H) : rInP K false v w H Q := by
  obtain ⟨p, vs, rfl, hp, ps⟩ := g
  exact ⟨e x, xs.map e, E.dp K h, .lst (SqL.of hp) (dpAll E K ps), E.plain x, plain_all E xs, Nat.le_trans (E.depth x) (by decide), by rw [any_mem E]; exact q⟩
theorem w_ni {xs : List α} (E : Enc R e) (h : R H v x) (g : rL R H w xs) (q : Q (.bl (!decide (x ∈ xs))) H) : rInP K true v w H Q := by
  obtain ⟨p, vs, rfl, hp, ps⟩ := g
  exact ⟨e x, xs.map e, E.dp K h, .lst (SqL.of hp) (dpAll E K ps), E.plain x, plain_all E xs, Nat.le_trans (E.depth x) (by decide), by rw [any_mem E]; exact q⟩
end

/-! ### all rows -/
def ext1 (rows : List Row) (m : List Str) : List Row := rows.flatMap fun r => m.map fun x => r ++ [x]
def prodL (ms : List (List Str)) : List Row := ms.foldl ext1 [[]]
theorem prodL_snoc (ms : List (List Str)) (m : List Str) : prodL (ms ++ [m]) = ext1 (prodL ms) m := by unfold prodL; rw [List.foldl_append]; rfl
theorem ext1_len (rows : List Row) (m : List Str) : (ext1 rows m).length = rows.length * m.length := by
  induction rows with
  | nil => simp [ext1]
  | cons r t ih =>
    have e : ext1 (r :: t) m = (m.map fun x => r ++ [x]) ++ ext1 t m := rfl
    rw [e, List.length_append, List.length_map, ih, List.length_cons, Nat.succ_mul, Nat.add_comm]
theorem ext1_snoc (rows : List Row) (r : Row) (m : List Str) : ext1 (rows ++ [r]) m = ext1 rows m ++ m.map fun x => r ++ [x] := by simp [ext1]
theorem prodL_len : ∀ (ms : List (List Str)) (r : Row), r ∈ prodL ms → r.length = ms.length := by
  have g : ∀ (ms : List (List Str)) (rows : List Row) (n : Nat), (∀ r ∈ rows, r.length = n) → ∀ r ∈ ms.foldl ext1 rows, r.length = n + ms.length := by
    intro ms
    induction ms with
    | nil => intro rows n h r hr; exact h r hr
    | cons m t ih =>
      intro rows n h r hr
      rw [List.foldl_cons] at hr
      rw [ih (ext1 rows m) (n + 1) ?_ r hr, List.length_cons, Nat.add_assoc, Nat.add_comm 1]
      intro r' hr'
      obtain ⟨a, ha, h2⟩ := List.mem_flatMap.mp hr'
      obtain ⟨x, _, rfl⟩ := List.mem_map.mp h2
      rw [List.length_append, h a ha, List.length_singleton]
  intro ms r hr
  rw [g ms [[]] 0 (fun r hr => by rw [List.mem_singleton] at hr; rw [hr]; rfl) r hr, Nat.zero_add]
/-! ### plain data, of at most so many levels -/
inductive rDat (H : Hp) : Nat → V → PyData → Prop
  | non (n : Nat) : rDat H (n + 1) .non .none
  | int (n : Nat) (i : Int) : rDat H (n + 1) (.int i) (.int i)
  | str (n : Nat) (s : Str) : rDat H (n + 1) (.str s) (.str s)
  | lst {n : Nat} {p : Addr} {vs : List V} {ds : List PyData} : H p = some (.lst vs) → vs.length = ds.length → ds.length ≤ 100000 → (∀ (i : Nat) (v : V) (d : PyData), vs[i]? = some v → ds[i]? = some d → rDat H n v d) → rDat H (n + 1) (.ref p) (.list ds)
  | tup {n : Nat} {p : Addr} {vs : List V} {ds : List PyData} : H p = some (.tup vs) → vs.length = ds.length → ds.length ≤ 100000 → (∀ (i : Nat) (v : V) (d : PyData), vs[i]? = some v → ds[i]? = some d → rDat H n v d) → rDat H (n + 1) (.ref p) (.tuple ds)
theorem rDat.up {H H' : Hp} {n : Nat} {v : V} {d : PyData} (e : Same H H') (h : rDat H n v d) : rDat H' n v d := by
  induction h with
  | non n => exact .non n
  | int n i => exact .int n i
  | str n s => exact .str n s
  | lst h1 h2 h3 _ ih => exact .lst (e _ _ h1) h2 h3 ih
  | tup h1 h2 h3 _ ih => exact .tup (e _ _ h1) h2 h3 ih
theorem rDat.le {H : Hp} {n m : Nat} {v : V} {d : PyData} (h : rDat H n v d) : n ≤ m → rDat H m v d := by
  induction h generalizing m with
  | non n => intro l; obtain ⟨m, rfl⟩ : ∃ k, m = k + 1 := ⟨m - 1, by omega⟩; exact .non m
  | int n i => intro l; obtain ⟨m, rfl⟩ : ∃ k, m = k + 1 := ⟨m - 1, by omega⟩; exact .int m i
  | str n s => intro l; obtain ⟨m, rfl⟩ : ∃ k, m = k + 1 := ⟨m - 1, by omega⟩; exact .str m s
  | lst h1 h2 h3 _ ih => intro l; obtain ⟨m, rfl⟩ : ∃ k, m = k + 1 := ⟨m - 1, by omega⟩; exact .lst h1 h2 h3 fun i v d a b => ih i v d a b (by omega)
  | tup h1 h2 h3 _ ih => intro l; obtain ⟨m, rfl⟩ : ∃ k, m = k + 1 := ⟨m - 1, by omega⟩; exact .tup h1 h2 h3 fun i v d a b => ih i v d a b (by omega)
/-- R tells data of n levels -/
def Tells {α : Type} (R : Rep α) (n : Nat) (e : α → PyData) (ok : α → Prop) : Prop := ∀ (H : Hp) (v : V) (x : α), ok x → R H v x → rDat H n v (e x)
theorem tS : Tells rS 1 PyData.str (fun _ => True) := fun H v x _ h => by cases h; exact .str 0 _
theorem tN : Tells rN 1 (fun n : Nat => PyData.int (n : Int)) (fun _ => True) := fun H v x _ h => by cases h; exact .int 0 _
theorem Tells.all {α : Type} {R : Rep α} {n : Nat} {e : α → PyData} {ok : α → Prop} (t : Tells R n e ok) {H : Hp} {vs : List V} {xs : List α} (h : Paired (R H) vs xs) (hk : ∀ x ∈ xs, ok x) : ∀ (i : Nat) (v : V) (d : PyData), vs[i]? = some v → (xs.map e)[i]? = some d → rDat H n v d := by
  intro i v d hv hd
  obtain ⟨x, hx, r⟩ := P2.at' h hv
  rw [List.getElem?_map, hx] at hd
  cases hd
  exact t H v x (hk x (List.mem_of_getElem? hx)) r
def OkL {α : Type} (ok : α → Prop) (xs : List α) : Prop := xs.length ≤ 100000 ∧ ∀ x ∈ xs, ok x
theorem tL {α : Type} {R : Rep α} {n : Nat} {e : α → PyData} {ok : α → Prop} (t : Tells R n e ok) : Tells (rL R) (n + 1) (fun xs => .list (xs.map e)) (OkL ok) := by
  rintro H v xs ⟨hz, hk⟩ ⟨p, vs, rfl, hp, q⟩
  exact .lst hp (by rw [List.length_map]; exact P2.len q) (by rw [List.length_map]; exact hz) (t.all q hk)
theorem tT' {α : Type} {R : Rep α} {n : Nat} {e : α → PyData} {ok : α → Prop} (t : Tells R n e ok) : Tells (rT R) (n + 1) (fun xs => .tuple (xs.map e)) (OkL ok) := by
  rintro H v xs ⟨hz, hk⟩ ⟨p, vs, rfl, hp, q⟩
  exact .tup hp (by rw [List.length_map]; exact P2.len q) (by rw [List.length_map]; exact hz) (t.all q hk)
theorem rDat.pair {H : Hp} {n : Nat} {p : Addr} {a b : V} {d e : PyData} (hp : H p = some (.tup [a, b])) (h1 : rDat H n a d) (h2 : rDat H n b e) : rDat H (n + 1) (.ref p) (.tuple [d, e]) := by
  refine .tup hp rfl (Nat.le_of_ble_eq_true rfl) fun i v d' hv hd => ?_
  match i, hv, hd with
  | 0, hv, hd => cases hv; cases hd; exact h1
  | 1, hv, hd => cases hv; cases hd; exact h2
theorem tP' {α β : Type} {R : Rep α} {S : Rep β} {n : Nat} {e : α → PyData} {f : β → PyData} {ok : α → Prop} {ok' : β → Prop} (t : Tells R n e ok) (u : Tells S n f ok') : Tells (rP R S) (n + 1) (fun x => .tuple [e x.1, f x.2]) (fun x => ok x.1 ∧ ok' x.2) := by
  rintro H v x ⟨h1, h2⟩ ⟨p, a, b, rfl, hp, ha, hb⟩
  exact .pair hp (t H a x.1 h1 ha) (u H b x.2 h2 hb)
theorem Tells.le {α : Type} {R : Rep α} {n m : Nat} {e : α → PyData} {ok : α → Prop} (t : Tells R n e ok) (h : n ≤ m) : Tells R m e ok := fun H v x a b => (t H v x a b).le h
theorem tStrs : Tells rStrs 2 (fun xs => .list (xs.map PyData.str)) (OkL fun _ => True) := tL tS
theorem tRow : Tells rRow 2 (fun xs => .tuple (xs.map PyData.str)) (OkL fun _ => True) := tT' tS
theorem tMenus : Tells rMenus 3 (fun xs => .list (xs.map fun ys => .list (ys.map PyData.str))) (OkL (OkL fun _ => True)) := tL tStrs
theorem tDem : Tells rDem 4 (fun d => .tuple [.list (d.1.map fun n : Nat => PyData.int (n : Int)), .list (d.2.map fun ys => .tuple (ys.map PyData.str))]) (fun d => OkL (fun _ => True) d.1 ∧ OkL (OkL fun _ => True) d.2) := tP' ((tL tN).le (by decide)) (tL tRow)
theorem tDems : Tells rDems 5 (fun xs => .list (xs.map fun d => .tuple [.list (d.1.map fun n : Nat => PyData.int (n : Int)), .list (d.2.map fun ys => .tuple (ys.map PyData.str))])) (OkL fun d => OkL (fun _ => True) d.1 ∧ OkL (OkL fun _ => True) d.2) := tL tDem
/-! ### heaps -/
/-- all but the object at s is as it was -/
def Sb (s : Addr) (H H' : Hp) : Prop := ∀ b o, b ≠ s → H b = some o → H' b = some o
theorem Sb.refl (s : Addr) (H : Hp) : Sb s H H := fun _ _ _ h => h
theorem Sb.trans {s : Addr} {H H1 H2 : Hp} (a : Sb s H H1) (b : Sb s H1 H2) : Sb s H H2 := fun c o n h => b c o n (a c o n h)
theorem Sb.upd {s : Addr} {H H1 : Hp} {o : HO} (a : Sb s H H1) : Sb s H (upd H1 s o) := fun c u n h => by rw [upd_ne n]; exact a c u n h
theorem Sb.new {s : Addr} {H H1 : Hp} {p : Addr} {o : HO} (a : Sb s H H1) (hp : H1 p = none) : Sb s H (L2.upd H1 p o) := fun c u n h => by
  rw [upd_ne (ne_of_none (a c u n h) hp)]
  exact a c u n h
/-- a new object of this call changes again -/
theorem Sb.mut {s : Addr} {H H1 : Hp} {p : Addr} {o : HO} (a : Sb s H H1) (hp : H p = none) : Sb s H (L2.upd H1 p o) := fun c u n h => by
  rw [upd_ne (ne_of_none h hp)]
  exact a c u n h
theorem Same.sb {s : Addr} {H H' : Hp} (a : Same H H') : Sb s H H' := fun c o _ h => a c o h
theorem Same.new {H H1 : Hp} {p : Addr} {o : HO} (a : Same H H1) (hp : H1 p = none) : Same H (upd H1 p o) := fun c u h => by
  rw [upd_ne (ne_of_none (a c u h) hp)]
  exact a c u h
theorem Same.mut {H H1 : Hp} {p : Addr} {o : HO} (a : Same H H1) (hp : H p = none) : Same H (upd H1 p o) := fun c u h => by
  rw [upd_ne (ne_of_none h hp)]
  exact a c u h
/-- D: what stands for good, within H; s, an object that changes, is not in it -/
structure Reg (D H : Hp) (s : Addr) : Prop where
  same : Same D H
  out : D s = none
theorem Reg.ne {D H : Hp} {s b : Addr} {o : HO} (r : Reg D H s) (h : D b = some o) : b ≠ s := ne_of_none h r.out
theorem Reg.sb {D H H' : Hp} {s : Addr} (r : Reg D H s) (a : Sb s H H') : Reg D H' s := ⟨fun c o h => a c o (r.ne h) (r.same c o h), r.out⟩
theorem Reg.new {D H : Hp} {s p : Addr} {o : HO} (r : Reg D H s) (hp : H p = none) : Reg D (upd H p o) s := ⟨Same.new r.same hp, r.out⟩
theorem Reg.mut {D H : Hp} {s p : Addr} {o : HO} (r : Reg D H s) (hp : D p = none) : Reg D (upd H p o) s := ⟨Same.mut r.same hp, r.out⟩
theorem Reg.free {D H : Hp} {s p : Addr} (r : Reg D H s) (hp : H p = none) : D p = none := r.same.free hp
/-- an object is laid down for good -/
theorem Reg.add {D H : Hp} {s p : Addr} {o : HO} (r : Reg D H s) (hp : H p = some o) (hD : D p = none) (hs : p ≠ s) : Reg (upd D p o) H s where
  same := fun c u h => by
    by_cases e : c = p
    · subst e
      rw [upd_same] at h
      cases h
      exact hp
    · rw [upd_ne e] at h
      exact r.same c u h
  out := by rw [upd_ne (Ne.symm hs)]; exact r.out
theorem same_add {D : Hp} {p : Addr} {o : HO} (h : D p = none) : Same D (upd D p o) := Same.new (Same.refl D) h
/-- the drawing list -/
def Rng (H : Hp) (s : Addr) : Prop := ∃ a m n : Int, H s = some (.lst [.int a, .int m, .int n])
theorem Rng.new {H : Hp} {s p : Addr} {o : HO} (h : Rng H s) (hp : H p = none) : Rng (upd H p o) s := by
  obtain ⟨a, m, n, e⟩ := h
  exact ⟨a, m, n, by rw [upd_ne (ne_of_none e hp)]; exact e⟩
theorem Rng.other {H : Hp} {s p : Addr} {o : HO} (h : Rng H s) (hp : s ≠ p) : Rng (upd H p o) s := by
  obtain ⟨a, m, n, e⟩ := h
  exact ⟨a, m, n, by rw [upd_ne hp]; exact e⟩
theorem Rng.ne {H : Hp} {s p : Addr} (h : Rng H s) (hp : H p = none) : p ≠ s := by
  obtain ⟨a, m, n, e⟩ := h
  exact (ne_of_none e hp).symm
theorem Rng.nep {H : Hp} {s : Addr} (h : Rng H s) {p : Addr} (hp : H p = none) : s ≠ p := (h.ne hp).symm
end EV
end
section
set_option Elab.async false
set_option maxRecDepth 100000
set_option maxHeartbeats 4000000
/-! Readings, step by step: one rule for each reading's head. -/
namespace EV
open PySem PySem.Spec PyProof.Rows L2
theorem perm_erase {α : Type} : ∀ (l : List α) (i : Nat) (h : i < l.length), (l[i] :: l.eraseIdx i).Perm l
  | [], i, h => absurd h (Nat.not_lt_zero _)
  | a :: r, 0, _ => List.Perm.refl _
  | a :: r, i + 1, h => (List.Perm.swap a (r[i]'(Nat.lt_of_succ_lt_succ h)) (r.eraseIdx i)).trans ((perm_erase r i (Nat.lt_of_succ_lt_succ h)).cons a)
theorem inV_str (w : Str) (ns : List Str) : inV (.str w) (ns.map V.str) = decide (w ∈ ns) := by
  unfold inV
  rw [List.any_map, Bool.eq_iff_iff, List.any_eq_true, decide_eq_true_eq]
  constructor
  · rintro ⟨y, hy, e⟩
    have e' : eqV (.str y) (.str w) = true := e
    have : y = w := by simpa [eqV] using e'
    rw [← this]; exact hy
  · intro h
    exact ⟨w, h, by show eqV (.str w) (.str w) = true; simp [eqV]⟩
theorem flat_strs (ns : List Str) : (ns.map V.str).all flatV = true := by rw [List.all_map, List.all_eq_true]; intro x _; rfl
theorem slen_app (a b : Str) : (a ++ b).length = a.length + b.length := by
  show (a.cps ++ b.cps).size = a.cps.size + b.cps.size
  exact Array.size_append
theorem slen_one (c : Nat) : (⟨#[c]⟩ : Str).length = 1 := rfl
/-- one of more than n unlike things is not among n -/
theorem pigeon {α : Type} [DecidableEq α] : ∀ (xs ns : List α), xs.Nodup → ns.length < xs.length → ∃ x ∈ xs, x ∉ ns
  | [], ns, _, h => absurd h (Nat.not_lt_zero _)
  | x :: r, ns, nd, h => by
    by_cases hx : x ∈ ns
    · obtain ⟨nr, nd'⟩ := List.nodup_cons.mp nd
      have hl : (ns.erase x).length < r.length := by
        rw [List.length_erase_of_mem hx]
        have : 0 < ns.length := List.length_pos_of_mem hx
        simp only [List.length_cons] at h
        omega
      obtain ⟨y, hy, ny⟩ := pigeon r (ns.erase x) nd' hl
      refine ⟨y, List.mem_cons_of_mem _ hy, fun hm => ny ?_⟩
      have ne : y ≠ x := fun e => nr (e ▸ hy)
      exact (List.mem_erase_of_ne ne).mpr hm
    · exact ⟨x, List.mem_cons_self, hx⟩
/-- an if, then the rest: what the ways have in common is said between them -/
def tMid (t u : TS) : TS := fun D σ H => ∃ M : L2.St → Hp → Prop, t { D with nx := M } σ H ∧ ∀ σ' H', M σ' H' → u D σ' H'
theorem pssCut {X : Cx} {st : Stmt} {rest : List Stmt} {t u : TS} (h1 : PS X st t) (h2 : PSs X rest u) : PSs X (st :: rest) (tMid t u) := by
  refine ⟨fun pins s σ H D I ⟨M, hm, hu⟩ => wpAny_execs_cons (thn (h1.run pins s σ H { D with nx := M } I hm) fun f s1 q => ?_)⟩
  cases f with
  | next => exact let ⟨σ', H', I', q⟩ := q; h2.run pins s1 σ' H' D I' (hu σ' H' q)
  | ret v => exact q
  | brk => exact q
  | cont => exact q
/-- the spare names: w0, w1, .. -/
def spare (k : Nat) : Str := "w" ++ Str.ofString (toString ((k : Nat) : Int))
theorem spare_inj {m n : Nat} (h : spare m = spare n) : m = n := by
  have e : (spare m).cps.toList = (spare n).cps.toList := by rw [h]
  have f : ∀ k : Nat, (spare k).cps.toList = ("w" : Str).cps.toList ++ TL.numL k := fun k => by
    show ((("w" : Str).cps ++ (Str.ofString (toString ((k : Nat) : Int))).cps)).toList = _
    rw [Array.toList_append]
    exact congrArg _ (TL.tl_num k)
  rw [f, f] at e
  exact TL.numL_inj (List.append_cancel_left e)
theorem num_len {n : Nat} (h : n < 10 ^ 6) : (Str.ofString (toString ((n : Nat) : Int))).length ≤ 6 := by
  have e : (Str.ofString (toString ((n : Nat) : Int))).length = (TL.numL n).length := by
    rw [← TL.tl_num]
    exact (Array.length_toList ..).symm
  rw [e, TL.numL, List.length_map]
  exact (Nat.length_toDigits_le_iff (by decide) (by decide)).mpr h
theorem num_log {n : Nat} (h : n < 10 ^ 6) : ((n : Nat) : Int).natAbs.log2 < 1920 := PySem.Flt.log2_lt_of (by decide) (Nat.lt_trans (by simpa using h) (by decide : 10 ^ 6 < 2 ^ 1920))
theorem spares_nodup (n : Nat) : ((List.range n).map spare).Nodup := by
  unfold List.Nodup
  rw [List.pairwise_map]
  exact List.Pairwise.imp (fun h e => h (spare_inj e)) List.nodup_range
/-- an if whose test has several ways: they are joined ahead of the branches -/
def tIfM (c : TT) (t u : TS) : TS := fun D σ H => ∃ M : Bool → Hp → Prop, c σ H M ∧ ∀ b H1, M b H1 → if b = true then t D σ H1 else u D σ H1
theorem psIfM {X : Cx} {c : Expr} {a b : List Stmt} {pos : Pos} {tc : TT} {t u : TS} (hc : PT X c tc) (ha : PSs X a t) (hb : PSs X b u) : PS X (.If c a b pos) (tIfM tc t u) := by
  refine ⟨fun pins s σ H D I ⟨M, h1, h2⟩ => wpAny_If (thn (hc.run pins s σ H M I h1) fun k s1 ⟨H1, I1, q1⟩ => ?_)⟩
  have q2 := h2 k H1 q1
  cases k with
  | true => exact ha.run pins s1 σ H1 D I1 q2
  | false => exact hb.run pins s1 σ H1 D I1 q2
/-- and, or with a left side of several ways -/
def tAndM (t u : TT) : TT := fun σ H Q => ∃ M : Bool → Hp → Prop, t σ H M ∧ ∀ c H1, M c H1 → if c = true then u σ H1 Q else Q false H1
def tOrM (t u : TT) : TT := fun σ H Q => ∃ M : Bool → Hp → Prop, t σ H M ∧ ∀ c H1, M c H1 → if c = true then Q true H1 else u σ H1 Q
theorem pwAndM {X : Cx} {a b : Expr} {rest : List Expr} {pos : Pos} {t u : TT} (ha : PT X a t) (hb : PW X (.BoolOp .And (b :: rest) pos) u) : PW X (.BoolOp .And (a :: b :: rest) pos) (tAndM t u) := by
  refine ⟨fun wh pins s σ H Q I ⟨M, h1, h2⟩ => isTrue_and (thn (ha.run pins s σ H M I h1) fun c s1 ⟨H1, I1, q1⟩ => ?_)⟩
  have q2 := h2 c H1 q1
  cases c with
  | true => exact hb.run wh pins s1 σ H1 Q I1 q2
  | false => exact ⟨H1, I1, q2⟩
theorem pwOrM {X : Cx} {a b : Expr} {rest : List Expr} {pos : Pos} {t u : TT} (ha : PT X a t) (hb : PW X (.BoolOp .Or (b :: rest) pos) u) : PW X (.BoolOp .Or (a :: b :: rest) pos) (tOrM t u) := by
  refine ⟨fun wh pins s σ H Q I ⟨M, h1, h2⟩ => isTrue_or (thn (ha.run pins s σ H M I h1) fun c s1 ⟨H1, I1, q1⟩ => ?_)⟩
  have q2 := h2 c H1 q1
  cases c with
  | true => exact ⟨H1, I1, q2⟩
  | false => exact hb.run wh pins s1 σ H1 Q I1 q2
section
variable {X : Cx} {K : PySem.W.Frag} {σ : L2.St} {H : Hp} {Q : VK} {QT : Bool → Hp → Prop} {QA : List V → Hp → Prop} {D : Ends} {ta tb te : TE} {tt tu : TT} {t1 t2 t u : TS} {ar : TA} {r r' : R2} {i : Nat} {v x y z : V} {p l s : Addr} {xs ys vs : List V} {o : HO}
theorem upd_old {H : Hp} {p b : Addr} {o u : HO} (h : H b = some u) (hp : H p = none) : upd H p o b = some u := by rw [upd_ne (ne_of_none h hp)]; exact h
theorem upd_oth {H : Hp} {p b : Addr} {o u : HO} (n : b ≠ p) (h : H b = some u) : upd H p o b = some u := by rw [upd_ne n]; exact h
theorem upd_non {H : Hp} {p b : Addr} {o : HO} (h : upd H p o b = none) : H b = none ∧ b ≠ p := by
  by_cases e : b = p
  · subst e; rw [upd_same] at h; cases h
  · rw [upd_ne e] at h; exact ⟨h, e⟩
/- statements -/
theorem i_seq (h : t1 { D with nx := t2 D } σ H) : tSeq t1 t2 D σ H := h
theorem i_mid (M : L2.St → Hp → Prop) (h1 : t1 { D with nx := M } σ H) (h2 : ∀ σ' H', M σ' H' → t2 D σ' H') : tMid t1 t2 D σ H := ⟨M, h1, h2⟩
theorem i_ifM (M : Bool → Hp → Prop) (h1 : tt σ H M) (h2 : ∀ b H1, M b H1 → if b = true then t1 D σ H1 else t2 D σ H1) : tIfM tt t1 t2 D σ H := ⟨M, h1, h2⟩
theorem i_andM (M : Bool → Hp → Prop) (h1 : tt σ H M) (h2 : ∀ c H1, M c H1 → if c = true then tu σ H1 QT else QT false H1) : tAndM tt tu σ H QT := ⟨M, h1, h2⟩
theorem i_orM (M : Bool → Hp → Prop) (h1 : tt σ H M) (h2 : ∀ c H1, M c H1 → if c = true then QT true H1 else tu σ H1 QT) : tOrM tt tu σ H QT := ⟨M, h1, h2⟩
theorem i_sfld {f : Str} (h : tb σ H fun y H1 => ta σ H1 fun x H2 => ∃ a C dx fs, x = .ref a ∧ H2 a = some (.ins C dx fs) ∧ Cls K C ∧ NoAttr K C f ∧ fs.length < 1000 ∧ D.nx σ (upd H2 a (.ins C dx (putF f y fs)))) : sFld K ta tb f D σ H := h
theorem i_next (h : D.nx σ H) : tNext D σ H := h
theorem i_asg {g : TG} (h : te σ H fun x H1 => g x σ H1 D.nx) : tAsg te g D σ H := h
theorem i_gname {QG : L2.St → Hp → Prop} (h : QG (σ.set i (some v)) H) : gName i v σ H QG := h
theorem i_drop (h : te σ H fun _ H1 => D.nx σ H1) : tDrop te D σ H := h
theorem i_ret (h : te σ H D.rt) : tRet te D σ H := h
theorem i_retN (h : D.rt .non H) : tRetN D σ H := h
theorem i_if (h : tt σ H fun b H1 => if b = true then t D σ H1 else u D σ H1) : tIfS tt t u D σ H := h
theorem i_break (h : D.bk σ H) : tBreak D σ H := h
theorem i_cont (h : D.ct σ H) : tCont D σ H := h
theorem i_par {j : Nat} (h : ar σ H fun vs H1 => ∃ v w, vs = [v, w] ∧ D.nx ((σ.set i (some v)).set j (some w)) H1) : tPar i j ar D σ H := h
theorem i_par1 {D : V → V → Prop} (h : D x y) : ∃ v w, [x, y] = [v, w] ∧ D v w := ⟨x, y, rfl, h⟩
/- expressions -/
theorem i_var (e : σ[i]? = some (some v)) (h : Q v H) : tVar i σ H Q := ⟨v, e, h⟩
theorem i_c (h : Q v H) : tC v σ H Q := h
theorem i_op (h : ta σ H fun x H1 => tb σ H1 fun y H2 => r x y H2 Q) : tOp r ta tb σ H Q := h
theorem i_un {r : V → Hp → VK → Prop} (h : ta σ H fun x H1 => r x H1 Q) : tUn r ta σ H Q := h
theorem i_tup (h : ar σ H fun xs H1 => xs.length ≤ sizeLine ∧ ∀ p, H1 p = none → Q (.ref p) (upd H1 p (.tup xs))) : tTup ar σ H Q := h
theorem i_lst (h : ar σ H fun xs H1 => xs.length ≤ sizeLine ∧ ∀ p, H1 p = none → Q (.ref p) (upd H1 p (.lst xs))) : tLst ar σ H Q := h
theorem i_nil (h : QA [] H) : tNil σ H QA := h
theorem i_cons (h : te σ H fun x H1 => ar σ H1 fun xs H2 => QA (x :: xs) H2) : tCons te ar σ H QA := h
theorem i_cb {r : List V → Hp → VK → Prop} (h : ar σ H fun vs H1 => r vs H1 Q) : tCB r ar σ H Q := h
theorem i_call {sp : Sp} {dvs : List V} {E : XK} (h : ar σ H fun vs H1 => sp (vs ++ dvs) H1 Q E) : tCall sp dvs E ar σ H Q := h
theorem i_ifx (h : tt σ H fun c H1 => if c = true then ta σ H1 Q else tb σ H1 Q) : tIf tt ta tb σ H Q := h
theorem i_sl {rr : V → Option Int → Option Int → Hp → VK → Prop} {tl th : TO} (h : te σ H fun x H1 => tl σ H1 fun l H2 => th σ H2 fun u H3 => rr x l u H3 Q) : tSl rr te tl th σ H Q := h
theorem i_nopart {QO : Option Int → Hp → Prop} (h : QO none H) : tNoPart σ H QO := h
theorem i_part {QO : Option Int → Hp → Prop} (h : te σ H fun x H1 => ∃ i, x = .int i ∧ QO (some i) H1) : tPart te σ H QO := h
theorem i_bm {T : String} {rr : V → List V → Hp → VK → Prop} (h : te σ H fun x H1 => tyV K T x H1 ∧ ar σ H1 fun xs H2 => rr x xs H2 Q) : tBM K T rr te ar σ H Q := h
theorem i_bm0 {T : String} {rr : V → List V → Hp → VK → Prop} (h : te σ H fun x H1 => tyV K T x H1 ∧ rr x [] H1 Q) : tBM0 K T rr te σ H Q := h
theorem i_fld {f : Str} (h : ta σ H fun x H1 => ∃ a C dx fs v, x = .ref a ∧ H1 a = some (.ins C dx fs) ∧ Cls K C ∧ NoAttr K C f ∧ fs.lookup f = some v ∧ Q v H1) : tFld K ta f σ H Q := h
theorem i_andV (h : ta σ H fun x H1 => ∃ c, x = .bl c ∧ if c = true then tb σ H1 Q else Q (.bl false) H1) : tAndV ta tb σ H Q := h
theorem i_orV (h : ta σ H fun x H1 => ∃ c, x = .bl c ∧ if c = true then Q (.bl true) H1 else tb σ H1 Q) : tOrV ta tb σ H Q := h
theorem i_din (h : ta σ H fun y H1 => tb σ H1 fun x H2 => ∃ a o, x = .ref a ∧ DGet H2 a y o ∧ Q (.bl o.isSome) H2) : tDIn ta tb σ H Q := h
theorem i_dni (h : ta σ H fun y H1 => tb σ H1 fun x H2 => ∃ a o, x = .ref a ∧ DGet H2 a y o ∧ Q (.bl (!o.isSome)) H2) : tDNotIn ta tb σ H Q := h
theorem i_dget (h : ta σ H fun x H1 => tb σ H1 fun y H2 => ∃ a v, x = .ref a ∧ DGet H2 a y (some v) ∧ Q v H2) : tDGet ta tb σ H Q := h
theorem i_dcT {wi : TI} {g : TG} {tk tv : TE} {ws : List Nat} (h : wi σ H fun J H1 => ∀ D, H1 D = none →
  ∃ W : Nat → Nat → Hp → Prop, (∃ m, W 0 m (upd H1 D (.dT []))) ∧ ∀ i m H, W i m H →
    (J.stop i H ∧ Q (.ref D) H) ∨ (J.go i H ∧ ∃ Nx : Hp → Prop, (∀ H', Nx H' → ∃ m', m' < m ∧ W (i + 1) m' H') ∧
      ∀ x H', J.yld i H x H' → g x (wipe σ ws) H' fun σ2 H2 => wipe σ2 ws = wipe σ ws ∧ tt σ2 H2 fun b H3 =>
        if b = true then tk σ2 H3 fun y H4 => tv σ2 H4 fun z H5 => ∃ kvs k a, y = .ref a ∧ H5 a = some (.tup (k.map kV)) ∧ H5 D = some (.dT kvs) ∧ kvs.length < sizeLine ∧ Nx (upd H5 D (.dT (putK kvs k z))) else Nx H3)) : tDcT wi g tt tk tv ws σ H Q := h
theorem i_meth {C : Addr} {m : Str} {sp : Sp} {dvs : List V} {E : XK} (h : ta σ H fun x H1 => ∃ a dx fs, x = .ref a ∧ H1 a = some (.ins C dx fs) ∧ fs.lookup m = none ∧ ar σ H1 fun vs H2 => sp (x :: (vs ++ dvs)) H2 Q E) : tMeth C m sp dvs E ta ar σ H Q := h
theorem i_make {C : Addr} {sp : Sp} {dvs : List V} {E : XK} (h : ar σ H fun vs H1 => ∀ x dx, H1 x = none → H1 dx = none → dx ≠ x → sp (.ref x :: (vs ++ dvs)) (upd (upd H1 dx (.own x)) x (.ins C dx [])) (fun v H2 => v = .non ∧ Q (.ref x) H2) E) : tMake C sp dvs E ar σ H Q := h
theorem i_notV (h : ta σ H fun x H1 => ∃ c, x = .bl c ∧ Q (.bl (!c)) H1) : tNotV ta σ H Q := h
theorem sqL_inj {K : PySem.W.Frag} {H : Hp} {a : Addr} {xs ys : List V} (h : H a = some (.lst xs)) (g : H a = some (.lst ys)) : xs = ys := by rw [h] at g; cases g; rfl
theorem iteNF {A B : Prop} (h : A) : if (!false) = true then A else B := h
theorem iteNT {A B : Prop} (h : B) : if (!true) = true then A else B := by rw [if_neg (by decide)]; exact h
/- tests -/
theorem i_test (h : te σ H fun x H1 => ∃ k, x = .bl k ∧ QT k H1) : tTest te σ H QT := h
theorem i_tB (h : te σ H fun x H1 => ∃ k, x = .bl k ∧ QT k H1) : tB te σ H QT := h
theorem i_bl {b : Bool} {F : Bool → Prop} (h : F b) : ∃ k, V.bl b = .bl k ∧ F k := ⟨b, rfl, h⟩
theorem i_int {j : Int} {F : Int → Prop} (h : F j) : ∃ k, V.int j = .int k ∧ F k := ⟨j, rfl, h⟩
theorem i_and (h : tt σ H fun c H1 => if c = true then tu σ H1 QT else QT false H1) : tAnd tt tu σ H QT := h
theorem i_or (h : tt σ H fun c H1 => if c = true then QT true H1 else tu σ H1 QT) : tOr tt tu σ H QT := h
theorem i_not (h : tt σ H fun c H1 => QT (!c) H1) : tNot tt σ H QT := h
theorem i_truth (h : ta σ H fun x H1 => ∃ k, TruV K x H1 k ∧ QT k H1) : tTruth K ta σ H QT := h
/- operators by values -/
theorem i_I0 {g : Int → Int → V} {a b : Int} (h : Q (g a b) H) : rI0 g (.int a) (.int b) H Q := ⟨a, b, rfl, rfl, h⟩
theorem i_I {C : Int → Int → Prop} {g : Int → Int → V} {a b : Int} (c : C a b) (h : Q (g a b) H) : rI C g (.int a) (.int b) H Q := ⟨a, b, rfl, rfl, c, h⟩
theorem i_U {g : Int → V} {a : Int} (h : Q (g a) H) : rU g (.int a) H Q := ⟨a, rfl, h⟩
theorem i_eq (c : scal x y = true) (h : Q (.bl (decide (x = y))) H) : rEq x y H Q := ⟨c, h⟩
theorem i_ne (c : scal x y = true) (h : Q (.bl (!decide (x = y))) H) : rNe x y H Q := ⟨c, h⟩
theorem i_ixL {a : Int} (hs : H p = some (.lst xs)) (ha : atI xs a = some v) (h : Q v H) : rIxL K (.ref p) (.int a) H Q := ⟨p, xs, a, v, rfl, rfl, SqL.of hs, ha, h⟩
theorem i_ixT {a : Int} (hs : H p = some (.tup xs)) (ha : atI xs a = some v) (h : Q v H) : rIxT K (.ref p) (.int a) H Q := ⟨p, xs, a, v, rfl, rfl, SqT.of hs, ha, h⟩
theorem i_len (hs : H p = some (.lst xs)) (h : Q (.int xs.length) H) : rLen K [.ref p] H Q := ⟨p, xs, rfl, .inl (SqL.of hs), h⟩
theorem i_lenT (hs : H p = some (.tup xs)) (h : Q (.int xs.length) H) : rLen K [.ref p] H Q := ⟨p, xs, rfl, .inr (SqT.of hs), h⟩
theorem i_list (hs : H p = some (.lst xs)) (h : ∀ l, H l = none → Q (.ref l) (upd H l (.lst xs))) : rList K [.ref p] H Q := ⟨p, xs, rfl, .inl (SqL.of hs), h⟩
theorem i_listT (hs : H p = some (.tup xs)) (h : ∀ l, H l = none → Q (.ref l) (upd H l (.lst xs))) : rList K [.ref p] H Q := ⟨p, xs, rfl, .inr (SqT.of hs), h⟩
theorem i_tuple (hs : H p = some (.lst xs)) (h : ∀ l, H l = none → Q (.ref l) (upd H l (.tup xs))) : rTuple K [.ref p] H Q := ⟨p, xs, rfl, .inl ⟨SqL.of hs, h⟩⟩
theorem i_app (hs : H l = some (.lst xs)) (hz : xs.length < sizeLine) (h : Q .non (upd H l (.lst (xs ++ [y])))) : rAppend (.ref l) [y] H Q := ⟨l, xs, y, rfl, rfl, hs, hz, h⟩
theorem i_pop (hs : H l = some (.lst xs)) (e : xs[xs.length - 1]? = some y) (h : Q y (upd H l (.lst xs.dropLast))) : rPop (.ref l) [] H Q := ⟨l, xs, y, rfl, rfl, hs, e, h⟩
theorem i_ty (hs : H l = some (.lst xs)) : tyV K "list" (.ref l) H := .inl ⟨rfl, _, SqL.of hs⟩
theorem i_set {QH : Hp → Prop} {k : Int} {j : Nat} (hs : H p = some (.lst xs)) (e : ixN xs.length k = some j) (h : QH (upd H p (.lst (xs.set j v)))) : rSetL (.ref p) (.int k) v H QH := ⟨p, xs, k, j, rfl, rfl, hs, e, h⟩
theorem i_gsub {to ti : TE} {tset : TSet} {QG : L2.St → Hp → Prop} (h : to σ H fun o H1 => ti σ H1 fun i H2 => tset o i v H2 fun H3 => QG σ H3) : gSub to ti tset v σ H QG := h
theorem i_gtup {n : Nat} {tg : TGs} {QG : L2.St → Hp → Prop} (hs : H p = some (.tup xs)) (e : xs.length = n) (h : tg xs σ H QG) : gTup K n tg (.ref p) σ H QG := ⟨p, xs, rfl, SqT.of hs, e, h⟩
theorem i_gcons {g : TG} {gs : TGs} {QG : L2.St → Hp → Prop} (h : g x σ H fun σ' H' => gs xs σ' H' QG) : gCons g gs (x :: xs) σ H QG := ⟨x, xs, rfl, h⟩
theorem i_gnil {QG : L2.St → Hp → Prop} (h : QG σ H) : gNil [] σ H QG := ⟨rfl, h⟩
theorem i_addS {a b : Str} (c : a.length + b.length ≤ sizeLine) (h : Q (.str (a ++ b)) H) : rAddStr (.str a) (.str b) H Q := ⟨a, b, rfl, rfl, c, h⟩
theorem i_int1 {a : Int} (h : Q (.int a) H) : rInt1 [.int a] H Q := .inl ⟨a, rfl, h⟩
theorem i_abs1 {a : Int} (h : Q (.int (if a < 0 then -a else a)) H) : rAbs1 [.int a] H Q := ⟨a, rfl, h⟩
theorem i_max2 {a b : Int} (h : Q (.int (if b > a then b else a)) H) : rMax2 [.int a, .int b] H Q := ⟨a, b, rfl, h⟩
theorem i_min2 {a b : Int} (h : Q (.int (if b < a then b else a)) H) : rMin2 [.int a, .int b] H Q := ⟨a, b, rfl, h⟩
theorem i_str1 {a : Int} (c : a.natAbs.log2 < 1920) (h : Q (.str (toString a)) H) : rStr1 [.int a] H Q := ⟨a, rfl, c, h⟩
theorem i_non (h : Q (.bl (decide (x = .non))) H) : rNon x .non H Q := ⟨rfl, h⟩
theorem i_nnon (h : Q (.bl (!decide (x = .non))) H) : rNotNon x .non H Q := ⟨rfl, h⟩
theorem sz4 {n : Nat} (h : n ≤ 1000000) : n ≤ sizeLine := Nat.le_trans h (by decide)
theorem szb {n : Nat} (h : Nat.ble n 1000000 = true) : n ≤ sizeLine := sz4 (Nat.le_of_ble_eq_true h)
theorem sz4' {n : Nat} (h : n < 1000000) : n < sizeLine := Nat.lt_of_lt_of_le h (by decide)
theorem ite_t {A B : Prop} {c : Bool} (e : c = true) (h : A) : if c = true then A else B := by rw [if_pos e]; exact h
theorem ite_f {A B : Prop} {c : Bool} (e : c = false) (h : B) : if c = true then A else B := by rw [if_neg (by rw [e]; decide)]; exact h
theorem ite_b {A B : Prop} {c : Bool} (h1 : c = true → A) (h2 : c = false → B) : if c = true then A else B := by cases c with | true => exact h1 rfl | false => exact h2 rfl
theorem ixN_pos {n : Nat} {a : Int} (h0 : 0 ≤ a) (h1 : a < n) : ixN n a = some a.toNat := by unfold ixN; rw [if_pos h0, if_pos h1]
theorem atI_pos {α : Type} {xs : List α} {a : Int} {v : α} (h0 : 0 ≤ a) (h : xs[a.toNat]? = some v) : atI xs a = some v := at_of' h0 h where
  at_of' {α : Type} {xs : List α} {a : Int} {v : α} (h0 : 0 ≤ a) (h : xs[a.toNat]? = some v) : atI xs a = some v := by
    have e : a = ((a.toNat : Nat) : Int) := by omega
    rw [e]
    exact atI_nat (by simpa using h)
theorem i_popAt {a : Int} (h0 : 0 ≤ a) (h1 : a < xs.length) (hz : xs.length ≤ 1000000) (hs : H l = some (.lst xs)) (e : xs[a.toNat]? = some y) (h : Q y (upd H l (.lst (xs.eraseIdx a.toNat)))) : rPopAt (.ref l) [.int a] H Q :=
  ⟨l, xs, a, a.toNat, y, rfl, rfl, hs, by omega, by omega, (ixN_seq (ixN_pos h0 h1)).1, e, h⟩
theorem i_inS {w : Str} {ns : List Str} (hs : H p = some (.lst (ns.map V.str))) (h : Q (.bl (decide (w ∈ ns))) H) : rIn K false (.str w) (.ref p) H Q :=
  ⟨p, _, rfl, .inl (SqL.of hs), rfl, flat_strs ns, by rw [inV_str]; exact h⟩
theorem i_niS {w : Str} {ns : List Str} (hs : H p = some (.lst (ns.map V.str))) (h : Q (.bl (!decide (w ∈ ns))) H) : rIn K true (.str w) (.ref p) H Q :=
  ⟨p, _, rfl, .inl (SqL.of hs), rfl, flat_strs ns, by rw [inV_str]; exact h⟩
theorem i_ixS {z : Str} {a : Int} (hz : z.length ≤ 1000000) (h0 : 0 ≤ a) (h1 : a < z.length) (h : ∀ c, Q (.str ⟨#[c]⟩) H) : rIxS (.str z) (.int a) H Q := by
  have hl : a.toNat < z.cps.toList.length := by
    have : z.cps.toList.length = z.length := by simp [Str.length]
    omega
  exact ⟨z, a, z.cps.toList[a.toNat], rfl, rfl, sz4 hz, atI_pos h0 (List.getElem?_eq_getElem hl), h _⟩
theorem i_catT {K : PySem.W.Frag} {a b : Addr} (h1 : H a = some (.tup xs)) (h2 : H b = some (.tup ys)) (ne : ys ≠ []) (hz : xs.length + ys.length ≤ 1000000)
    (q : ∀ p H', Same H H' → H' p = some (.tup (xs ++ ys)) → (p = b ∨ H p = none) → Q (.ref p) H') : rCatA K (.ref a) (.ref b) H Q := by
  refine ⟨a, b, xs, ys, rfl, rfl, SqT.of h1, SqT.of h2, sz4 hz, fun e => ?_, fun _ e => absurd e ne, fun _ _ p hp => q p _ (Same.new (Same.refl _) hp) upd_same (.inr hp)⟩
  subst e
  exact q b H (Same.refl _) h2 (.inl rfl)
theorem i_cat {b : Addr} (h1 : H l = some (.lst xs)) (h2 : H b = some (.lst ys)) (hz : xs.length + ys.length ≤ 1000000) (q : ∀ p, H p = none → Q (.ref p) (upd H p (.lst (xs ++ ys)))) : rCat (.ref l) (.ref b) H Q :=
  ⟨l, b, xs, ys, rfl, rfl, h1, h2, sz4 hz, q⟩
theorem inV_int (a : Int) (ns : List Nat) : inV (.int a) (ns.map fun n : Nat => V.int (n : Int)) = ns.any fun n => decide ((n : Int) = a) := by
  unfold inV
  rw [List.any_map]
  refine congrArg (fun f => ns.any f) (funext fun n => ?_)
  show eqV (.int n) (.int a) = _
  simp [eqV, Bool.beq_eq_decide_eq]
theorem flat_nats (ns : List Nat) : (ns.map fun n : Nat => V.int (n : Int)).all flatV = true := by rw [List.all_map, List.all_eq_true]; intro x _; rfl
theorem i_inN {a : Int} {ns : List Nat} (hs : H p = some (.lst (ns.map fun n : Nat => V.int (n : Int)))) (h : Q (.bl (ns.any fun n => decide ((n : Int) = a))) H) : rIn K false (.int a) (.ref p) H Q :=
  ⟨p, _, rfl, .inl (SqL.of hs), rfl, flat_nats ns, by rw [inV_int]; exact h⟩
theorem i_all {bs : List Bool} (hs : H p = some (.lst (bs.map V.bl))) (h : Q (.bl (bs.all id)) H) : rAll K [.ref p] H Q := ⟨p, bs, rfl, SqL.of hs, h⟩
theorem i_chain {rr rr' : R2} {tc : TE} (h : ta σ H fun x H1 => tb σ H1 fun y H2 => rr x y H2 fun z H3 => ∃ k, z = .bl k ∧ if k = true then tc σ H3 fun w H4 => rr' y w H4 Q else Q (.bl false) H3) : tChain rr rr' ta tb tc σ H Q := by
  exact h
theorem i_maxN {ns : List Nat} (hs : H p = some (.lst (ns.map fun n : Nat => V.int (n : Int)))) (h0 : 0 < ns.length) (h : ∀ m, m ∈ ns → (∀ y ∈ ns, y ≤ m) → Q (.int ((m : Nat) : Int)) H) : rMax K [.ref p] H Q := by
  refine ⟨p, ns.map fun n : Nat => (n : Int), rfl, ?_, by simpa using h0, fun m hm hle => ?_⟩
  · rw [List.map_map]
    exact SqL.of hs
  · obtain ⟨n, hn, rfl⟩ := List.mem_map.mp hm
    exact h n hn fun y hy => by have := hle _ (List.mem_map.mpr ⟨y, hy, rfl⟩); omega
theorem i_isi {c tn : String} {b : Bool} (ty : TyX K H x (.type tn)) (h : kitB tn c = some b) (q : Q (.bl b) H) : rIsi K [x, .ty c] H Q := ⟨x, .ty c, _, _, b, rfl, .ty c, ty, kit_ty h, q⟩
theorem tx_int {a : Int} : TyX K H (.int a) (.type "int") := .base (.int a)
theorem tx_str {a : Str} : TyX K H (.str a) (.type "str") := .base (.str a)
theorem tx_lst (h : H p = some (.lst xs)) : TyX K H (.ref p) (.type "list") := .base (.lst h)
theorem tx_tup (h : H p = some (.tup xs)) : TyX K H (.ref p) (.type "tuple") := .base (.tup h)
theorem kb_NoneType_bool : kitB "NoneType" "bool" = some false := by decide +kernel
theorem kb_NoneType_int : kitB "NoneType" "int" = some false := by decide +kernel
theorem kb_NoneType_str : kitB "NoneType" "str" = some false := by decide +kernel
theorem kb_NoneType_dict : kitB "NoneType" "dict" = some false := by decide +kernel
theorem kb_NoneType_list : kitB "NoneType" "list" = some false := by decide +kernel
theorem kb_NoneType_tuple : kitB "NoneType" "tuple" = some false := by decide +kernel
theorem kb_bool_bool : kitB "bool" "bool" = some true := by decide +kernel
theorem kb_bool_int : kitB "bool" "int" = some true := by decide +kernel
theorem kb_bool_str : kitB "bool" "str" = some false := by decide +kernel
theorem kb_bool_dict : kitB "bool" "dict" = some false := by decide +kernel
theorem kb_bool_list : kitB "bool" "list" = some false := by decide +kernel
theorem kb_bool_tuple : kitB "bool" "tuple" = some false := by decide +kernel
theorem kb_int_bool : kitB "int" "bool" = some false := by decide +kernel
theorem kb_int_int : kitB "int" "int" = some true := by decide +kernel
theorem kb_int_str : kitB "int" "str" = some false := by decide +kernel
theorem kb_int_dict : kitB "int" "dict" = some false := by decide +kernel
theorem kb_int_list : kitB "int" "list" = some false := by decide +kernel
theorem kb_int_tuple : kitB "int" "tuple" = some false := by decide +kernel
theorem kb_str_bool : kitB "str" "bool" = some false := by decide +kernel
theorem kb_str_int : kitB "str" "int" = some false := by decide +kernel
theorem kb_str_str : kitB "str" "str" = some true := by decide +kernel
theorem kb_str_dict : kitB "str" "dict" = some false := by decide +kernel
theorem kb_str_list : kitB "str" "list" = some false := by decide +kernel
theorem kb_str_tuple : kitB "str" "tuple" = some false := by decide +kernel
theorem kb_list_bool : kitB "list" "bool" = some false := by decide +kernel
theorem kb_list_int : kitB "list" "int" = some false := by decide +kernel
theorem kb_list_str : kitB "list" "str" = some false := by decide +kernel
theorem kb_list_dict : kitB "list" "dict" = some false := by decide +kernel
theorem kb_list_list : kitB "list" "list" = some true := by decide +kernel
theorem kb_list_tuple : kitB "list" "tuple" = some false := by decide +kernel
theorem kb_tuple_bool : kitB "tuple" "bool" = some false := by decide +kernel
theorem kb_tuple_int : kitB "tuple" "int" = some false := by decide +kernel
theorem kb_tuple_str : kitB "tuple" "str" = some false := by decide +kernel
theorem kb_tuple_dict : kitB "tuple" "dict" = some false := by decide +kernel
theorem kb_tuple_list : kitB "tuple" "list" = some false := by decide +kernel
theorem kb_tuple_tuple : kitB "tuple" "tuple" = some true := by decide +kernel
theorem tx_non : TyX K H .non (.type "NoneType") := .base .non
theorem tx_bl {a : Bool} : TyX K H (.bl a) (.type "bool") := .base (.bl a)
/- loops -/
theorem i_for {wi : TI} {g : TG} {tb : TS} (h : wi σ H fun J H1 => ∃ W : Nat → Nat → L2.St → Hp → Prop, (∃ m, W 0 m σ H1) ∧ ∀ i m σ H, W i m σ H →
    (J.stop i H ∧ D.nx σ H) ∨ (J.go i H ∧ ∃ N : L2.St → Hp → Prop, (∀ σ' H', N σ' H' → ∃ m', m' < m ∧ W (i + 1) m' σ' H') ∧ ∀ x H', J.yld i H x H' → g x σ H' fun σ2 H2 => tb { D with nx := N, ct := N, bk := D.nx } σ2 H2)) : tFor wi g tb D σ H := h
theorem i_while {tc : TT} {tb : TS} (W : Nat → L2.St → Hp → Prop) (m0 : Nat) (w0 : W m0 σ H) (step : ∀ m σ H, W m σ H → tc σ H fun b H1 => if b = true then ∃ N : L2.St → Hp → Prop, (∀ σ' H', N σ' H' → ∃ m', m' < m ∧ W m' σ' H') ∧ tb { D with nx := N, ct := N, bk := D.nx } σ H1 else D.nx σ H1) : tWhile tc tb D σ H := ⟨W, ⟨m0, w0⟩, step⟩
variable {F : It → Hp → Prop}
def xRng (F : It → Hp → Prop) (vs : List V) (H : Hp) : Prop := ∃ j : Int, vs = [.int j] ∧ -(2 ^ 62) ≤ j ∧ j < 2 ^ 62 ∧ F (Itr 0 j.toNat) H
def xList (K : PySem.W.Frag) (F : It → Hp → Prop) (v : V) (H : Hp) : Prop := ∃ a, v = .ref a ∧ (∃ xs, SqL K H a xs) ∧ F (Itl K a) H
def xTup (K : PySem.W.Frag) (F : It → Hp → Prop) (v : V) (H : Hp) : Prop := ∃ a, v = .ref a ∧ (∃ xs, SqT K H a xs) ∧ F (Itt K a) H
def xEnum (K : PySem.W.Frag) (F : It → Hp → Prop) (vs : List V) (H : Hp) : Prop := ∃ a xs, vs = [.ref a] ∧ SqL K H a xs ∧ F (Ite K a) H
def xRev (K : PySem.W.Frag) (F : It → Hp → Prop) (v : V) (H : Hp) : Prop := ∃ (a : Addr) (xs : List V), v = .ref a ∧ ((SqL K H a xs ∧ F (Itv K a xs.length) H) ∨ (SqT K H a xs ∧ F (RT.ItvT K a xs.length) H))
def xZip (K : PySem.W.Frag) (F : It → Hp → Prop) (vs : List V) (H : Hp) : Prop := ∃ a b xs ys, vs = [.ref a, .ref b] ∧ ((SqL K H a xs ∧ SqL K H b ys ∧ F (Itz K a b) H) ∨ (SqT K H a xs ∧ SqT K H b ys ∧ F (RZ.ItzT K a b) H))
theorem i_irng1 (h : ar σ H fun vs H1 => xRng F vs H1) : iRng1 ar σ H F := h
theorem i_rng1 {j : Int} (b : -1000000 ≤ j ∧ j ≤ 1000000) (h : F (Itr 0 j.toNat) H) : xRng F [V.int j] H := ⟨j, rfl, by omega, by omega, h⟩
theorem i_ilist (h : te σ H fun x H1 => xList K F x H1) : iList K te σ H F := h
theorem i_ilistE (hs : H p = some (.lst xs)) (h : F (Itl K p) H) : xList K F (.ref p) H := ⟨p, rfl, ⟨xs, SqL.of hs⟩, h⟩
theorem i_itup (h : te σ H fun x H1 => xTup K F x H1) : iTup K te σ H F := h
theorem i_itupE (hs : H p = some (.tup xs)) (h : F (Itt K p) H) : xTup K F (.ref p) H := ⟨p, rfl, ⟨xs, SqT.of hs⟩, h⟩
theorem i_ienum (h : ar σ H fun vs H1 => xEnum K F vs H1) : iEnum K ar σ H F := h
theorem i_ienumE (hs : H p = some (.lst xs)) (h : F (Ite K p) H) : xEnum K F [V.ref p] H := ⟨p, xs, rfl, SqL.of hs, h⟩
theorem i_irev (h : te σ H fun v H1 => xRev K F v H1) : RT.iRevA K te σ H F := h
theorem i_irevE (hs : H p = some (.lst xs)) (h : F (Itv K p xs.length) H) : xRev K F (.ref p) H := ⟨p, xs, rfl, .inl ⟨SqL.of hs, h⟩⟩
theorem i_izip (h : ar σ H fun vs H1 => xZip K F vs H1) : RZ.iZipA K ar σ H F := h
theorem i_izipL {a b : Addr} (ha : H a = some (.lst xs)) (hb : H b = some (.lst ys)) (h : F (Itz K a b) H) : xZip K F [V.ref a, V.ref b] H := ⟨a, b, xs, ys, rfl, .inl ⟨SqL.of ha, SqL.of hb, h⟩⟩
theorem i_izipT {a b : Addr} (ha : H a = some (.tup xs)) (hb : H b = some (.tup ys)) (h : F (RZ.ItzT K a b) H) : xZip K F [V.ref a, V.ref b] H := ⟨a, b, xs, ys, rfl, .inr ⟨SqT.of ha, SqT.of hb, h⟩⟩
theorem i_lc {wi : TI} {g : TG} {ws : List Nat} (h : wi σ H fun J H1 => ∀ D, H1 D = none → ∃ W : Nat → Nat → Hp → Prop, (∃ m, W 0 m (upd H1 D (.lst []))) ∧ ∀ i m H, W i m H →
    (J.stop i H ∧ Q (.ref D) H) ∨ (J.go i H ∧ ∃ Nx : Hp → Prop, (∀ H', Nx H' → ∃ m', m' < m ∧ W (i + 1) m' H') ∧ ∀ x H', J.yld i H x H' → g x (wipe σ ws) H' fun σ2 H2 => wipe σ2 ws = wipe σ ws ∧ tt σ2 H2 fun b H3 =>
      if b = true then te σ2 H3 fun y H4 => ∃ acc, H4 D = some (.lst acc) ∧ acc.length < sizeLine ∧ Nx (upd H4 D (.lst (acc ++ [y]))) else Nx H3)) : tLc wi g tt te ws σ H Q := h
theorem i_yes (h : QT true H) : tYes σ H QT := h
theorem i_acc {N : Hp → Prop} (hs : H l = some (.lst xs)) (hz : xs.length < sizeLine) (h : N (upd H l (.lst (xs ++ [y])))) : ∃ acc, H l = some (.lst acc) ∧ acc.length < sizeLine ∧ N (upd H l (.lst (acc ++ [y]))) := ⟨xs, hs, hz, h⟩
/-! ### comprehensions that build a list of what each item gives -/
theorem same_upd2 {G H : Hp} {p : Addr} {o : HO} (h : Same G H) : Same (upd G p o) (upd H p o) := fun b u e => by
  by_cases q : b = p
  · subst q; rw [upd_same] at e ⊢; exact e
  · rw [upd_ne q] at e ⊢; exact h b u e
theorem keep_new {H : Hp} {p D : Addr} {o : HO} (hp : H p = none) : ∀ u, H D = some u → upd H p o D = some u := fun _ e => upd_old e hp
/-- new things are laid: what stands for good grows from G to G', the heap from H to H'; what is new in G' is new in the heap -/
structure Grow (G H G' H' : Hp) : Prop where
  gg : Same G G'
  hh : Same H H'
  gh : Same G' H'
  nw : ∀ b o, G' b = some o → G b = some o ∨ H b = none
theorem Grow.refl {G H : Hp} (h : Same G H) : Grow G H G H := ⟨Same.refl _, Same.refl _, h, fun _ _ e => .inl e⟩
theorem Grow.base {G H G' H' : Hp} (g : Grow G H G' H') : Same G H' := fun b o e => g.gh _ _ (g.gg _ _ e)
theorem Grow.trans {G H G1 H1 G2 H2 : Hp} (a : Grow G H G1 H1) (b : Grow G1 H1 G2 H2) : Grow G H G2 H2 where
  gg := fun c o e => b.gg _ _ (a.gg _ _ e)
  hh := fun c o e => b.hh _ _ (a.hh _ _ e)
  gh := b.gh
  nw := fun c o e => by
    rcases b.nw c o e with h | h
    · exact a.nw c o h
    · exact .inr (a.hh.free h)
/-- a new object, for good -/
theorem Grow.new {G H G1 H1 : Hp} {p : Addr} {o : HO} (a : Grow G H G1 H1) (hp : H1 p = none) : Grow G H (upd G1 p o) (upd H1 p o) :=
  a.trans ⟨Same.new (Same.refl _) (a.gh.free hp), Same.new (Same.refl _) hp, same_upd2 a.gh, fun b u e => by
    by_cases q : b = p
    · subst q; exact .inr hp
    · rw [upd_ne q] at e; exact .inl e⟩
/-- a new object, not for good -/
theorem Grow.tmp {G H G1 H1 : Hp} {p : Addr} {o : HO} (a : Grow G H G1 H1) (hp : H1 p = none) : Grow G H G1 (upd H1 p o) := ⟨a.gg, Same.new a.hh hp, Same.new a.gh hp, a.nw⟩
theorem Grow.ext {G H G1 H1 H2 : Hp} (a : Grow G H G1 H1) (h : Same H1 H2) : Grow G H G1 H2 := ⟨a.gg, fun b o e => h _ _ (a.hh _ _ e), fun b o e => h _ _ (a.gh _ _ e), a.nw⟩
/-- one of this call's new objects changes -/
theorem Grow.mut {G H G1 H1 : Hp} {p : Addr} {o : HO} (a : Grow G H G1 H1) (hp : H p = none) (gp : G1 p = none) : Grow G H G1 (upd H1 p o) := ⟨a.gg, Same.mut a.hh hp, Same.mut a.gh gp, a.nw⟩
/-- one of this call's new objects is from now on for good -/
theorem Grow.add {G H G1 H1 : Hp} {p : Addr} {o : HO} (a : Grow G H G1 H1) (hp : H p = none) (gp : G1 p = none) (h1 : H1 p = some o) : Grow G H (upd G1 p o) H1 where
  gg := fun b u e => by rw [upd_ne (ne_of_none (a.gg _ _ e) gp)]; exact a.gg _ _ e
  hh := a.hh
  gh := fun b u e => by
    by_cases q : b = p
    · subst q; rw [upd_same] at e; cases e; exact h1
    · rw [upd_ne q] at e; exact a.gh _ _ e
  nw := fun b u e => by
    by_cases q : b = p
    · subst q; exact .inr hp
    · rw [upd_ne q] at e; exact a.nw _ _ e
theorem Grow.out {G H G1 H1 : Hp} {p : Addr} {o : HO} (a : Grow G H G1 H1) (hp : H p = some o) (gp : G p = none) : G1 p = none := by
  cases q : G1 p with
  | none => rfl
  | some u =>
    rcases a.nw p u q with h | h
    · rw [gp] at h; cases h
    · rw [hp] at h; cases h
/-- all that is new is from now on for good -/
def adopt (D H H' : Hp) : Hp := fun b => match H b with | none => H' b | some _ => D b
theorem adopt_new {D H H' : Hp} {b : Addr} (h : H b = none) : adopt D H H' b = H' b := by unfold adopt; rw [h]
theorem Grow.all {D H H' : Hp} (d : Same D H) (h : Same H H') : Grow D H (adopt D H H') H' where
  gg := fun b o e => by unfold adopt; rw [d _ _ e]; exact e
  hh := h
  gh := fun b o e => by
    unfold adopt at e
    cases q : H b with
    | none => rw [q] at e; exact e
    | some u => rw [q] at e; exact h _ _ (d _ _ e)
  nw := fun b o e => by
    unfold adopt at e
    cases q : H b with
    | none => exact .inr rfl
    | some u => rw [q] at e; exact .inl e
section
variable {β : Type} {S : Rep β} {g : TG} {ws : List Nat} {G0 H1 : Hp} {Qd : Hp → Prop} {De : Addr} {ys' : List β}
/-- what an item's turn is to show, for any continuation k -/
abbrev LcStep (S : Rep β) (g : TG) (te : TE) (ws : List Nat) (σ : L2.St) (v : V) (y : β) (G H' : Hp) : Prop :=
  ∀ k : V → Hp → Prop, (∀ w G' H4, Grow G H' G' H4 → S G' w y → k w H4) → g v (wipe σ ws) H' fun σ2 H2 => wipe σ2 ws = wipe σ ws ∧ te σ2 H2 k
theorem lc_end {n : Nat} {i : Nat} {G H' : Hp} {acc : List V} {y : β} {w : V} {G' H4 : Hp} (m : Mono S) (hD : H1 De = none) (g0 : Grow G0 H1 G H') (gd : G De = none) (ed : H' De = some (.lst acc)) (pa : Paired (S G) acc (ys'.take i)) (hz : ys'.length ≤ 1000000)
    (hy : ys'[i]? = some y) (g1 : Grow G H' G' H4) (hw : S G' w y) : ∃ acc, H4 De = some (.lst acc) ∧ acc.length < sizeLine ∧ ∃ G acc', Grow G0 H1 G (upd H4 De (.lst (acc ++ [w]))) ∧ G De = none ∧ upd H4 De (.lst (acc ++ [w])) De = some (.lst acc') ∧ Paired (S G) acc' (ys'.take (i + 1)) := by
  have hi := (List.getElem?_eq_some_iff.mp hy).1
  have hal := P2.len pa
  rw [List.length_take] at hal
  have gd' := g1.out ed gd
  refine ⟨acc, g1.hh _ _ ed, sz4' (by omega), G', acc ++ [w], (g0.trans g1).mut hD gd', gd', upd_same, ?_⟩
  rw [List.take_add_one, hy]
  exact P2.snoc (P2.mono pa fun _ _ h => m.up g1.gg h) hw
theorem lc_mapL {a : Addr} (m : Mono S) (h0 : Same G0 H1) (ha : H1 a = some (.lst vs)) (hl : vs.length = ys'.length) (hz : ys'.length ≤ 1000000) (hD : H1 De = none)
    (step : ∀ (i : Nat) (v : V) (y : β) (G H' : Hp), vs[i]? = some v → ys'[i]? = some y → Grow G0 H1 G H' → LcStep S g te ws σ v y G H')
    (hd : ∀ (H' G : Hp) (acc : List V), Grow G0 H1 G H' → G De = none → H' De = some (.lst acc) → Paired (S G) acc ys' → Qd H') :
    ∃ W : Nat → Nat → Hp → Prop, (∃ m, W 0 m (upd H1 De (.lst []))) ∧ ∀ i m H, W i m H →
      ((Itl K a).stop i H ∧ Qd H) ∨ ((Itl K a).go i H ∧ ∃ Nx : Hp → Prop, (∀ H', Nx H' → ∃ m', m' < m ∧ W (i + 1) m' H') ∧ ∀ x H', (Itl K a).yld i H x H' → g x (wipe σ ws) H' fun σ2 H2 => wipe σ2 ws = wipe σ ws ∧ tYes σ2 H2 fun b H3 =>
        if b = true then te σ2 H3 fun y H4 => ∃ acc, H4 De = some (.lst acc) ∧ acc.length < sizeLine ∧ Nx (upd H4 De (.lst (acc ++ [y]))) else Nx H3) := by
  refine lc_list (xs := vs) (fun i H' => ∃ G acc, Grow G0 H1 G H' ∧ G De = none ∧ H' De = some (.lst acc) ∧ Paired (S G) acc (ys'.take i)) ⟨G0, [], (Grow.refl h0).tmp hD, h0.free hD, upd_same, .nil⟩
    (fun i H' _ ⟨G, acc, e1, _⟩ => SqL.of (e1.hh _ _ ha)) ?_ ?_
  · rintro i v H' hv ⟨G, acc, e1, gd, ed, pa⟩
    obtain ⟨y, hy⟩ : ∃ y, ys'[i]? = some y := by
      have h1 := (List.getElem?_eq_some_iff.mp hv).1
      exact ⟨ys'[i], List.getElem?_eq_getElem (by omega)⟩
    exact step i v y G H' hv hy e1 (fun w H4 => ∃ acc, H4 De = some (.lst acc) ∧ acc.length < sizeLine ∧ _) fun w G' H4 g1 hw => lc_end (n := 0) m hD e1 gd ed pa hz hy g1 hw
  · rintro H' ⟨G, acc, e1, gd, ed, pa⟩
    rw [hl, List.take_length] at pa
    exact hd H' G acc e1 gd ed pa
theorem lc_mapR {n : Nat} (m : Mono S) (h0 : Same G0 H1) (hl : ys'.length = n) (hz : n ≤ 1000000) (hD : H1 De = none)
    (step : ∀ (i : Nat) (y : β) (G H' : Hp), i < n → ys'[i]? = some y → Grow G0 H1 G H' → LcStep S g te ws σ (.int ((i : Nat) : Int)) y G H')
    (hd : ∀ (H' G : Hp) (acc : List V), Grow G0 H1 G H' → G De = none → H' De = some (.lst acc) → Paired (S G) acc ys' → Qd H') :
    ∃ W : Nat → Nat → Hp → Prop, (∃ m, W 0 m (upd H1 De (.lst []))) ∧ ∀ i m H, W i m H →
      ((Itr 0 n).stop i H ∧ Qd H) ∨ ((Itr 0 n).go i H ∧ ∃ Nx : Hp → Prop, (∀ H', Nx H' → ∃ m', m' < m ∧ W (i + 1) m' H') ∧ ∀ x H', (Itr 0 n).yld i H x H' → g x (wipe σ ws) H' fun σ2 H2 => wipe σ2 ws = wipe σ ws ∧ tYes σ2 H2 fun b H3 =>
        if b = true then te σ2 H3 fun y H4 => ∃ acc, H4 De = some (.lst acc) ∧ acc.length < sizeLine ∧ Nx (upd H4 De (.lst (acc ++ [y]))) else Nx H3) := by
  refine lc_range (lo := 0) (n := n) (fun i H' => ∃ G acc, Grow G0 H1 G H' ∧ G De = none ∧ H' De = some (.lst acc) ∧ Paired (S G) acc (ys'.take i)) ⟨G0, [], (Grow.refl h0).tmp hD, h0.free hD, upd_same, .nil⟩ ?_ ?_
  · rintro i H' hi ⟨G, acc, e1, gd, ed, pa⟩
    have hi' : i < ys'.length := by omega
    have hy : ys'[i]? = some ys'[i] := List.getElem?_eq_getElem hi'
    rw [Int.zero_add]
    exact step i ys'[i] G H' hi hy e1 (fun w H4 => ∃ acc, H4 De = some (.lst acc) ∧ acc.length < sizeLine ∧ _) fun w G' H4 g1 hw => lc_end (n := 0) m hD e1 gd ed pa (by omega) hy g1 hw
  · rintro H' ⟨G, acc, e1, gd, ed, pa⟩
    rw [← hl, List.take_length] at pa
    exact hd H' G acc e1 gd ed pa
end
/-- a loop over enumerate of a list -/
theorem for_enum {a : Addr} {g : TG} {tb : TS} {n : Nat} (hn : xs.length = n) (Pv : Nat → L2.St → Hp → Prop) (h0 : Pv 0 σ H) (hq : ∀ i σ H, Pv i σ H → H a = some (.lst xs))
    (hs : ∀ (i : Nat) (x : V) (T : Addr) (σ : L2.St) (H : Hp), xs[i]? = some x → Pv i σ H → H T = none → g (.ref T) σ (upd H T (.tup [.int (i : Nat), x])) fun σ2 H2 => tb { D with nx := Pv (i + 1), ct := Pv (i + 1), bk := D.nx } σ2 H2) (hd : ∀ σ H, Pv n σ H → D.nx σ H) :
    ∃ W : Nat → Nat → L2.St → Hp → Prop, (∃ m, W 0 m σ H) ∧ ∀ i m σ H, W i m σ H →
      ((Ite K a).stop i H ∧ D.nx σ H) ∨ ((Ite K a).go i H ∧ ∃ N : L2.St → Hp → Prop, (∀ σ' H', N σ' H' → ∃ m', m' < m ∧ W (i + 1) m' σ' H') ∧ ∀ v H', (Ite K a).yld i H v H' → g v σ H' fun σ2 H2 => tb { D with nx := N, ct := N, bk := D.nx } σ2 H2) := by
  subst hn
  refine ⟨fun i m σ H => m = xs.length - i ∧ i ≤ xs.length ∧ Pv i σ H, ⟨xs.length, rfl, Nat.zero_le _, h0⟩, ?_⟩
  rintro i m σ H ⟨rfl, hi, p⟩
  have q : SqL K H a xs := SqL.of (hq i σ H p)
  by_cases hlt : i < xs.length
  · have hx : xs[i]? = some xs[i] := List.getElem?_eq_getElem hlt
    refine .inr ⟨⟨xs, _, q, hx⟩, Pv (i + 1), fun σ' H' p' => ⟨xs.length - (i + 1), by omega, rfl, hlt, p'⟩, fun v H' ⟨T, x', e1, hT, e2, f1⟩ => ?_⟩
    subst e1 e2
    exact hs i x' T σ H (f1 xs q) p hT
  · have e : i = xs.length := by omega
    subst e
    exact .inl ⟨⟨xs, q, Nat.le_refl _⟩, hd σ H p⟩
section
variable {β : Type} {S : Rep β} {g : TG} {ws : List Nat} {G0 H1 : Hp} {Qd : Hp → Prop} {De : Addr} {ys' : List β}
/-- the same as lc_mapL over any walk: IT says what item i is -/
theorem lc_mapJ {J : It} (IT : Nat → V → Hp → Prop) (m : Mono S) (h0 : Same G0 H1) (hz : ys'.length ≤ 1000000) (hD : H1 De = none)
    (hgo : ∀ i H', i < ys'.length → Same H1 H' → J.go i H') (hst : ∀ H', Same H1 H' → J.stop ys'.length H')
    (hyl : ∀ i H' x H'', i < ys'.length → Same H1 H' → J.yld i H' x H'' → (∃ T o, H' T = none ∧ H'' = upd H' T o ∨ H'' = H') ∧ IT i x H'')
    (step : ∀ (i : Nat) (v : V) (y : β) (G H' : Hp), ys'[i]? = some y → IT i v H' → Grow G0 H1 G H' → LcStep S g te ws σ v y G H')
    (hd : ∀ (H' G : Hp) (acc : List V), Grow G0 H1 G H' → G De = none → H' De = some (.lst acc) → Paired (S G) acc ys' → Qd H') :
    ∃ W : Nat → Nat → Hp → Prop, (∃ m, W 0 m (upd H1 De (.lst []))) ∧ ∀ i m H, W i m H →
      (J.stop i H ∧ Qd H) ∨ (J.go i H ∧ ∃ Nx : Hp → Prop, (∀ H', Nx H' → ∃ m', m' < m ∧ W (i + 1) m' H') ∧ ∀ x H', J.yld i H x H' → g x (wipe σ ws) H' fun σ2 H2 => wipe σ2 ws = wipe σ ws ∧ tYes σ2 H2 fun b H3 =>
        if b = true then te σ2 H3 fun y H4 => ∃ acc, H4 De = some (.lst acc) ∧ acc.length < sizeLine ∧ Nx (upd H4 De (.lst (acc ++ [y]))) else Nx H3) := by
  refine ⟨fun i m H' => m = ys'.length - i ∧ i ≤ ys'.length ∧ ∃ G acc, Grow G0 H1 G H' ∧ G De = none ∧ H' De = some (.lst acc) ∧ Paired (S G) acc (ys'.take i), ⟨ys'.length, rfl, Nat.zero_le _, G0, [], (Grow.refl h0).tmp hD, h0.free hD, upd_same, .nil⟩, ?_⟩
  rintro i m' H' ⟨rfl, hi, G, acc, e1, gd, ed, pa⟩
  by_cases hlt : i < ys'.length
  · have hy : ys'[i]? = some ys'[i] := List.getElem?_eq_getElem hlt
    refine .inr ⟨hgo i H' hlt e1.hh, fun H' => ∃ G acc, Grow G0 H1 G H' ∧ G De = none ∧ H' De = some (.lst acc) ∧ Paired (S G) acc (ys'.take (i + 1)), fun H' p' => ⟨ys'.length - (i + 1), by omega, rfl, hlt, p'⟩, fun x H'' y => ?_⟩
    obtain ⟨⟨T, o, hT⟩, hit⟩ := hyl i H' x H'' hlt e1.hh y
    have e2 : Grow G0 H1 G H'' ∧ H'' De = some (.lst acc) := by
      rcases hT with ⟨hT, rfl⟩ | rfl
      · exact ⟨e1.tmp hT, upd_old ed hT⟩
      · exact ⟨e1, ed⟩
    exact step i x ys'[i] G H'' hy hit e2.1 (fun w H4 => ∃ acc, H4 De = some (.lst acc) ∧ acc.length < sizeLine ∧ _) fun w G' H4 g1 hw => lc_end (n := 0) m hD e2.1 gd e2.2 pa hz hy g1 hw
  · have e : i = ys'.length := by omega
    subst e
    rw [List.take_length] at pa
    exact .inl ⟨hst H' e1.hh, hd H' G acc e1 gd ed pa⟩
end
theorem dcT_list {a De : Addr} {g : TG} {tk tv : TE} {ws : List Nat} {H1 : Hp} {Qd : Hp → Prop} (Pv : Nat → Hp → Prop) (h0 : Pv 0 (upd H1 De (.dT []))) (hl : ∀ i H, Pv i H → H a = some (.lst xs))
    (hs : ∀ i x H, xs[i]? = some x → Pv i H → g x (wipe σ ws) H fun σ2 H2 => wipe σ2 ws = wipe σ ws ∧ tt σ2 H2 fun b H3 =>
      if b = true then tk σ2 H3 fun y H4 => tv σ2 H4 fun z H5 => ∃ kvs k a, y = .ref a ∧ H5 a = some (.tup (k.map kV)) ∧ H5 De = some (.dT kvs) ∧ kvs.length < sizeLine ∧ Pv (i + 1) (upd H5 De (.dT (putK kvs k z))) else Pv (i + 1) H3) (hd : ∀ H, Pv xs.length H → Qd H) :
    ∃ W : Nat → Nat → Hp → Prop, (∃ m, W 0 m (upd H1 De (.dT []))) ∧ ∀ i m H, W i m H →
      ((Itl K a).stop i H ∧ Qd H) ∨ ((Itl K a).go i H ∧ ∃ Nx : Hp → Prop, (∀ H', Nx H' → ∃ m', m' < m ∧ W (i + 1) m' H') ∧ ∀ x H', (Itl K a).yld i H x H' → g x (wipe σ ws) H' fun σ2 H2 => wipe σ2 ws = wipe σ ws ∧ tt σ2 H2 fun b H3 =>
        if b = true then tk σ2 H3 fun y H4 => tv σ2 H4 fun z H5 => ∃ kvs k a, y = .ref a ∧ H5 a = some (.tup (k.map kV)) ∧ H5 De = some (.dT kvs) ∧ kvs.length < sizeLine ∧ Nx (upd H5 De (.dT (putK kvs k z))) else Nx H3) := by
  refine ⟨fun i m H => m = xs.length - i ∧ i ≤ xs.length ∧ Pv i H, ⟨xs.length, rfl, Nat.zero_le _, h0⟩, ?_⟩
  rintro i m H ⟨rfl, hi, p⟩
  have q : SqL K H a xs := SqL.of (hl i H p)
  by_cases hlt : i < xs.length
  · have hx : xs[i]? = some xs[i] := List.getElem?_eq_getElem hlt
    refine .inr ⟨⟨xs, _, q, hx⟩, Pv (i + 1), fun H' p' => ⟨xs.length - (i + 1), by omega, rfl, hlt, p'⟩, fun x H' ⟨e, hy⟩ => ?_⟩
    subst e
    exact hs i x _ (hy xs q) p
  · have e : i = xs.length := by omega
    subst e
    exact .inl ⟨⟨xs, q, Nat.le_refl _⟩, hd H p⟩
end
end EV
end
section
set_option Elab.async false
namespace EV
open PySem PySem.Spec L2 PyProof.Rows
/-- dict(d) of a dict with int and text keys -/
def rDictD : List V → Hp → VK → Prop := fun xs H Q => ∃ (a : Addr) (kvs : List (Key × V)), xs = [.ref a] ∧ Rd H a (.dK kvs) ∧ ∀ p, H p = none → Q (.ref p) (upd H p (.dK kvs))
theorem cDictD {X : Cx} : CallR X (.type "dict") rDictD := call_dictD
theorem i_dictD {H : Hp} {Q : VK} {a : Addr} {kvs : List (Key × V)} (h : H a = some (.dK kvs)) (k : ∀ p, H p = none → Q (.ref p) (upd H p (.dK kvs))) : rDictD [.ref a] H Q := ⟨a, kvs, rfl, .inl h, k⟩
theorem i_sdput {σ : L2.St} {H : Hp} {D : Ends} {td ty tv : TE} (h : tv σ H fun v H1 => td σ H1 fun x H2 => ty σ H2 fun y H3 => ∃ a H4, x = .ref a ∧ DPut H3 a y v H4 ∧ D.nx σ H4) : sDPut td ty tv D σ H := h
end EV
end
section
set_option Elab.async false
set_option maxRecDepth 100000
set_option maxHeartbeats 4000000
namespace K9
open PySem L2
def top (i : Nat) : Stmt := PySem.Challenge.pw_everychoir_k10_closed_trees_judged.main.body.getD i (.Pass ⟨0, 0, 0, 0⟩)
abbrev s_Problem_init : Stmt := inClass (top 1) 0
abbrev s_Problem_choices : Stmt := inClass (top 1) 1
abbrev s_Problem_demands : Stmt := inClass (top 1) 2
abbrev s_knot_fault : Stmt := top 2
abbrev s_leaf_fault : Stmt := top 3
abbrev s_judge_tree : Stmt := top 4
abbrev s_due_demands : Stmt := top 6
abbrev s_first_broken : Stmt := top 7
abbrev s_search_tree : Stmt := top 8
abbrev s_solve_problem : Stmt := top 9
abbrev s_source : Stmt := top 11
abbrev s_pick : Stmt := top 12
abbrev s_one : Stmt := top 13
abbrev s_shuffled : Stmt := top 14
abbrev s_name : Stmt := top 15
abbrev s_product : Stmt := top 16
abbrev s_half : Stmt := top 17
abbrev s_same : Stmt := top 18
abbrev s_c_least : Stmt := top 19
abbrev s_c_first : Stmt := top 20
abbrev s_c_problem : Stmt := top 21
abbrev s_c_blocked : Stmt := top 22
abbrev s_c_tree : Stmt := top 23
abbrev s_c_judged : Stmt := top 24
abbrev s_c_knots : Stmt := top 25
abbrev s_c_put : Stmt := top 26
abbrev s_k10_change : Stmt := top 27
abbrev s_k10_copy : Stmt := top 28
abbrev s_k10_flat : Stmt := top 29
abbrev s_law : Stmt := top 30
theorem sc_Problem_init : FnScope ["self", "choices", "demands", "row", "places", "rows"] ["self", "choices", "demands"] (defScope s_Problem_init) := ⟨rfl, rfl, rfl, by decide +kernel, rfl, by decide +kernel, by decide +kernel⟩
theorem sc_Problem_choices : FnScope ["self", "row"] ["self"] (defScope s_Problem_choices) := ⟨rfl, rfl, rfl, by decide +kernel, rfl, by decide +kernel, by decide +kernel⟩
theorem sc_Problem_demands : FnScope ["self", "places", "rows"] ["self"] (defScope s_Problem_demands) := ⟨rfl, rfl, rfl, by decide +kernel, rfl, by decide +kernel, by decide +kernel⟩
theorem sc_knot_fault : FnScope ["tree", "choices", "told", "variable", "branch"] ["tree", "choices", "told"] (defScope s_knot_fault) := ⟨rfl, rfl, rfl, by decide +kernel, rfl, by decide +kernel, by decide +kernel⟩
theorem sc_leaf_fault : FnScope ["tree", "demands", "told", "number", "places", "rows", "place"] ["tree", "demands", "told"] (defScope s_leaf_fault) := ⟨rfl, rfl, rfl, by decide +kernel, rfl, by decide +kernel, by decide +kernel⟩
theorem sc_judge_tree : FnScope ["problem", "tree", "choices", "demands", "waiting", "part", "path", "told", "fault", "below", "branch"] ["problem", "tree"] (defScope s_judge_tree) := ⟨rfl, rfl, rfl, by decide +kernel, rfl, by decide +kernel, by decide +kernel⟩
theorem sc_due_demands : FnScope ["many", "demands", "due", "bare", "number", "places", "rows", "turn"] ["many", "demands"] (defScope s_due_demands) := ⟨rfl, rfl, rfl, by decide +kernel, rfl, by decide +kernel, by decide +kernel⟩
theorem sc_first_broken : FnScope ["numbers", "demands", "good", "chosen", "number", "row", "place"] ["numbers", "demands", "good", "chosen"] (defScope s_first_broken) := ⟨rfl, rfl, rfl, by decide +kernel, rfl, by decide +kernel, by decide +kernel⟩
theorem sc_search_tree : FnScope ["choices", "demands", "due", "good", "chosen", "open_knots", "depth", "branches", "tree", "value", "number"] ["choices", "demands", "due", "good"] (defScope s_search_tree) := ⟨rfl, rfl, rfl, by decide +kernel, rfl, by decide +kernel, by decide +kernel⟩
theorem sc_solve_problem : FnScope ["problem", "choices", "demands", "good", "due", "bare", "number", "places", "rows", "row"] ["problem"] (defScope s_solve_problem) := ⟨rfl, rfl, rfl, by decide +kernel, rfl, by decide +kernel, by decide +kernel⟩
theorem sc_source : FnScope ["script", "at", "cells", "mix", "x", "own"] ["script", "at"] (defScope s_source) := ⟨rfl, rfl, rfl, by decide +kernel, rfl, by decide +kernel, by decide +kernel⟩
theorem sc_pick : FnScope ["s", "many", "mixed", "digit"] ["s", "many"] (defScope s_pick) := ⟨rfl, rfl, rfl, by decide +kernel, rfl, by decide +kernel, by decide +kernel⟩
theorem sc_one : FnScope ["s", "things"] ["s", "things"] (defScope s_one) := ⟨rfl, rfl, rfl, by decide +kernel, rfl, by decide +kernel, by decide +kernel⟩
theorem sc_shuffled : FnScope ["s", "things", "left", "out", "k"] ["s", "things"] (defScope s_shuffled) := ⟨rfl, rfl, rfl, by decide +kernel, rfl, by decide +kernel, by decide +kernel⟩
theorem sc_name : FnScope ["s", "used", "signs", "word", "k", "x"] ["s", "used"] (defScope s_name) := ⟨rfl, rfl, rfl, by decide +kernel, rfl, by decide +kernel, by decide +kernel⟩
theorem sc_product : FnScope ["lists", "rows", "things", "longer", "row", "x"] ["lists"] (defScope s_product) := ⟨rfl, rfl, rfl, by decide +kernel, rfl, by decide +kernel, by decide +kernel⟩
theorem sc_half : FnScope ["s", "things", "odds", "of", "x"] ["s", "things", "odds", "of"] (defScope s_half) := ⟨rfl, rfl, rfl, by decide +kernel, rfl, by decide +kernel, by decide +kernel⟩
theorem sc_same : FnScope ["answer", "due", "x", "y"] ["answer", "due"] (defScope s_same) := ⟨rfl, rfl, rfl, by decide +kernel, rfl, by decide +kernel, by decide +kernel⟩
theorem sc_c_least : FnScope ["menus", "demands", "waiting", "turn", "part", "x"] ["menus", "demands"] (defScope s_c_least) := ⟨rfl, rfl, rfl, by decide +kernel, rfl, by decide +kernel, by decide +kernel⟩
theorem sc_c_first : FnScope ["demands", "told", "many", "k", "places", "p"] ["demands", "told", "many"] (defScope s_c_first) := ⟨rfl, rfl, rfl, by decide +kernel, rfl, by decide +kernel, by decide +kernel⟩
theorem sc_c_problem : FnScope ["s", "many", "most", "used", "menus", "demands", "names", "k", "size", "places", "rows", "j", "p"] ["s", "many", "most"] (defScope s_c_problem) := ⟨rfl, rfl, rfl, by decide +kernel, rfl, by decide +kernel, by decide +kernel⟩
theorem sc_c_blocked : FnScope ["s", "menus", "demands", "out", "turn", "found", "places", "row", "p", "x"] ["s", "menus", "demands"] (defScope s_c_blocked) := ⟨rfl, rfl, rfl, by decide +kernel, rfl, by decide +kernel, by decide +kernel⟩
theorem sc_c_tree : FnScope ["s", "menus", "demands", "told", "left", "bad", "k", "places", "rows", "free", "p", "branches", "x", "deeper"] ["s", "menus", "demands", "told", "left"] (defScope s_c_tree) := ⟨rfl, rfl, rfl, by decide +kernel, rfl, by decide +kernel, by decide +kernel⟩
theorem sc_c_judged : FnScope ["menus", "demands", "tree", "waiting", "turn", "part", "told", "x", "deeper", "p"] ["menus", "demands", "tree"] (defScope s_c_judged) := ⟨rfl, rfl, rfl, by decide +kernel, rfl, by decide +kernel, by decide +kernel⟩
theorem sc_c_knots : FnScope ["tree", "found", "at", "turn", "way", "part", "k"] ["tree"] (defScope s_c_knots) := ⟨rfl, rfl, rfl, by decide +kernel, rfl, by decide +kernel, by decide +kernel⟩
theorem sc_c_put : FnScope ["tree", "way", "part", "parts", "now", "k", "branches"] ["tree", "way", "part"] (defScope s_c_put) := ⟨rfl, rfl, rfl, by decide +kernel, rfl, by decide +kernel, by decide +kernel⟩
theorem sc_k10_change : FnScope ["s", "menus", "demands", "tree", "ways", "knots", "leaves", "form", "way", "part", "branches", "at", "above", "now", "k", "variable", "x"] ["s", "menus", "demands", "tree"] (defScope s_k10_change) := ⟨rfl, rfl, rfl, by decide +kernel, rfl, by decide +kernel, by decide +kernel⟩
theorem sc_k10_copy : FnScope ["demands", "places", "rows"] ["demands"] (defScope s_k10_copy) := ⟨rfl, rfl, rfl, by decide +kernel, rfl, by decide +kernel, by decide +kernel⟩
theorem sc_k10_flat : FnScope ["tree", "way", "part"] ["tree"] (defScope s_k10_flat) := ⟨rfl, rfl, rfl, by decide +kernel, rfl, by decide +kernel, by decide +kernel⟩
theorem sc_law : FnScope ["script", "s", "many", "menus", "demands", "open_demands", "problem", "tree", "trees", "one", "turn", "due", "flat", "other", "x"] ["script"] (defScope s_law) := ⟨rfl, rfl, rfl, by decide +kernel, rfl, by decide +kernel, by decide +kernel⟩
structure Txt (K : PySem.W.Frag) (mg : Str → Option Value) where
  a_Problem_init : Addr
  fd_Problem_init : FuncData
  F_Problem_init : Fun K "__init__" "Problem.__init__" s_Problem_init a_Problem_init fd_Problem_init
  a_Problem_choices : Addr
  fd_Problem_choices : FuncData
  F_Problem_choices : Fun K "choices" "Problem.choices" s_Problem_choices a_Problem_choices fd_Problem_choices
  a_Problem_demands : Addr
  fd_Problem_demands : FuncData
  F_Problem_demands : Fun K "demands" "Problem.demands" s_Problem_demands a_Problem_demands fd_Problem_demands
  a_knot_fault : Addr
  fd_knot_fault : FuncData
  F_knot_fault : Fun K "knot_fault" "knot_fault" s_knot_fault a_knot_fault fd_knot_fault
  m_knot_fault : mg "knot_fault" = some (.ref a_knot_fault)
  a_leaf_fault : Addr
  fd_leaf_fault : FuncData
  F_leaf_fault : Fun K "leaf_fault" "leaf_fault" s_leaf_fault a_leaf_fault fd_leaf_fault
  m_leaf_fault : mg "leaf_fault" = some (.ref a_leaf_fault)
  a_judge_tree : Addr
  fd_judge_tree : FuncData
  F_judge_tree : Fun K "judge_tree" "judge_tree" s_judge_tree a_judge_tree fd_judge_tree
  m_judge_tree : mg "judge_tree" = some (.ref a_judge_tree)
  a_due_demands : Addr
  fd_due_demands : FuncData
  F_due_demands : Fun K "due_demands" "due_demands" s_due_demands a_due_demands fd_due_demands
  m_due_demands : mg "due_demands" = some (.ref a_due_demands)
  a_first_broken : Addr
  fd_first_broken : FuncData
  F_first_broken : Fun K "first_broken" "first_broken" s_first_broken a_first_broken fd_first_broken
  m_first_broken : mg "first_broken" = some (.ref a_first_broken)
  a_search_tree : Addr
  fd_search_tree : FuncData
  F_search_tree : Fun K "search_tree" "search_tree" s_search_tree a_search_tree fd_search_tree
  m_search_tree : mg "search_tree" = some (.ref a_search_tree)
  a_solve_problem : Addr
  fd_solve_problem : FuncData
  F_solve_problem : Fun K "solve_problem" "solve_problem" s_solve_problem a_solve_problem fd_solve_problem
  m_solve_problem : mg "solve_problem" = some (.ref a_solve_problem)
  a_source : Addr
  fd_source : FuncData
  F_source : Fun K "_law_source" "_law_source" s_source a_source fd_source
  m_source : mg "_law_source" = some (.ref a_source)
  a_pick : Addr
  fd_pick : FuncData
  F_pick : Fun K "_law_pick" "_law_pick" s_pick a_pick fd_pick
  m_pick : mg "_law_pick" = some (.ref a_pick)
  a_one : Addr
  fd_one : FuncData
  F_one : Fun K "_law_one" "_law_one" s_one a_one fd_one
  m_one : mg "_law_one" = some (.ref a_one)
  a_shuffled : Addr
  fd_shuffled : FuncData
  F_shuffled : Fun K "_law_shuffled" "_law_shuffled" s_shuffled a_shuffled fd_shuffled
  m_shuffled : mg "_law_shuffled" = some (.ref a_shuffled)
  a_name : Addr
  fd_name : FuncData
  F_name : Fun K "_law_name" "_law_name" s_name a_name fd_name
  m_name : mg "_law_name" = some (.ref a_name)
  a_product : Addr
  fd_product : FuncData
  F_product : Fun K "_law_product" "_law_product" s_product a_product fd_product
  m_product : mg "_law_product" = some (.ref a_product)
  a_half : Addr
  fd_half : FuncData
  F_half : FunD K "_law_half" "_law_half" (defArgs s_half) (defBody s_half) (defScope s_half) [V.int 1, V.int 2] [] a_half fd_half
  m_half : mg "_law_half" = some (.ref a_half)
  a_same : Addr
  fd_same : FuncData
  F_same : Fun K "_law_same" "_law_same" s_same a_same fd_same
  m_same : mg "_law_same" = some (.ref a_same)
  a_c_least : Addr
  fd_c_least : FuncData
  F_c_least : Fun K "_law_c_least" "_law_c_least" s_c_least a_c_least fd_c_least
  m_c_least : mg "_law_c_least" = some (.ref a_c_least)
  a_c_first : Addr
  fd_c_first : FuncData
  F_c_first : Fun K "_law_c_first" "_law_c_first" s_c_first a_c_first fd_c_first
  m_c_first : mg "_law_c_first" = some (.ref a_c_first)
  a_c_problem : Addr
  fd_c_problem : FuncData
  F_c_problem : Fun K "_law_c_problem" "_law_c_problem" s_c_problem a_c_problem fd_c_problem
  m_c_problem : mg "_law_c_problem" = some (.ref a_c_problem)
  a_c_blocked : Addr
  fd_c_blocked : FuncData
  F_c_blocked : Fun K "_law_c_blocked" "_law_c_blocked" s_c_blocked a_c_blocked fd_c_blocked
  m_c_blocked : mg "_law_c_blocked" = some (.ref a_c_blocked)
  a_c_tree : Addr
  fd_c_tree : FuncData
  F_c_tree : Fun K "_law_c_tree" "_law_c_tree" s_c_tree a_c_tree fd_c_tree
  m_c_tree : mg "_law_c_tree" = some (.ref a_c_tree)
  a_c_judged : Addr
  fd_c_judged : FuncData
  F_c_judged : Fun K "_law_c_judged" "_law_c_judged" s_c_judged a_c_judged fd_c_judged
  m_c_judged : mg "_law_c_judged" = some (.ref a_c_judged)
  a_c_knots : Addr
  fd_c_knots : FuncData
  F_c_knots : Fun K "_law_c_knots" "_law_c_knots" s_c_knots a_c_knots fd_c_knots
  m_c_knots : mg "_law_c_knots" = some (.ref a_c_knots)
  a_c_put : Addr
  fd_c_put : FuncData
  F_c_put : Fun K "_law_c_put" "_law_c_put" s_c_put a_c_put fd_c_put
  m_c_put : mg "_law_c_put" = some (.ref a_c_put)
  a_k10_change : Addr
  fd_k10_change : FuncData
  F_k10_change : Fun K "_law_k10_change" "_law_k10_change" s_k10_change a_k10_change fd_k10_change
  m_k10_change : mg "_law_k10_change" = some (.ref a_k10_change)
  a_k10_copy : Addr
  fd_k10_copy : FuncData
  F_k10_copy : Fun K "_law_k10_copy" "_law_k10_copy" s_k10_copy a_k10_copy fd_k10_copy
  m_k10_copy : mg "_law_k10_copy" = some (.ref a_k10_copy)
  a_k10_flat : Addr
  fd_k10_flat : FuncData
  F_k10_flat : Fun K "_law_k10_flat" "_law_k10_flat" s_k10_flat a_k10_flat fd_k10_flat
  m_k10_flat : mg "_law_k10_flat" = some (.ref a_k10_flat)
  a_law : Addr
  fd_law : FuncData
  F_law : Fun K "law" "law" s_law a_law fd_law
  m_law : mg "law" = some (.ref a_law)
  c_Problem : Addr
  cl_Problem : Cls K c_Problem
  mc_Problem : mg "Problem" = some (.ref c_Problem)
  mk_Problem : Mk K c_Problem a_Problem_init
  mt_Problem_choices : Meth K c_Problem "choices" a_Problem_choices
  mt_Problem_demands : Meth K c_Problem "demands" a_Problem_demands
  na_Problem_choices : NoAttr K c_Problem "_choices"
  na_Problem_demands : NoAttr K c_Problem "_demands"
  b_abs : mg "abs" = none
  b_all : mg "all" = none
  b_bool : mg "bool" = none
  b_dict : mg "dict" = none
  b_enumerate : mg "enumerate" = none
  b_int : mg "int" = none
  b_isinstance : mg "isinstance" = none
  b_len : mg "len" = none
  b_list : mg "list" = none
  b_max : mg "max" = none
  b_min : mg "min" = none
  b_range : mg "range" = none
  b_reversed : mg "reversed" = none
  b_str : mg "str" = none
  b_tuple : mg "tuple" = none
  b_zip : mg "zip" = none
section
variable {K : PySem.W.Frag} {mg : Str → Option Value}
theorem bd_Problem_init (T : Txt K mg) : Binds K T.fd_Problem_init ["self", "choices", "demands"] [] := T.F_Problem_init.binds (ps := ["self", "choices", "demands"]) fun _ _ _ _ _ _ us hl => match us, hl with | [_, _, _], _ => rfl
theorem bd_Problem_choices (T : Txt K mg) : Binds K T.fd_Problem_choices ["self"] [] := T.F_Problem_choices.binds (ps := ["self"]) fun _ _ _ _ _ _ us hl => match us, hl with | [_], _ => rfl
theorem bd_Problem_demands (T : Txt K mg) : Binds K T.fd_Problem_demands ["self"] [] := T.F_Problem_demands.binds (ps := ["self"]) fun _ _ _ _ _ _ us hl => match us, hl with | [_], _ => rfl
theorem bd_knot_fault (T : Txt K mg) : Binds K T.fd_knot_fault ["tree", "choices", "told"] [] := T.F_knot_fault.binds (ps := ["tree", "choices", "told"]) fun _ _ _ _ _ _ us hl => match us, hl with | [_, _, _], _ => rfl
theorem bd_leaf_fault (T : Txt K mg) : Binds K T.fd_leaf_fault ["tree", "demands", "told"] [] := T.F_leaf_fault.binds (ps := ["tree", "demands", "told"]) fun _ _ _ _ _ _ us hl => match us, hl with | [_, _, _], _ => rfl
theorem bd_judge_tree (T : Txt K mg) : Binds K T.fd_judge_tree ["problem", "tree"] [] := T.F_judge_tree.binds (ps := ["problem", "tree"]) fun _ _ _ _ _ _ us hl => match us, hl with | [_, _], _ => rfl
theorem bd_due_demands (T : Txt K mg) : Binds K T.fd_due_demands ["many", "demands"] [] := T.F_due_demands.binds (ps := ["many", "demands"]) fun _ _ _ _ _ _ us hl => match us, hl with | [_, _], _ => rfl
theorem bd_first_broken (T : Txt K mg) : Binds K T.fd_first_broken ["numbers", "demands", "good", "chosen"] [] := T.F_first_broken.binds (ps := ["numbers", "demands", "good", "chosen"]) fun _ _ _ _ _ _ us hl => match us, hl with | [_, _, _, _], _ => rfl
theorem bd_search_tree (T : Txt K mg) : Binds K T.fd_search_tree ["choices", "demands", "due", "good"] [] := T.F_search_tree.binds (ps := ["choices", "demands", "due", "good"]) fun _ _ _ _ _ _ us hl => match us, hl with | [_, _, _, _], _ => rfl
theorem bd_solve_problem (T : Txt K mg) : Binds K T.fd_solve_problem ["problem"] [] := T.F_solve_problem.binds (ps := ["problem"]) fun _ _ _ _ _ _ us hl => match us, hl with | [_], _ => rfl
theorem bd_source (T : Txt K mg) : Binds K T.fd_source ["script", "at"] [] := T.F_source.binds (ps := ["script", "at"]) fun _ _ _ _ _ _ us hl => match us, hl with | [_, _], _ => rfl
theorem bd_pick (T : Txt K mg) : Binds K T.fd_pick ["s", "many"] [] := T.F_pick.binds (ps := ["s", "many"]) fun _ _ _ _ _ _ us hl => match us, hl with | [_, _], _ => rfl
theorem bd_one (T : Txt K mg) : Binds K T.fd_one ["s", "things"] [] := T.F_one.binds (ps := ["s", "things"]) fun _ _ _ _ _ _ us hl => match us, hl with | [_, _], _ => rfl
theorem bd_shuffled (T : Txt K mg) : Binds K T.fd_shuffled ["s", "things"] [] := T.F_shuffled.binds (ps := ["s", "things"]) fun _ _ _ _ _ _ us hl => match us, hl with | [_, _], _ => rfl
theorem bd_name (T : Txt K mg) : Binds K T.fd_name ["s", "used"] [] := T.F_name.binds (ps := ["s", "used"]) fun _ _ _ _ _ _ us hl => match us, hl with | [_, _], _ => rfl
theorem bd_product (T : Txt K mg) : Binds K T.fd_product ["lists"] [] := T.F_product.binds (ps := ["lists"]) fun _ _ _ _ _ _ us hl => match us, hl with | [_], _ => rfl
theorem bd_half (T : Txt K mg) : Binds K T.fd_half ["s", "things", "odds", "of"] [] := by
  obtain ⟨ds, v, b⟩ := T.F_half.binds1 (ps := ["s", "things", "odds", "of"]) 4 2 (fun h => nomatch h) rfl (fun _ _ _ _ _ _ _ us its h1 h2 => match us, its, h1, h2 with | [_, _, _, _], [_, _], _, _ => ⟨_, rfl, rfl⟩)
  cases v
  exact b
theorem bd_same (T : Txt K mg) : Binds K T.fd_same ["answer", "due"] [] := T.F_same.binds (ps := ["answer", "due"]) fun _ _ _ _ _ _ us hl => match us, hl with | [_, _], _ => rfl
theorem bd_c_least (T : Txt K mg) : Binds K T.fd_c_least ["menus", "demands"] [] := T.F_c_least.binds (ps := ["menus", "demands"]) fun _ _ _ _ _ _ us hl => match us, hl with | [_, _], _ => rfl
theorem bd_c_first (T : Txt K mg) : Binds K T.fd_c_first ["demands", "told", "many"] [] := T.F_c_first.binds (ps := ["demands", "told", "many"]) fun _ _ _ _ _ _ us hl => match us, hl with | [_, _, _], _ => rfl
theorem bd_c_problem (T : Txt K mg) : Binds K T.fd_c_problem ["s", "many", "most"] [] := T.F_c_problem.binds (ps := ["s", "many", "most"]) fun _ _ _ _ _ _ us hl => match us, hl with | [_, _, _], _ => rfl
theorem bd_c_blocked (T : Txt K mg) : Binds K T.fd_c_blocked ["s", "menus", "demands"] [] := T.F_c_blocked.binds (ps := ["s", "menus", "demands"]) fun _ _ _ _ _ _ us hl => match us, hl with | [_, _, _], _ => rfl
theorem bd_c_tree (T : Txt K mg) : Binds K T.fd_c_tree ["s", "menus", "demands", "told", "left"] [] := T.F_c_tree.binds (ps := ["s", "menus", "demands", "told", "left"]) fun _ _ _ _ _ _ us hl => match us, hl with | [_, _, _, _, _], _ => rfl
theorem bd_c_judged (T : Txt K mg) : Binds K T.fd_c_judged ["menus", "demands", "tree"] [] := T.F_c_judged.binds (ps := ["menus", "demands", "tree"]) fun _ _ _ _ _ _ us hl => match us, hl with | [_, _, _], _ => rfl
theorem bd_c_knots (T : Txt K mg) : Binds K T.fd_c_knots ["tree"] [] := T.F_c_knots.binds (ps := ["tree"]) fun _ _ _ _ _ _ us hl => match us, hl with | [_], _ => rfl
theorem bd_c_put (T : Txt K mg) : Binds K T.fd_c_put ["tree", "way", "part"] [] := T.F_c_put.binds (ps := ["tree", "way", "part"]) fun _ _ _ _ _ _ us hl => match us, hl with | [_, _, _], _ => rfl
theorem bd_k10_change (T : Txt K mg) : Binds K T.fd_k10_change ["s", "menus", "demands", "tree"] [] := T.F_k10_change.binds (ps := ["s", "menus", "demands", "tree"]) fun _ _ _ _ _ _ us hl => match us, hl with | [_, _, _, _], _ => rfl
theorem bd_k10_copy (T : Txt K mg) : Binds K T.fd_k10_copy ["demands"] [] := T.F_k10_copy.binds (ps := ["demands"]) fun _ _ _ _ _ _ us hl => match us, hl with | [_], _ => rfl
theorem bd_k10_flat (T : Txt K mg) : Binds K T.fd_k10_flat ["tree"] [] := T.F_k10_flat.binds (ps := ["tree"]) fun _ _ _ _ _ _ us hl => match us, hl with | [_], _ => rfl
theorem bd_law (T : Txt K mg) : Binds K T.fd_law ["script"] [] := T.F_law.binds (ps := ["script"]) fun _ _ _ _ _ _ us hl => match us, hl with | [_], _ => rfl
end
end K9
end
section
set_option Elab.async false
/-! The plain law: the least solution and closed trees, without a program. -/
namespace EV
open PySem L2

def rowOf (told : List Str) (ps : List Nat) : Row := ps.map fun p => told.getD p Str.empty
/-- the demand d is found broken at the told values -/
def hit (told : List Str) (d : Dem) : Bool :=
  ((decide (0 < told.length ∧ told.length - 1 ∈ d.1) || decide (told.length = 0)) && d.1.all (fun p => decide (p < told.length)) && !decide (rowOf told d.1 ∈ d.2)) || (decide (d.1 = []) && !decide (([] : Row) ∈ d.2))
def brk (ds : List Dem) (told : List Str) : Option Nat := ds.findIdx? (hit told)
def sat (ds : List Dem) (c : Row) : Bool := ds.all fun d => decide (rowOf c d.1 ∈ d.2)
def sol (ds : List Dem) (told : List Str) : List (List Str) → Option Row
  | [] => if sat ds told then some told else none
  | m :: rest => m.findSome? fun v => sol ds (told ++ [v]) rest
def WF (n : Nat) (ds : List Dem) : Prop := ∀ d ∈ ds, ∀ p ∈ d.1, p < n

/-! ### the first row of all -/
theorem findSome_ite (ds : List Dem) (rows : List Row) : rows.findSome? (fun r => if sat ds r then some r else none) = rows.find? (sat ds) := by
  induction rows with
  | nil => rfl
  | cons r t ih =>
    rw [List.findSome?_cons, List.find?_cons]
    cases sat ds r with
    | true => rfl
    | false => exact ih
theorem findSome_ext (f : Row → Option Row) (rows : List Row) (m : List Str) : (ext1 rows m).findSome? f = rows.findSome? fun r => m.findSome? fun v => f (r ++ [v]) := by
  induction rows with
  | nil => rfl
  | cons r t ih =>
    have e : ext1 (r :: t) m = (m.map fun x => r ++ [x]) ++ ext1 t m := rfl
    rw [e, List.findSome?_append, ih, List.findSome?_map, List.findSome?_cons]
    show (List.findSome? (fun v => f (r ++ [v])) m).or _ = _
    cases List.findSome? (fun v => f (r ++ [v])) m <;> rfl
theorem find_foldl (ds : List Dem) : ∀ (ms : List (List Str)) (rows : List Row), (ms.foldl ext1 rows).find? (sat ds) = rows.findSome? fun r => sol ds r ms
  | [], rows => by rw [List.foldl_nil, ← findSome_ite]; rfl
  | m :: t, rows => by
    rw [List.foldl_cons, find_foldl ds t, findSome_ext]
    rfl
theorem find_prod (ds : List Dem) (ms : List (List Str)) : (prodL ms).find? (sat ds) = sol ds [] ms := by
  unfold prodL
  rw [find_foldl, List.findSome?_cons]
  cases sol ds [] ms <;> rfl

/-! ### broken demands -/
def Bad (ds : List Dem) (told : List Str) : Prop := ∃ d ∈ ds, (∀ p ∈ d.1, p < told.length) ∧ rowOf told d.1 ∉ d.2
theorem rowOf_app {told more : List Str} {ps : List Nat} (h : ∀ p ∈ ps, p < told.length) : rowOf (told ++ more) ps = rowOf told ps := by
  unfold rowOf
  refine List.map_congr_left fun p hp => ?_
  rw [List.getD_eq_getElem?_getD, List.getD_eq_getElem?_getD, List.getElem?_append_left (h p hp)]
theorem Bad.app {ds : List Dem} {told : List Str} (h : Bad ds told) (v : Str) : Bad ds (told ++ [v]) := by
  obtain ⟨d, hd, h1, h2⟩ := h
  exact ⟨d, hd, fun p hp => by have := h1 p hp; rw [List.length_append]; omega, by rw [rowOf_app h1]; exact h2⟩
theorem Bad.sol {ds : List Dem} : ∀ {rest : List (List Str)} {told : List Str}, Bad ds told → sol ds told rest = none
  | [], told, ⟨d, hd, _, h2⟩ => by
    have e : sat ds told = false := by
      unfold sat
      rw [List.all_eq_false]
      exact ⟨d, hd, by simpa using h2⟩
    rw [EV.sol, e]
    rfl
  | m :: rest, told, h => by
    rw [EV.sol, List.findSome?_eq_none_iff]
    intro v _
    exact Bad.sol (h.app v)
theorem hit_spec {told : List Str} {d : Dem} (h : hit told d = true) : (∀ p ∈ d.1, p < told.length) ∧ rowOf told d.1 ∉ d.2 := by
  unfold hit at h
  rw [Bool.or_eq_true] at h
  rcases h with h | h
  · simp only [Bool.and_eq_true, List.all_eq_true, decide_eq_true_eq, Bool.not_eq_true', decide_eq_false_iff_not] at h
    exact ⟨h.1.2, h.2⟩
  · simp only [Bool.and_eq_true, decide_eq_true_eq, Bool.not_eq_true', decide_eq_false_iff_not] at h
    rw [h.1]
    exact ⟨fun _ hp => absurd hp List.not_mem_nil, h.2⟩
theorem brk_some {ds : List Dem} {told : List Str} {k : Nat} (h : brk ds told = some k) : ∃ d, ds[k]? = some d ∧ hit told d = true := by
  obtain ⟨hk, h1, _⟩ := List.findIdx?_eq_some_iff_getElem.mp h
  exact ⟨ds[k], List.getElem?_eq_getElem hk, h1⟩
theorem brk_bad {ds : List Dem} {told : List Str} {k : Nat} (h : brk ds told = some k) : Bad ds told := by
  obtain ⟨d, hd, hh⟩ := brk_some h
  exact ⟨d, List.mem_of_getElem? hd, hit_spec hh⟩
theorem brk_none {ds : List Dem} {told : List Str} (h : brk ds told = none) {d : Dem} (hd : d ∈ ds) : hit told d = false := by
  have := List.findIdx?_eq_none_iff.mp h d hd
  simpa using this
/-- the values hold where no beginning is found broken -/
theorem sat_of {ds : List Dem} {c : List Str} (wf : WF c.length ds) (h : ∀ i, i ≤ c.length → brk ds (c.take i) = none) : sat ds c = true := by
  unfold sat
  rw [List.all_eq_true]
  intro d hd
  rw [decide_eq_true_eq]
  cases hps : d.1 with
  | nil =>
    have h0 := brk_none (h 0 (Nat.zero_le _)) hd
    unfold hit at h0
    rw [Bool.or_eq_false_iff] at h0
    have h1 := h0.2
    rw [hps] at h1
    simpa [rowOf] using h1
  | cons p0 pr =>
    -- the greatest place
    obtain ⟨M, hM, hle⟩ : ∃ M ∈ d.1, ∀ p ∈ d.1, p ≤ M := by
      have : ∀ l : List Nat, l ≠ [] → ∃ M ∈ l, ∀ p ∈ l, p ≤ M := by
        intro l
        induction l with
        | nil => intro h; exact absurd rfl h
        | cons a t ih =>
          intro _
          cases t with
          | nil => exact ⟨a, List.mem_cons_self, fun p hp => by rw [List.mem_singleton] at hp; omega⟩
          | cons b u =>
            obtain ⟨M, hM, hl⟩ := ih (by simp)
            by_cases hh : a ≤ M
            · exact ⟨M, List.mem_cons_of_mem _ hM, fun p hp => (List.mem_cons.mp hp).elim (fun e => by omega) (hl p)⟩
            · exact ⟨a, List.mem_cons_self, fun p hp => (List.mem_cons.mp hp).elim (fun e => by omega) fun e => by have := hl p e; omega⟩
      exact this d.1 (by rw [hps]; simp)
    have hMn := wf d hd M hM
    have h0 := brk_none (h (M + 1) hMn) hd
    have hl : (c.take (M + 1)).length = M + 1 := by rw [List.length_take]; omega
    unfold hit at h0
    rw [Bool.or_eq_false_iff] at h0
    have h1 := h0.1
    rw [hl] at h1
    have a1 : decide (0 < M + 1 ∧ M + 1 - 1 ∈ d.1) = true := by simpa using hM
    have a2 : d.1.all (fun p => decide (p < M + 1)) = true := by
      rw [List.all_eq_true]
      intro p hp
      have := hle p hp
      simp; omega
    rw [a1, a2] at h1
    have h2 : rowOf (c.take (M + 1)) d.1 ∈ d.2 := by simpa using h1
    have e : rowOf c d.1 = rowOf (c.take (M + 1)) d.1 := by
      have e1 := rowOf_app (told := c.take (M + 1)) (more := c.drop (M + 1)) (ps := d.1) fun p hp => by rw [hl]; have := hle p hp; omega
      rw [List.take_append_drop] at e1
      exact e1
    rw [← hps, e]
    exact h2

/-! ### closed trees -/
inductive Tr where
  | leaf (k : Nat)
  | knot (d : Nat) (brs : List (Str × Tr))
inductive Closed (ds : List Dem) (ms : List (List Str)) : List Str → Tr → Prop
  | leaf {told : List Str} {k : Nat} : brk ds told = some k → Closed ds ms told (.leaf k)
  | knot {told : List Str} {m : List Str} {brs : List (Str × Tr)} : brk ds told = none → ms[told.length]? = some m → brs.map (·.1) = m → (∀ x ∈ brs, Closed ds ms (told ++ [x.1]) x.2) → Closed ds ms told (.knot told.length brs)
theorem drop_at {α : Type} {ms : List α} {i : Nat} {m : α} (h : ms[i]? = some m) : ms.drop i = m :: ms.drop (i + 1) := by
  obtain ⟨hi, e⟩ := List.getElem?_eq_some_iff.mp h
  rw [List.drop_eq_getElem_cons hi, e]
theorem Closed.none {ds : List Dem} {ms : List (List Str)} {told : List Str} {t : Tr} (h : Closed ds ms told t) : sol ds told (ms.drop told.length) = none := by
  induction h with
  | leaf h => exact (brk_bad h).sol
  | @knot told m brs h1 h2 h3 h4 ih =>
    rw [drop_at h2, sol, List.findSome?_eq_none_iff]
    intro v hv
    rw [← h3] at hv
    obtain ⟨x, hx, rfl⟩ := List.mem_map.mp hv
    have := ih x hx
    rw [List.length_append] at this
    exact this

/-! ### the search's stack -/
section
variable (ds : List Dem) (ms : List (List Str))
def OkB (told : List Str) (b : List (Str × Tr)) : Prop := ∃ m, ms[told.length]? = some m ∧ b.length ≤ m.length ∧ b.map (·.1) = m.take b.length ∧ ∀ x ∈ b, Closed ds ms (told ++ [x.1]) x.2
inductive Stk : List Str → List (List (Str × Tr)) → Prop
  | nil : brk ds [] = none → Stk [] []
  | push {c : List Str} {B : List (List (Str × Tr))} {b : List (Str × Tr)} {m : List Str} {v : Str} : Stk c B → OkB ds ms c b → ms[c.length]? = some m → m[b.length]? = some v → brk ds (c ++ [v]) = none → Stk (c ++ [v]) (B ++ [b])
end
section
variable {ds : List Dem} {ms : List (List Str)}
theorem Stk.inv {c : List Str} {B : List (List (Str × Tr))} (h : Stk ds ms c B) : (c = [] ∧ B = []) ∨ ∃ c' v B' b m, c = c' ++ [v] ∧ B = B' ++ [b] ∧ Stk ds ms c' B' ∧ OkB ds ms c' b ∧ ms[c'.length]? = some m ∧ m[b.length]? = some v := by
  cases h with
  | nil _ => exact .inl ⟨rfl, rfl⟩
  | push h1 h2 h3 h4 h5 => exact .inr ⟨_, _, _, _, _, rfl, rfl, h1, h2, h3, h4⟩
theorem Stk.brk {c : List Str} {B : List (List (Str × Tr))} (h : Stk ds ms c B) : EV.brk ds c = none := by cases h <;> assumption
theorem Stk.len {c : List Str} {B : List (List (Str × Tr))} (h : Stk ds ms c B) : B.length = c.length := by
  induction h with
  | nil _ => rfl
  | push _ _ _ _ _ ih => rw [List.length_append, List.length_append, ih]; rfl
theorem Stk.pre {c : List Str} {B : List (List (Str × Tr))} (h : Stk ds ms c B) : ∀ i, i ≤ c.length → EV.brk ds (c.take i) = none := by
  induction h with
  | nil h => intro i _; rw [List.take_nil]; exact h
  | @push c B b m v h1 h2 h3 h4 h5 ih =>
    intro i hi
    rw [List.length_append] at hi
    by_cases e : i ≤ c.length
    · rw [List.take_append_of_le_length e]
      exact ih i e
    · have e2 : i = (c ++ [v]).length := by
        rw [List.length_append]
        have e1 : [v].length = 1 := rfl
        omega
      rw [e2, List.take_length]
      exact h5
/-- what stands behind the stack's values is what stands behind all -/
theorem Stk.sol {c : List Str} {B : List (List (Str × Tr))} (h : Stk ds ms c B) {r : Row} : EV.sol ds c (ms.drop c.length) = some r → EV.sol ds [] ms = some r := by
  induction h with
  | nil _ => intro e; simpa using e
  | @push c B b m v h1 h2 h3 h4 h5 ih =>
    intro e
    refine ih ?_
    rw [drop_at h3, EV.sol]
    obtain ⟨m', hm', hl, hb, hc⟩ := h2
    rw [h3] at hm'
    cases hm'
    obtain ⟨hi, ev⟩ := List.getElem?_eq_some_iff.mp h4
    have em : m = m.take b.length ++ v :: m.drop (b.length + 1) := by
      rw [← ev, ← List.drop_eq_getElem_cons hi, List.take_append_drop]
    rw [em, List.findSome?_append, List.findSome?_cons]
    have e0 : (m.take b.length).findSome? (fun v => EV.sol ds (c ++ [v]) (ms.drop (c.length + 1))) = none := by
      rw [List.findSome?_eq_none_iff]
      intro u hu
      rw [← hb] at hu
      obtain ⟨x, hx, rfl⟩ := List.mem_map.mp hu
      have := (hc x hx).none
      rw [List.length_append] at this
      exact this
    rw [e0]
    have e1 : EV.sol ds (c ++ [v]) (ms.drop (c.length + 1)) = some r := by
      rw [List.length_append] at e
      exact e
    rw [e1]
    rfl
/-- all values are chosen -/
theorem Stk.full {c : List Str} {B : List (List (Str × Tr))} (h : Stk ds ms c B) (wf : WF ms.length ds) (hl : c.length = ms.length) : EV.sol ds [] ms = some c := by
  refine h.sol ?_
  rw [hl, List.drop_length, EV.sol, sat_of (by rw [hl]; exact wf) h.pre]
  rfl
theorem Stk.shut {c : List Str} {B : List (List (Str × Tr))} {b : List (Str × Tr)} {m : List Str} (h : Stk ds ms c B) (hb : OkB ds ms c b) (hm : ms[c.length]? = some m) (hl : b.length = m.length) : Closed ds ms c (.knot c.length b) := by
  obtain ⟨m', hm', _, h3, h4⟩ := hb
  rw [hm] at hm'
  cases hm'
  rw [hl, List.take_length] at h3
  exact .knot h.brk hm h3 h4
theorem OkB.more {c : List Str} {b : List (Str × Tr)} {m : List Str} {v : Str} {t : Tr} (hb : OkB ds ms c b) (hm : ms[c.length]? = some m) (hv : m[b.length]? = some v) (ht : Closed ds ms (c ++ [v]) t) : OkB ds ms c (b ++ [(v, t)]) := by
  obtain ⟨m', hm', h2, h3, h4⟩ := hb
  rw [hm] at hm'
  cases hm'
  have hi := (List.getElem?_eq_some_iff.mp hv).1
  refine ⟨m, hm, by rw [List.length_append]; exact hi, ?_, fun x hx => ?_⟩
  · rw [List.map_append, h3, List.length_append]
    show _ = m.take (b.length + 1)
    rw [List.take_add_one, hv]
    rfl
  · rcases List.mem_append.mp hx with h | h
    · exact h4 x h
    · rw [List.mem_singleton] at h
      subst h
      exact ht
theorem OkB.nil {c : List Str} {m : List Str} (hm : ms[c.length]? = some m) : OkB ds ms c [] := ⟨m, hm, Nat.zero_le _, rfl, fun _ h => by cases h⟩
end

/-! ### how long the search goes on -/
def tT : List (List Str) → Nat
  | [] => 0
  | m :: r => m.length * (1 + tT r) + 1
def tP : List (List Str) → List (List (Str × Tr)) → Nat
  | m :: r, b :: B => (m.length - b.length - 1) * (1 + tT r) + 1 + tP r B
  | _, _ => 0
/-- the steps left: frames B below, b on top -/
def tM (ms : List (List Str)) (B : List (List (Str × Tr))) (b : List (Str × Tr)) : Nat := tP ms B + match ms.drop B.length with
  | m :: r => (m.length - b.length) * (1 + tT r) + 1
  | [] => 0
theorem tP_snoc : ∀ (ms : List (List Str)) (B : List (List (Str × Tr))) (b : List (Str × Tr)) (m : List Str) (r : List (List Str)), ms.drop B.length = m :: r → tP ms (B ++ [b]) = tP ms B + ((m.length - b.length - 1) * (1 + tT r) + 1)
  | [], B, b, m, r, h => by rw [List.drop_nil] at h; cases h
  | m0 :: r0, [], b, m, r, h => by
    have e : m0 :: r0 = m :: r := h
    cases e
    show (m0.length - b.length - 1) * (1 + tT r0) + 1 + tP r0 [] = tP (m0 :: r0) [] + _
    have e1 : tP r0 [] = 0 := by cases r0 <;> rfl
    have e2 : tP (m0 :: r0) [] = 0 := rfl
    omega
  | m0 :: r0, b0 :: B, b, m, r, h => by
    have ih := tP_snoc r0 B b m r h
    show _ + tP r0 (B ++ [b]) = _ + tP r0 B + _
    omega
theorem tM_at {ms : List (List Str)} {B : List (List (Str × Tr))} {b : List (Str × Tr)} {m : List Str} (h : ms[B.length]? = some m) : tM ms B b = tP ms B + ((m.length - b.length) * (1 + tT (ms.drop (B.length + 1))) + 1) := by
  unfold tM
  rw [drop_at h]
/-- a branch more on top -/
theorem tM_more {ms : List (List Str)} {B : List (List (Str × Tr))} {b : List (Str × Tr)} {m : List Str} {x : Str × Tr} (h : ms[B.length]? = some m) (hl : b.length < m.length) : tM ms B (b ++ [x]) < tM ms B b := by
  rw [tM_at h, tM_at h, List.length_append]
  have e : m.length - b.length = (m.length - (b.length + [x].length)) + 1 := by
    have e1 : [x].length = 1 := rfl
    omega
  rw [e, Nat.add_mul]
  omega
/-- a knot closed: the frame below has one branch more -/
theorem tM_shut {ms : List (List Str)} {B : List (List (Str × Tr))} {b b' : List (Str × Tr)} {m m' : List Str} {x : Str × Tr} (h : ms[B.length]? = some m) (h' : ms[B.length + 1]? = some m') : tM ms B (b ++ [x]) < tM ms (B ++ [b]) b' := by
  have e1 : (B ++ [b]).length = B.length + 1 := by rw [List.length_append]; rfl
  rw [tM_at h, tM_at (B := B ++ [b]) (m := m') (by rw [e1]; exact h'), tP_snoc ms B b m _ (drop_at h), List.length_append]
  have e2 : [x].length = 1 := rfl
  have e3 : m.length - (b.length + [x].length) = m.length - b.length - 1 := by omega
  rw [e3]
  omega
/-- a knot more -/
theorem tM_open {ms : List (List Str)} {B : List (List (Str × Tr))} {b : List (Str × Tr)} {m m' : List Str} (h : ms[B.length]? = some m) (h' : ms[B.length + 1]? = some m') (hl : b.length < m.length) : tM ms (B ++ [b]) [] < tM ms B b := by
  have e1 : (B ++ [b]).length = B.length + 1 := by rw [List.length_append]; rfl
  rw [tM_at h, tM_at (B := B ++ [b]) (m := m') (by rw [e1]; exact h'), tP_snoc ms B b m _ (drop_at h), e1]
  have e2 : tT (ms.drop (B.length + 1)) = m'.length * (1 + tT (ms.drop (B.length + 1 + 1))) + 1 := by rw [drop_at h']; rfl
  have e3 : m.length - b.length = (m.length - b.length - 1) + 1 := by omega
  rw [e3, Nat.add_mul, Nat.one_mul]
  have e4 : m.length - b.length - 1 + 1 - 1 = m.length - b.length - 1 := by omega
  rw [e4]
  have e5 : m'.length - ([] : List (Str × Tr)).length = m'.length := rfl
  rw [e5]
  omega

/-! ### the number of knots and leaves -/
def fN : List (List Str) → Nat
  | [] => 1
  | m :: r => 1 + m.length * fN r
theorem fN_pos : ∀ ms : List (List Str), 0 < fN ms
  | [] => by decide
  | m :: r => by rw [fN]; omega

/-! ### the demands by their last variable -/
def lastIs (ds : List Dem) (k i : Nat) : Bool := match ds[k]? with | some d => decide (i ∈ d.1 ∧ ∀ p ∈ d.1, p ≤ i) | none => false
def bareIs (ds : List Dem) (k : Nat) : Bool := match ds[k]? with | some d => decide (d.1 = []) | none => false
def badAt (ds : List Dem) (c : List Str) (k : Nat) : Bool := match ds[k]? with | some d => !decide (rowOf c d.1 ∈ d.2) | none => false
def dueL (ds : List Dem) (j i : Nat) : List Nat := (List.range j).filter fun k => lastIs ds k i
def bareL (ds : List Dem) (j : Nat) : List Nat := (List.range j).filter fun k => bareIs ds k
theorem dueL_succ (ds : List Dem) (j i : Nat) : dueL ds (j + 1) i = dueL ds j i ++ if lastIs ds j i then [j] else [] := by
  unfold dueL
  rw [List.range_succ, List.filter_append, List.filter_cons, List.filter_nil]
theorem bareL_succ (ds : List Dem) (j : Nat) : bareL ds (j + 1) = bareL ds j ++ if bareIs ds j then [j] else [] := by
  unfold bareL
  rw [List.range_succ, List.filter_append, List.filter_cons, List.filter_nil]
theorem findIdx_range {α : Type} (p : α → Bool) (l : List α) (q : Nat → Bool) (h : ∀ k x, l[k]? = some x → q k = p x) : l.findIdx? p = (List.range l.length).find? q := by
  cases e : l.findIdx? p with
  | none =>
    symm
    rw [List.find?_eq_none]
    intro k hk
    have hk := List.mem_range.mp hk
    rw [h k _ (List.getElem?_eq_getElem hk)]
    have := List.findIdx?_eq_none_iff.mp e _ (List.getElem_mem hk)
    rw [this]
    decide
  | some k =>
    obtain ⟨hk, h1, h2⟩ := List.findIdx?_eq_some_iff_getElem.mp e
    symm
    have er : List.range l.length = List.range k ++ k :: (List.range (l.length - k - 1)).map (· + (k + 1)) := by
      have e1 : l.length = k + (1 + (l.length - k - 1)) := by omega
      rw [e1, List.range_add, List.range_add]
      have e2 : k + (1 + (l.length - k - 1)) - k - 1 = l.length - k - 1 := by omega
      rw [e2]
      simp [List.map_map, Function.comp_def]
      intro a _
      omega
    rw [er, List.find?_append]
    have e0 : (List.range k).find? q = none := by
      rw [List.find?_eq_none]
      intro j hj
      have hj := List.mem_range.mp hj
      rw [h j _ (List.getElem?_eq_getElem (Nat.lt_trans hj hk))]
      exact h2 j hj
    rw [e0, List.find?_cons, h k _ (List.getElem?_eq_getElem hk), h1]
    rfl
/-- the first broken demand at the root -/
theorem brk_nil (ds : List Dem) : brk ds [] = (bareL ds ds.length).find? (badAt ds []) := by
  unfold brk bareL
  rw [List.find?_filter]
  refine findIdx_range _ _ _ fun k d hk => ?_
  unfold bareIs badAt
  rw [hk]
  simp only []
  unfold hit
  rw [Bool.decide_and, Bool.decide_eq_true, Bool.decide_eq_true]
  obtain ⟨ps, rows⟩ := d
  cases ps with
  | nil => simp [rowOf]
  | cons p r => simp [rowOf]
/-- .. where a value more is told -/
theorem brk_snoc {ds : List Dem} {c : List Str} {n : Nat} (hc : c.length = n + 1) (h0 : brk ds [] = none) : brk ds c = (dueL ds ds.length n).find? (badAt ds c) := by
  unfold brk dueL
  rw [List.find?_filter]
  refine findIdx_range _ _ _ fun k d hk => ?_
  have hb := brk_none h0 (List.mem_of_getElem? hk)
  unfold lastIs badAt
  rw [hk]
  simp only []
  unfold hit at hb ⊢
  rw [Bool.or_eq_false_iff] at hb
  rw [hb.2, Bool.or_false, hc]
  have e1 : (decide (0 < n + 1 ∧ n + 1 - 1 ∈ d.1) || decide (n + 1 = 0)) = decide (n ∈ d.1) := by simp
  have e2 : (d.1.all fun p => decide (p < n + 1)) = decide (∀ p ∈ d.1, p ≤ n) := by
    rw [Bool.eq_iff_iff, List.all_eq_true, decide_eq_true_eq]
    constructor
    · intro h p hp
      have := of_decide_eq_true (h p hp)
      omega
    · intro h p hp
      have := h p hp
      exact decide_eq_true (by omega)
  rw [e1, e2, Bool.decide_and, Bool.decide_eq_true, Bool.decide_eq_true, Bool.decide_and]

/-! ### a stack of beginnings, the last one first -/
def sumN (ms : List (List Str)) (W : List (List Str)) : Nat := (W.map fun p => fN (ms.drop p.length)).sum
theorem sumN_snoc (ms W : List (List Str)) (p : List Str) : sumN ms (W ++ [p]) = sumN ms W + fN (ms.drop p.length) := by unfold sumN; rw [List.map_append, List.sum_append]; simp
structure LInv (ds : List Dem) (ms : List (List Str)) (W : List (List Str)) : Prop where
  val : W.reverse.findSome? (fun p => sol ds p (ms.drop p.length)) = sol ds [] ms
  ok : ∀ p ∈ W, p.length ≤ ms.length ∧ ∀ i, i < p.length → brk ds (p.take i) = none
section
variable {ds : List Dem} {ms W : List (List Str)} {p : List Str}
theorem LInv.start : LInv ds ms [[]] := ⟨by simp, fun p hp => by rw [List.mem_singleton] at hp; subst hp; exact ⟨Nat.zero_le _, fun i hi => absurd hi (Nat.not_lt_zero _)⟩⟩
theorem LInv.top (h : LInv ds ms (W ++ [p])) : (match sol ds p (ms.drop p.length) with | some c => some c | none => W.reverse.findSome? (fun p => sol ds p (ms.drop p.length))) = sol ds [] ms := by
  have := h.val
  rw [List.reverse_append, List.reverse_singleton, List.singleton_append, List.findSome?_cons] at this
  rw [← this]
  cases sol ds p (ms.drop p.length) <;> rfl
theorem LInv.bad {k : Nat} (h : LInv ds ms (W ++ [p])) (hb : brk ds p = some k) : LInv ds ms W := by
  refine ⟨?_, fun q hq => h.ok q (List.mem_append_left _ hq)⟩
  have := h.top
  rw [(brk_bad hb).sol] at this
  exact this
theorem LInv.full (h : LInv ds ms (W ++ [p])) (hb : brk ds p = none) (hl : p.length = ms.length) (wf : WF ms.length ds) : sol ds [] ms = some p := by
  have h1 := h.top
  have h2 := (h.ok p (by simp)).2
  have h3 : sol ds p (ms.drop p.length) = some p := by
    rw [hl, List.drop_length, sol, sat_of (by rw [hl]; exact wf) fun i hi => ?_]
    · rfl
    · rcases Nat.lt_or_eq_of_le hi with e | e
      · exact h2 i e
      · rw [e, List.take_length]; exact hb
  rw [h3] at h1
  exact h1.symm
theorem LInv.more {m : List Str} (h : LInv ds ms (W ++ [p])) (hb : brk ds p = none) (hm : ms[p.length]? = some m) : LInv ds ms (W ++ m.reverse.map fun x => p ++ [x]) := by
  refine ⟨?_, fun q hq => ?_⟩
  · rw [← h.top, List.reverse_append, ← List.map_reverse, List.reverse_reverse, List.findSome?_append, List.findSome?_map]
    have e : sol ds p (ms.drop p.length) = m.findSome? ((fun p => sol ds p (ms.drop p.length)) ∘ fun x => p ++ [x]) := by
      rw [drop_at hm, sol]
      congr 1
      funext v
      show _ = sol ds (p ++ [v]) (ms.drop (p ++ [v]).length)
      rw [List.length_append]
      rfl
    rw [← e]
    cases sol ds p (ms.drop p.length) <;> rfl
  · rcases List.mem_append.mp hq with e | e
    · exact h.ok q (List.mem_append_left _ e)
    · obtain ⟨x, _, rfl⟩ := List.mem_map.mp e
      have hi := (List.getElem?_eq_some_iff.mp hm).1
      refine ⟨by rw [List.length_append]; exact hi, fun i hi => ?_⟩
      rw [List.length_append] at hi
      have e1 : [x].length = 1 := rfl
      have hi' : i ≤ p.length := by omega
      rw [List.take_append_of_le_length hi']
      rcases Nat.lt_or_eq_of_le hi' with e | e
      · exact (h.ok p (by simp)).2 i e
      · rw [e, List.take_length]; exact hb
theorem sumN_more {m : List Str} (hm : ms[p.length]? = some m) : sumN ms (W ++ m.reverse.map fun x => p ++ [x]) + 1 = sumN ms (W ++ [p]) := by
  rw [sumN_snoc]
  unfold sumN
  rw [List.map_append, List.sum_append, drop_at hm, fN, List.map_map]
  have e : ∀ l : List Str, (l.map ((fun p => fN (ms.drop p.length)) ∘ fun x => p ++ [x])).sum = l.length * fN (ms.drop (p.length + 1)) := by
    intro l
    induction l with
    | nil => simp
    | cons a t ih =>
      rw [List.map_cons, List.sum_cons, ih, List.length_cons, Nat.succ_mul]
      have : ((fun p => fN (ms.drop p.length)) ∘ fun x => p ++ [x]) a = fN (ms.drop (p.length + 1)) := by
        show fN (ms.drop (p ++ [a]).length) = _
        rw [List.length_append]
        rfl
      omega
  rw [e, List.length_reverse]
  omega
theorem LInv.nil (h : LInv ds ms []) : sol ds [] ms = none := by rw [← h.val]; rfl
end

theorem Closed.leaf_of {ds : List Dem} {ms : List (List Str)} {told : List Str} {t : Tr} {k : Nat} (h : Closed ds ms told t) (hb : brk ds told = some k) : t = .leaf k := by
  cases h with
  | leaf h => rw [h] at hb; cases hb; rfl
  | knot h => rw [h] at hb; cases hb
theorem Closed.knot_of {ds : List Dem} {ms : List (List Str)} {told : List Str} {t : Tr} (h : Closed ds ms told t) (hb : brk ds told = Option.none) :
    ∃ m brs, t = .knot told.length brs ∧ ms[told.length]? = some m ∧ brs.map (·.1) = m ∧ ∀ x ∈ brs, Closed ds ms (told ++ [x.1]) x.2 := by
  cases h with
  | leaf h => rw [h] at hb; cases hb
  | knot h1 h2 h3 h4 => exact ⟨_, _, rfl, h2, h3, h4⟩
theorem sumN_brs {ms W : List (List Str)} {p : List Str} {m : List Str} {brs : List (Str × Tr)} (hm : ms[p.length]? = some m) (hb : brs.map (·.1) = m) : sumN ms (W ++ brs.map fun x => p ++ [x.1]) + 1 = sumN ms (W ++ [p]) := by
  have h := sumN_more (W := W) hm
  have e : sumN ms (W ++ m.reverse.map fun x => p ++ [x]) = sumN ms (W ++ brs.map fun x => p ++ [x.1]) := by
    unfold sumN
    rw [List.map_append, List.map_append, List.sum_append, List.sum_append, ← hb, List.map_map, List.map_map, List.map_reverse, List.map_map, List.sum_reverse]
    rfl
  omega
theorem sumN_len (ms : List (List Str)) : ∀ W : List (List Str), W.length ≤ sumN ms W
  | [] => Nat.zero_le _
  | a :: t => by
    have e : sumN ms (a :: t) = fN (ms.drop a.length) + sumN ms t := by unfold sumN; rw [List.map_cons, List.sum_cons]
    have h1 := fN_pos (ms.drop a.length)
    have h2 := sumN_len ms t
    rw [List.length_cons]
    omega

/-! ### trees in the heap -/
inductive rTr (H : Hp) : V → Tr → Prop
  | leaf {p : Addr} {k : Nat} : H p = some (.tup [.str "leaf", .int (k : Int)]) → rTr H (.ref p) (.leaf k)
  | knot {p q : Addr} {d : Nat} {brs : List (Str × Tr)} {vs : List V} (as : Nat → Addr) (ws : Nat → V) : H p = some (.tup [.str "knot", .int (d : Int), .ref q]) → H q = some (.lst vs) → vs.length = brs.length →
      (∀ i x, brs[i]? = some x → vs[i]? = some (.ref (as i)) ∧ H (as i) = some (.tup [.str x.1, ws i])) → (∀ i x, brs[i]? = some x → rTr H (ws i) x.2) → rTr H (.ref p) (.knot d brs)
theorem mTr : Mono rTr := by
  intro H H' v t e h
  induction h with
  | leaf h => exact .leaf (e _ _ h)
  | knot as ws h1 h2 h3 h4 _ ih => exact .knot as ws (e _ _ h1) (e _ _ h2) h3 (fun i x hx => ⟨(h4 i x hx).1, e _ _ (h4 i x hx).2⟩) ih
/-- a branch: a value and a tree -/
def rBr : Rep (Str × Tr) := fun G v x => ∃ a w, v = .ref a ∧ G a = some (.tup [.str x.1, w]) ∧ rTr G w x.2
theorem mBr : Mono rBr := fun _ _ _ _ e ⟨a, w, h1, h2, h3⟩ => ⟨a, w, h1, e _ _ h2, mTr.up e h3⟩
theorem rTr.mk {G : Hp} {p q : Addr} {d : Nat} {brs : List (Str × Tr)} {vs : List V} (h1 : G p = some (.tup [.str "knot", .int (d : Int), .ref q])) (h2 : G q = some (.lst vs)) (h : Paired (rBr G) vs brs) : rTr G (.ref p) (.knot d brs) := by
  have h3 := P2.len h
  have key : ∀ i : Nat, ∃ a w, ∀ x, brs[i]? = some x → vs[i]? = some (V.ref a) ∧ G a = some (.tup [.str x.1, w]) ∧ rTr G w x.2 := by
    intro i
    cases e : brs[i]? with
    | none => exact ⟨0, .non, fun x hx => nomatch hx⟩
    | some x =>
      obtain ⟨v, hv, a, w, rfl, ha, hw⟩ := P2.at h e
      exact ⟨a, w, fun x' hx' => by cases hx'; exact ⟨hv, ha, hw⟩⟩
  refine .knot (fun i => (key i).choose) (fun i => (key i).choose_spec.choose) h1 h2 h3 (fun i x hx => ?_) fun i x hx => ?_
  · have := (key i).choose_spec.choose_spec x hx
    exact ⟨this.1, this.2.1⟩
  · exact ((key i).choose_spec.choose_spec x hx).2.2
theorem rTr.knot_at {G : Hp} {v : V} {d : Nat} {brs : List (Str × Tr)} (h : rTr G v (.knot d brs)) : ∃ p q vs, v = .ref p ∧ G p = some (.tup [.str "knot", .int (d : Int), .ref q]) ∧ G q = some (.lst vs) ∧ Paired (rBr G) vs brs := by
  cases h with
  | @knot p q _ _ vs as ws h1 h2 h3 h4 h5 =>
    refine ⟨p, q, vs, rfl, h1, h2, ?_⟩
    have gen : ∀ (brs : List (Str × Tr)) (vs : List V) (as : Nat → Addr) (ws : Nat → V), vs.length = brs.length → (∀ i x, brs[i]? = some x → vs[i]? = some (.ref (as i)) ∧ G (as i) = some (.tup [.str x.1, ws i])) → (∀ i x, brs[i]? = some x → rTr G (ws i) x.2) → Paired (rBr G) vs brs := by
      intro brs
      induction brs with
      | nil => intro vs as ws hl _ _; cases vs with | nil => exact .nil | cons => cases hl
      | cons x r ih =>
        intro vs as ws hl h4 h5
        cases vs with
        | nil => cases hl
        | cons v t =>
          have e := h4 0 x rfl
          have e1 : v = .ref (as 0) := by simpa using e.1
          refine .cons ⟨as 0, ws 0, e1, e.2, h5 0 x rfl⟩ (ih t (fun i => as (i + 1)) (fun i => ws (i + 1)) (by simpa using hl) (fun i y hy => ?_) fun i y hy => h5 (i + 1) y hy)
          have := h4 (i + 1) y hy
          simpa using this
    exact gen brs vs as ws h3 h4 h5
theorem rTr.leaf_at {G : Hp} {v : V} {k : Nat} (h : rTr G v (.leaf k)) : ∃ p, v = .ref p ∧ G p = some (.tup [.str "leaf", .int (k : Int)]) := by
  cases h with
  | @leaf p _ h => exact ⟨p, rfl, h⟩
end EV
end
section
set_option Elab.async false
set_option maxRecDepth 100000
set_option maxHeartbeats 8000000
namespace K9
open PySem PySem.Spec L2 EV
local macro_rules | `(tactic| walk_at "hp") => `(tactic| first | assumption | exact upd_same | (refine upd_old ?_ (by assumption); walk_at "hp") | (refine upd_oth (by first | assumption | (apply Ne.symm; assumption)) ?_; walk_at "hp"))
local macro_rules | `(tactic| walk_at "kb") => `(tactic| first | exact kb_NoneType_bool | exact kb_NoneType_int | exact kb_NoneType_str | exact kb_NoneType_dict | exact kb_NoneType_list | exact kb_NoneType_tuple | exact kb_bool_bool | exact kb_bool_int | exact kb_bool_str | exact kb_bool_dict | exact kb_bool_list | exact kb_bool_tuple | exact kb_int_bool | exact kb_int_int | exact kb_int_str | exact kb_int_dict | exact kb_int_list | exact kb_int_tuple | exact kb_str_bool | exact kb_str_int | exact kb_str_str | exact kb_str_dict | exact kb_str_list | exact kb_str_tuple | exact kb_list_bool | exact kb_list_int | exact kb_list_str | exact kb_list_dict | exact kb_list_list | exact kb_list_tuple | exact kb_tuple_bool | exact kb_tuple_int | exact kb_tuple_str | exact kb_tuple_dict | exact kb_tuple_list | exact kb_tuple_tuple)
local macro_rules | `(tactic| walk_at "ty") => `(tactic| first | exact tx_int | exact tx_str | exact tx_non | exact tx_bl | exact tx_lst (by walk_at "hp") | exact tx_tup (by walk_at "hp"))
local macro_rules | `(tactic| walk_at "r1") => `(tactic| first
  | ((with_reducible refine' i_var ?e1 ?_); (case e1 => rfl)) | with_reducible refine i_seq ?_ | with_reducible refine i_c ?_ | with_reducible refine i_op ?_ | with_reducible refine i_I0 ?_
  | with_reducible refine i_asg ?_ | with_reducible refine i_gname ?_ | with_reducible refine i_nil ?_ | with_reducible refine i_cons ?_ | with_reducible refine i_cb ?_ | with_reducible refine i_call ?_
  | with_reducible refine i_test ?_ | with_reducible refine i_tB ?_ | with_reducible refine i_bl ?_ | with_reducible refine i_int ?_ | with_reducible refine i_if ?_ | with_reducible refine i_ifx ?_
  | with_reducible refine i_ret ?_ | with_reducible refine i_retN ?_ | with_reducible refine i_drop ?_ | with_reducible refine i_next ?_ | with_reducible refine i_break ?_ | with_reducible refine i_cont ?_
  | with_reducible refine i_par ?_ | with_reducible refine i_par1 ?_ | with_reducible refine i_and ?_ | with_reducible refine i_or ?_ | with_reducible refine i_not ?_ | with_reducible refine i_truth ?_
  | with_reducible refine i_andV ?_ | with_reducible refine i_orV ?_ | with_reducible refine i_tup ?_ | with_reducible refine i_lst ?_ | with_reducible refine i_un ?_ | with_reducible refine i_U ?_
  | with_reducible refine i_bm ?_ | with_reducible refine i_bm0 ?_ | with_reducible refine i_sl ?_ | with_reducible refine i_nopart ?_ | with_reducible refine i_part ?_ | with_reducible refine i_fld ?_
  | with_reducible refine i_gsub ?_ | with_reducible refine i_gcons ?_ | with_reducible refine i_gnil ?_
  | ((with_reducible refine' i_eq ?e1 ?_); (case e1 => rfl)) | ((with_reducible refine' i_ne ?e1 ?_); (case e1 => rfl))
  | ((with_reducible refine' i_I ?e1 ?_); (case e1 => first | decide | exact .inr ⟨by decide, by decide⟩ | exact ⟨by decide, by decide⟩ | assumption))
  | ((with_reducible refine' i_ixL ?e1 ?e2 ?_); (case e1 => walk_at "hp"); (case e2 => first | rfl | assumption))
  | ((with_reducible refine' i_ixT ?e1 ?e2 ?_); (case e1 => walk_at "hp"); (case e2 => first | rfl | assumption))
  | ((with_reducible refine' i_len ?e1 ?_); (case e1 => walk_at "hp")) | ((with_reducible refine' i_lenT ?e1 ?_); (case e1 => walk_at "hp"))
  | ((with_reducible refine' i_gtup ?e1 ?e2 ?_); (case e1 => walk_at "hp"); (case e2 => rfl))
  | ((with_reducible refine' i_set ?e1 ?e2 ?_); (case e1 => walk_at "hp"); (case e2 => rfl))
  | with_reducible refine i_int1 ?_ | with_reducible refine i_abs1 ?_ | with_reducible refine i_max2 ?_ | with_reducible refine i_min2 ?_ | with_reducible refine i_non ?_ | with_reducible refine i_nnon ?_
  | with_reducible refine i_for ?_ | with_reducible refine i_irng1 ?_ | with_reducible refine i_ilist ?_ | with_reducible refine i_itup ?_ | with_reducible refine i_ienum ?_ | with_reducible refine i_irev ?_ | with_reducible refine i_izip ?_ | with_reducible refine i_lc ?_ | with_reducible refine i_yes ?_ | with_reducible refine i_notV ?_ | ((with_reducible refine' i_isi ?e1 ?e2 ?_); (case e1 => walk_at "ty"); (case e2 => walk_at "kb")) | with_reducible refine i_meth ?_ | with_reducible refine i_make ?_ | with_reducible refine i_din ?_ | with_reducible refine i_dni ?_ | with_reducible refine i_dget ?_ | with_reducible refine i_dcT ?_ | with_reducible refine i_sfld ?_ | with_reducible refine i_chain ?_ | ((with_reducible refine' i_tuple ?e1 ?_); (case e1 => walk_at "hp")) | ((with_reducible refine' i_list ?e1 ?_); (case e1 => walk_at "hp")) | with_reducible refine iteT ?_ | with_reducible refine iteF ?_ | with_reducible refine iteNF ?_ | with_reducible refine iteNT ?_
  | ((with_reducible refine' i_ilistE ?e1 ?_); (case e1 => walk_at "hp")) | ((with_reducible refine' i_itupE ?e1 ?_); (case e1 => walk_at "hp")) | ((with_reducible refine' i_ienumE ?e1 ?_); (case e1 => walk_at "hp")) | ((with_reducible refine' i_irevE ?e1 ?_); (case e1 => walk_at "hp"))
  | ((with_reducible refine' i_rng1 ?e1 ?_); (case e1 => first | omega | decide); (try with_reducible rw [Int.toNat_natCast]))
  | ((with_reducible refine' And.intro ?e1 ?_); (case e1 => first | exact i_ty (by walk_at "hp") | rfl)))
local macro_rules | `(tactic| walk_at "r") => `(tactic| repeat walk_at "r1")

section
variable {P : Program} {w : World} {K : PySem.W.Frag} {mg : Str → Option Value} {base : Heap}
def spSameN (n : Nat) : Sp := fun vs H Q _ => ∃ (a b : V) (d : PyData), vs = [a, b] ∧ rDat H n a d ∧ rDat H n b d ∧ ∀ H', Same H H' → Q (.bl true) H'
theorem ok_sameN (T : Txt K mg) : ∀ n, FnOk P w K mg base CX0 n T.a_same T.fd_same ["answer", "due"] (spSameN n)
  | 0 => by
    have no : ∀ {a : V} {d : PyData} {H : Hp}, rDat H 0 a d → False := fun h => nomatch h
    exact ⟨fun vs H Q E ⟨a, b, d, _, h, _⟩ => (no h).elim, fun A outer s H args us vs Q E _ _ _ _ ⟨a, b, d, _, h, _⟩ => (no h).elim⟩
  | n + 1 => by
    have ih : FnOk P w K mg base CX0 n T.a_same T.fd_same ["answer", "due"] (spSameN n) := ok_sameN T n
    refine T.F_same.ok sc_same (fun vs H Q E h => ?_) (fun cdv A outer s H vs Q E hr h => ?_)
    · obtain ⟨_, _, _, rfl, _⟩ := h; rfl
    · obtain ⟨a, b, d, rfl, ha, hb, k⟩ := h
      have hrR := hr
      have hu := hu_of hr
      refine ⟨_, (pss_cons (ps_if (pt_cmpR EV.opIsN (pv 1) pe_non (nomark _))
      (pss_one (ps_ret (pe_cmpR EV.opIsN (pv 0) pe_non (nomark _))))
      pss_nil)
    (pss_cons (ps_if (pt_val (pe_callB (EV.cIsi (K := K) rfl) (by rfl) T.b_isinstance (by decide +kernel) (pa_cons (pv 1) (pa_cons (pe_bltn (v := .ty "bool") (by rfl) T.b_bool (by decide +kernel) rfl) pa_nil))))
      (pss_one (ps_ret (pe_and (pe_callB (EV.cIsi (K := K) rfl) (by rfl) T.b_isinstance (by decide +kernel) (pa_cons (pv 0) (pa_cons (pe_bltn (v := .ty "bool") (by rfl) T.b_bool (by decide +kernel) rfl) pa_nil))) (pe_one (pe_cmpR ((EV.opEqP (K := K) rfl hr.units).or op_eq) (pv 0) (pv 1) (nomark _))))))
      pss_nil)
    (pss_cons (ps_if (pt_val (pe_callB (EV.cIsi (K := K) rfl) (by rfl) T.b_isinstance (by decide +kernel) (pa_cons (pv 1) (pa_cons (pe_bltn (v := .ty "int") (by rfl) T.b_int (by decide +kernel) rfl) pa_nil))))
      (pss_one (ps_ret (pe_and (pe_callB (EV.cIsi (K := K) rfl) (by rfl) T.b_isinstance (by decide +kernel) (pa_cons (pv 0) (pa_cons (pe_bltn (v := .ty "int") (by rfl) T.b_int (by decide +kernel) rfl) pa_nil))) (pe_and (pe_not (pe_callB (EV.cIsi (K := K) rfl) (by rfl) T.b_isinstance (by decide +kernel) (pa_cons (pv 0) (pa_cons (pe_bltn (v := .ty "bool") (by rfl) T.b_bool (by decide +kernel) rfl) pa_nil)))) (pe_one (pe_cmpR ((EV.opEqP (K := K) rfl hr.units).or op_eq) (pv 0) (pv 1) (nomark _)))))))
      pss_nil)
    (pss_cons (ps_if (pt_val (pe_callB (EV.cIsi (K := K) rfl) (by rfl) T.b_isinstance (by decide +kernel) (pa_cons (pv 1) (pa_cons (pe_bltn (v := .ty "str") (by rfl) T.b_str (by decide +kernel) rfl) pa_nil))))
      (pss_one (ps_ret (pe_and (pe_callB (EV.cIsi (K := K) rfl) (by rfl) T.b_isinstance (by decide +kernel) (pa_cons (pv 0) (pa_cons (pe_bltn (v := .ty "str") (by rfl) T.b_str (by decide +kernel) rfl) pa_nil))) (pe_one (pe_cmpR ((EV.opEqP (K := K) rfl hr.units).or op_eq) (pv 0) (pv 1) (nomark _))))))
      pss_nil)
    (pss_cons (ps_if (pt_val (pe_callB (EV.cIsi (K := K) rfl) (by rfl) T.b_isinstance (by decide +kernel) (pa_cons (pv 1) (pa_cons (pe_bltn (v := .ty "dict") (by rfl) T.b_dict (by decide +kernel) rfl) pa_nil))))
      (pss_one (ps_ret (pe_and (pe_callB (EV.cIsi (K := K) rfl) (by rfl) T.b_isinstance (by decide +kernel) (pa_cons (pv 0) (pa_cons (pe_bltn (v := .ty "dict") (by rfl) T.b_dict (by decide +kernel) rfl) pa_nil))) (pe_and (pe_cmpR op_eq (pe_callB (EV.cLen (K := K) rfl) (by rfl) T.b_len (by decide +kernel) (pa_cons (pv 0) pa_nil)) (pe_callB (EV.cLen (K := K) rfl) (by rfl) T.b_len (by decide +kernel) (pa_cons (pv 1) pa_nil)) (nomark _)) (pe_one (pe_callB (EV.cAll (K := K) rfl rfl) (by rfl) T.b_all (by decide +kernel) (pa_cons (pe_lc (own := [("x", 2)]) rfl sc_same.nd (EV.piL (K := K) rfl (pv 1)) (blkOk_by (own := [("x", 2)]) (N := ["answer", "due", "x", "y"]) (sc := defScope s_same) (by decide +kernel)) (fun _ _ _ _ _ => (pg_name (i := 2) sc_same.nd rfl (Or.inl rfl))) (fun _ _ _ _ _ => pts_nil) (fun _ _ _ _ _ => (pe_and (pe_cmpR (EV.opInS (K := K) rfl) (pv 2) (pv 0) (by rfl)) (pe_one (pe_call ih hrR rfl T.m_same T.F_same.kp (bd_same T) .nil pass0 (pa_cons (pe_ix (EV.ixL (K := K) rfl) (pv 0) (pv 2) (fun _ _ => rfl)) (pa_cons (pe_ix (EV.ixL (K := K) rfl) (pv 1) (pv 2) (fun _ _ => rfl)) pa_nil))))))) pa_nil)))))))
      pss_nil)
    (pss_cons (EV.psIfM (PW.pt (EV.pwOrM (PW.pt (pw_and (pt_val (pe_callB (EV.cIsi (K := K) rfl) (by rfl) T.b_isinstance (by decide +kernel) (pa_cons (pv 1) (pa_cons (pe_bltn (v := .ty "list") (by rfl) T.b_list (by decide +kernel) rfl) pa_nil)))) (pw_and1 (pt_not (pt_val (pe_callB (EV.cIsi (K := K) rfl) (by rfl) T.b_isinstance (by decide +kernel) (pa_cons (pv 0) (pa_cons (pe_bltn (v := .ty "list") (by rfl) T.b_list (by decide +kernel) rfl) pa_nil)))))))) (pw_or1 (PW.pt (pw_and (pt_val (pe_callB (EV.cIsi (K := K) rfl) (by rfl) T.b_isinstance (by decide +kernel) (pa_cons (pv 1) (pa_cons (pe_bltn (v := .ty "tuple") (by rfl) T.b_tuple (by decide +kernel) rfl) pa_nil)))) (pw_and1 (pt_not (pt_val (pe_callB (EV.cIsi (K := K) rfl) (by rfl) T.b_isinstance (by decide +kernel) (pa_cons (pv 0) (pa_cons (pe_bltn (v := .ty "tuple") (by rfl) T.b_tuple (by decide +kernel) rfl) pa_nil)))))))))))
      (pss_one (ps_ret pe_bl))
      pss_nil)
    (pss_one (ps_ret (pe_and (pe_cmpR op_eq (pe_callB (EV.cLen (K := K) rfl) (by rfl) T.b_len (by decide +kernel) (pa_cons (pv 0) pa_nil)) (pe_callB (EV.cLen (K := K) rfl) (by rfl) T.b_len (by decide +kernel) (pa_cons (pv 1) pa_nil)) (nomark _)) (pe_one (pe_callB (EV.cAll (K := K) rfl rfl) (by rfl) T.b_all (by decide +kernel) (pa_cons (pe_lc (own := [("x", 2), ("y", 3)]) rfl sc_same.nd (EV.piZip (K := K) rfl (by rfl) T.b_zip (pa_cons (pv 0) (pa_cons (pv 1) pa_nil))) (blkOk_by (own := [("x", 2), ("y", 3)]) (N := ["answer", "due", "x", "y"]) (sc := defScope s_same) (by decide +kernel)) (fun _ _ _ _ _ => (EV.pgT (K := K) (n := 2) rfl rfl (pgs_cons (pg_name (i := 2) sc_same.nd rfl (Or.inl rfl)) (pgs_cons (pg_name (i := 3) sc_same.nd rfl (Or.inl rfl)) pgs_nil)))) (fun _ _ _ _ _ => pts_nil) (fun _ _ _ _ _ => (pe_call ih hrR rfl T.m_same T.F_same.kp (bd_same T) .nil pass0 (pa_cons (pv 2) (pa_cons (pv 3) pa_nil))))) pa_nil)))))))))))), ?_⟩
      cases ha with
      | non n =>
        cases hb
        walk_at "r"
        refine ite_t (by rfl) ?_
        walk_at "r"
        exact k _ (Same.refl _)
      | int n i =>
        cases hb
        walk_at "r"
        refine ite_f (by rfl) ?_
        walk_at "r"
        refine Or.inr ⟨rfl, ?_⟩
        rw [decide_eq_true rfl]
        exact k _ (Same.refl _)
      | str n z =>
        cases hb
        walk_at "r"
        refine ite_f (by rfl) ?_
        walk_at "r"
        refine Or.inr ⟨rfl, ?_⟩
        rw [decide_eq_true rfl]
        exact k _ (Same.refl _)
      | @lst _ p vs ds h1 h2 h3 h4 =>
        cases hb with
        | @lst _ p' vs' _ g1 g2 g3 g4 =>
          walk_at "r"
          refine ite_f (by rfl) ?_
          walk_at "r"
          refine i_ifM (fun b H' => b = false ∧ H' = H) ?_ ?_
          · walk_at "r"
            refine i_orM (fun b H' => b = false ∧ H' = H) ?_ ?_
            · walk_at "r"
              first | rfl | exact ⟨rfl, rfl⟩
            · rintro b H' ⟨rfl, rfl⟩
              walk_at "r"
              first | rfl | exact ⟨rfl, rfl⟩
          · rintro b H' ⟨rfl, rfl⟩
            walk_at "r"
            have e1 : decide (V.int (vs.length : Nat) = V.int (vs'.length : Nat)) = true := by rw [h2, g2]; exact decide_eq_true rfl
            rw [e1]
            walk_at "r"
            refine i_izipL h1 g1 ?_
            intro De hDe
            refine lc_mapJ (S := rB) (ys' := ds.map fun _ => true) (fun i v H'' => ∃ T x y, v = .ref T ∧ H'' T = some (.tup [x, y]) ∧ vs[i]? = some x ∧ vs'[i]? = some y) mB (Same.refl _) (by rw [List.length_map]; omega) hDe ?_ ?_ ?_ ?_ ?_
            · intro i H1 hi s1
              rw [List.length_map] at hi
              exact ⟨vs, vs', _, _, SqL.of (s1 _ _ h1), SqL.of (s1 _ _ g1), List.getElem?_eq_getElem (by omega), List.getElem?_eq_getElem (by omega)⟩
            · intro H1 s1
              exact ⟨vs, vs', SqL.of (s1 _ _ h1), SqL.of (s1 _ _ g1), .inl (by rw [List.length_map]; omega)⟩
            · rintro i H1 x H2 hi s1 ⟨Tt, x', y', rfl, hT, rfl, f1, f2⟩
              exact ⟨⟨Tt, _, .inl ⟨hT, rfl⟩⟩, Tt, x', y', rfl, upd_same, f1 _ (SqL.of (s1 _ _ h1)), f2 _ (SqL.of (s1 _ _ g1))⟩
            · rintro i v y G H1 hy ⟨Tt, x', y', rfl, hT, f1, f2⟩ g k2 hk2
              rw [List.getElem?_map] at hy
              obtain ⟨dd, hdd, rfl⟩ := Option.map_eq_some_iff.mp hy
              walk_at "r"
              refine ⟨x', y', dd, rfl, (h4 i x' dd f1 hdd).up g.hh, (g4 i y' dd f2 hdd).up g.hh, fun H3 s3 => ?_⟩
              exact hk2 _ _ _ ((Grow.refl g.gh).ext s3) rfl
            · intro H1 G acc g gd ed pa
              rw [bls_eq pa] at ed
              walk_at "r"
              refine i_all ed ?_
              have e2 : ((ds.map fun _ => true).all id) = true := by simp
              rw [e2]
              exact k _ g.hh
      | @tup _ p vs ds h1 h2 h3 h4 =>
        cases hb with
        | @tup _ p' vs' _ g1 g2 g3 g4 =>
          walk_at "r"
          refine ite_f (by rfl) ?_
          walk_at "r"
          refine i_ifM (fun b H' => b = false ∧ H' = H) ?_ ?_
          · walk_at "r"
            refine i_orM (fun b H' => b = false ∧ H' = H) ?_ ?_
            · walk_at "r"
              first | rfl | exact ⟨rfl, rfl⟩
            · rintro b H' ⟨rfl, rfl⟩
              walk_at "r"
              first | rfl | exact ⟨rfl, rfl⟩
          · rintro b H' ⟨rfl, rfl⟩
            walk_at "r"
            have e1 : decide (V.int (vs.length : Nat) = V.int (vs'.length : Nat)) = true := by rw [h2, g2]; exact decide_eq_true rfl
            rw [e1]
            walk_at "r"
            refine i_izipT h1 g1 ?_
            intro De hDe
            refine lc_mapJ (S := rB) (ys' := ds.map fun _ => true) (fun i v H'' => ∃ T x y, v = .ref T ∧ H'' T = some (.tup [x, y]) ∧ vs[i]? = some x ∧ vs'[i]? = some y) mB (Same.refl _) (by rw [List.length_map]; omega) hDe ?_ ?_ ?_ ?_ ?_
            · intro i H1 hi s1
              rw [List.length_map] at hi
              exact ⟨vs, vs', _, _, SqT.of (s1 _ _ h1), SqT.of (s1 _ _ g1), List.getElem?_eq_getElem (by omega), List.getElem?_eq_getElem (by omega)⟩
            · intro H1 s1
              exact ⟨vs, vs', SqT.of (s1 _ _ h1), SqT.of (s1 _ _ g1), .inl (by rw [List.length_map]; omega)⟩
            · rintro i H1 x H2 hi s1 ⟨Tt, x', y', rfl, hT, rfl, f1, f2⟩
              exact ⟨⟨Tt, _, .inl ⟨hT, rfl⟩⟩, Tt, x', y', rfl, upd_same, f1 _ (SqT.of (s1 _ _ h1)), f2 _ (SqT.of (s1 _ _ g1))⟩
            · rintro i v y G H1 hy ⟨Tt, x', y', rfl, hT, f1, f2⟩ g k2 hk2
              rw [List.getElem?_map] at hy
              obtain ⟨dd, hdd, rfl⟩ := Option.map_eq_some_iff.mp hy
              walk_at "r"
              refine ⟨x', y', dd, rfl, (h4 i x' dd f1 hdd).up g.hh, (g4 i y' dd f2 hdd).up g.hh, fun H3 s3 => ?_⟩
              exact hk2 _ _ _ ((Grow.refl g.gh).ext s3) rfl
            · intro H1 G acc g gd ed pa
              rw [bls_eq pa] at ed
              walk_at "r"
              refine i_all ed ?_
              have e2 : ((ds.map fun _ => true).all id) = true := by simp
              rw [e2]
              exact k _ g.hh
theorem ok_same (T : Txt K mg) : FnOk P w K mg base CX0 12 T.a_same T.fd_same ["answer", "due"] (spSameN 12) := ok_sameN T 12
end
end K9
end
section
set_option Elab.async false
set_option maxRecDepth 100000
set_option maxHeartbeats 4000000
namespace K9
open PySem PySem.Spec L2 EV
local macro_rules | `(tactic| walk_at "hp") => `(tactic| first | assumption | exact upd_same | (refine upd_old ?_ (by assumption); walk_at "hp") | (refine upd_oth (by first | assumption | (apply Ne.symm; assumption)) ?_; walk_at "hp"))
local macro_rules | `(tactic| walk_at "kb") => `(tactic| first | exact kb_NoneType_bool | exact kb_NoneType_int | exact kb_NoneType_str | exact kb_NoneType_dict | exact kb_NoneType_list | exact kb_NoneType_tuple | exact kb_bool_bool | exact kb_bool_int | exact kb_bool_str | exact kb_bool_dict | exact kb_bool_list | exact kb_bool_tuple | exact kb_int_bool | exact kb_int_int | exact kb_int_str | exact kb_int_dict | exact kb_int_list | exact kb_int_tuple | exact kb_str_bool | exact kb_str_int | exact kb_str_str | exact kb_str_dict | exact kb_str_list | exact kb_str_tuple | exact kb_list_bool | exact kb_list_int | exact kb_list_str | exact kb_list_dict | exact kb_list_list | exact kb_list_tuple | exact kb_tuple_bool | exact kb_tuple_int | exact kb_tuple_str | exact kb_tuple_dict | exact kb_tuple_list | exact kb_tuple_tuple)
local macro_rules | `(tactic| walk_at "ty") => `(tactic| first | exact tx_int | exact tx_str | exact tx_non | exact tx_bl | exact tx_lst (by walk_at "hp") | exact tx_tup (by walk_at "hp"))
local macro_rules | `(tactic| walk_at "r1") => `(tactic| first
  | ((with_reducible refine' i_var ?e1 ?_); (case e1 => rfl)) | with_reducible refine i_seq ?_ | with_reducible refine i_c ?_ | with_reducible refine i_op ?_ | with_reducible refine i_I0 ?_
  | with_reducible refine i_asg ?_ | with_reducible refine i_gname ?_ | with_reducible refine i_nil ?_ | with_reducible refine i_cons ?_ | with_reducible refine i_cb ?_ | with_reducible refine i_call ?_
  | with_reducible refine i_test ?_ | with_reducible refine i_tB ?_ | with_reducible refine i_bl ?_ | with_reducible refine i_int ?_ | with_reducible refine i_if ?_ | with_reducible refine i_ifx ?_
  | with_reducible refine i_ret ?_ | with_reducible refine i_retN ?_ | with_reducible refine i_drop ?_ | with_reducible refine i_next ?_ | with_reducible refine i_break ?_ | with_reducible refine i_cont ?_
  | with_reducible refine i_par ?_ | with_reducible refine i_par1 ?_ | with_reducible refine i_and ?_ | with_reducible refine i_or ?_ | with_reducible refine i_not ?_ | with_reducible refine i_truth ?_
  | with_reducible refine i_andV ?_ | with_reducible refine i_orV ?_ | with_reducible refine i_tup ?_ | with_reducible refine i_lst ?_ | with_reducible refine i_un ?_ | with_reducible refine i_U ?_
  | with_reducible refine i_bm ?_ | with_reducible refine i_bm0 ?_ | with_reducible refine i_sl ?_ | with_reducible refine i_nopart ?_ | with_reducible refine i_part ?_ | with_reducible refine i_fld ?_
  | with_reducible refine i_gsub ?_ | with_reducible refine i_gcons ?_ | with_reducible refine i_gnil ?_
  | ((with_reducible refine' i_eq ?e1 ?_); (case e1 => rfl)) | ((with_reducible refine' i_ne ?e1 ?_); (case e1 => rfl))
  | ((with_reducible refine' i_I ?e1 ?_); (case e1 => first | decide | exact .inr ⟨by decide, by decide⟩ | exact ⟨by decide, by decide⟩ | assumption))
  | ((with_reducible refine' i_ixL ?e1 ?e2 ?_); (case e1 => walk_at "hp"); (case e2 => first | rfl | assumption))
  | ((with_reducible refine' i_ixT ?e1 ?e2 ?_); (case e1 => walk_at "hp"); (case e2 => first | rfl | assumption))
  | ((with_reducible refine' i_len ?e1 ?_); (case e1 => walk_at "hp")) | ((with_reducible refine' i_lenT ?e1 ?_); (case e1 => walk_at "hp"))
  | ((with_reducible refine' i_gtup ?e1 ?e2 ?_); (case e1 => walk_at "hp"); (case e2 => rfl))
  | ((with_reducible refine' i_set ?e1 ?e2 ?_); (case e1 => walk_at "hp"); (case e2 => rfl))
  | with_reducible refine i_int1 ?_ | with_reducible refine i_abs1 ?_ | with_reducible refine i_max2 ?_ | with_reducible refine i_min2 ?_ | with_reducible refine i_non ?_ | with_reducible refine i_nnon ?_
  | with_reducible refine i_for ?_ | with_reducible refine i_irng1 ?_ | with_reducible refine i_ilist ?_ | with_reducible refine i_itup ?_ | with_reducible refine i_ienum ?_ | with_reducible refine i_irev ?_ | with_reducible refine i_izip ?_ | with_reducible refine i_lc ?_ | with_reducible refine i_yes ?_ | with_reducible refine i_notV ?_ | ((with_reducible refine' i_isi ?e1 ?e2 ?_); (case e1 => walk_at "ty"); (case e2 => walk_at "kb")) | with_reducible refine i_meth ?_ | with_reducible refine i_make ?_ | with_reducible refine i_din ?_ | with_reducible refine i_dni ?_ | with_reducible refine i_dget ?_ | with_reducible refine i_dcT ?_ | with_reducible refine i_sfld ?_ | with_reducible refine i_chain ?_ | ((with_reducible refine' i_tuple ?e1 ?_); (case e1 => walk_at "hp")) | ((with_reducible refine' i_list ?e1 ?_); (case e1 => walk_at "hp")) | with_reducible refine iteT ?_ | with_reducible refine iteF ?_ | with_reducible refine iteNF ?_ | with_reducible refine iteNT ?_
  | ((with_reducible refine' i_ilistE ?e1 ?_); (case e1 => walk_at "hp")) | ((with_reducible refine' i_itupE ?e1 ?_); (case e1 => walk_at "hp")) | ((with_reducible refine' i_ienumE ?e1 ?_); (case e1 => walk_at "hp")) | ((with_reducible refine' i_irevE ?e1 ?_); (case e1 => walk_at "hp"))
  | ((with_reducible refine' i_rng1 ?e1 ?_); (case e1 => first | omega | decide); (try with_reducible rw [Int.toNat_natCast]))
  | ((with_reducible refine' And.intro ?e1 ?_); (case e1 => first | exact i_ty (by walk_at "hp") | rfl)))
local macro_rules | `(tactic| walk_at "r") => `(tactic| repeat walk_at "r1")

section
variable {P : Program} {w : World} {K : PySem.W.Frag} {mg : Str → Option Value} {base : Heap}
/-- sizes that a list may have -/
def SizeOk (ms : List (List Str)) (ds : List Dem) : Prop := ms.length ≤ 100000 ∧ (∀ m ∈ ms, m.length ≤ 100000) ∧ ds.length ≤ 100000 ∧ (∀ d ∈ ds, d.1.length ≤ 100000 ∧ d.2.length ≤ 100000)
abbrev Prb := List (List Str) × List Dem
abbrev rPair : Rep Prb := rP rMenus rDems
theorem mPair : Mono rPair := mP mMenus mDems
/-- and it was not there in H -/
def fr {α : Type} (H : Hp) (R : Rep α) : Rep α := fun G v x => R G v x ∧ ∃ p, v = .ref p ∧ H p = none
theorem mFr {α : Type} {H : Hp} {R : Rep α} (m : Mono R) : Mono (fr H R) := fun _ _ _ _ e ⟨h, p⟩ => ⟨m.up e h, p⟩
def rDemF (H : Hp) : Rep Dem := fun G v d => ∃ p b c, v = .ref p ∧ G p = some (.tup [.ref b, .ref c]) ∧ rNats G (.ref b) d.1 ∧ rRows G (.ref c) d.2 ∧ H b = none ∧ H c = none
theorem mDemF {H : Hp} : Mono (rDemF H) := fun _ _ _ _ e ⟨p, b, c, h1, h2, h3, h4, h5⟩ => ⟨p, b, c, h1, e _ _ h2, (mL mN).up e h3, mRows.up e h4, h5⟩
abbrev rPairF (H : Hp) : Rep Prb := rP (fr H (rL (fr H rStrs))) (fr H (rL (rDemF H)))
theorem mono2 {α : Type} {R S : Rep α} (f : ∀ G v x, R G v x → S G v x) {G : Hp} {v : V} {xs : List α} (h : rL R G v xs) : rL S G v xs := by
  obtain ⟨p, vs, e, hp, q⟩ := h
  exact ⟨p, vs, e, hp, P2.mono q fun _ _ => f _ _ _⟩
theorem rPairF.pair {H G : Hp} {v : V} {x : Prb} (h : rPairF H G v x) : rPair G v x := by
  obtain ⟨p, a, b, e, hp, ⟨h1, _⟩, ⟨h2, _⟩⟩ := h
  exact ⟨p, a, b, e, hp, mono2 (fun _ _ _ h => h.1) h1, mono2 (fun _ _ _ ⟨p, b, c, h1, h2, h3, h4, _⟩ => ⟨p, _, _, h1, h2, h3, h4⟩) h2⟩
/-- lists of H, rows of D -/
def rDemX (D : Hp) : Rep Dem := fun H v d => ∃ p b q vs, v = .ref p ∧ H p = some (.tup [b, .ref q]) ∧ rNats H b d.1 ∧ H q = some (.lst vs) ∧ Paired (rRow D) vs d.2
theorem mDemX {D : Hp} : Mono (rDemX D) := fun _ _ _ _ e ⟨p, b, q, vs, h1, h2, h3, h4, h5⟩ => ⟨p, b, q, vs, h1, e _ _ h2, (mL mN).up e h3, e _ _ h4, h5⟩
theorem rDemX.of {D H : Hp} {v : V} {d : Dem} (s : Same D H) (h : rDem D v d) : rDemX D H v d := by
  obtain ⟨p, a, b, e, hp, h1, q, vs, rfl, h3, h4⟩ := h
  exact ⟨p, a, q, vs, e, s _ _ hp, (mL mN).up s h1, s _ _ h3, h4⟩
/-- new lists, rows of D -/
def rDemK (D H : Hp) : Rep Dem := fun G v d => ∃ p b q vs, v = .ref p ∧ G p = some (.tup [.ref b, .ref q]) ∧ rNats G (.ref b) d.1 ∧ G q = some (.lst vs) ∧ Paired (rRow D) vs d.2 ∧ H b = none ∧ H q = none
theorem mDemK {D H : Hp} : Mono (rDemK D H) := fun _ _ _ _ e ⟨p, b, q, vs, h1, h2, h3, h4, h5⟩ => ⟨p, b, q, vs, h1, e _ _ h2, (mL mN).up e h3, e _ _ h4, h5⟩
theorem rDemK.x {D H G : Hp} {v : V} {d : Dem} (h : rDemK D H G v d) : rDemX D G v d := by
  obtain ⟨p, b, q, vs, h1, h2, h3, h4, h5, _⟩ := h
  exact ⟨p, .ref b, q, vs, h1, h2, h3, h4, h5⟩
theorem rDemK.f {D H G : Hp} {v : V} {d : Dem} (s : Same D G) (h : rDemK D H G v d) : rDemF H G v d := by
  obtain ⟨p, b, q, vs, h1, h2, h3, h4, h5, h6, h7⟩ := h
  exact ⟨p, b, q, h1, h2, h3, ⟨q, vs, rfl, h4, P2.mono h5 fun _ _ h => mRow.up s h⟩, h6, h7⟩
theorem rDemF.dem {H G : Hp} {v : V} {d : Dem} (h : rDemF H G v d) : rDem G v d := by
  obtain ⟨p, b, q, h1, h2, h3, h4, _⟩ := h
  exact ⟨p, _, _, h1, h2, h3, h4⟩
def spCopy : Sp := fun vs H Q _ => ∃ (D : Hp) (dv : V) (ds : List Dem), vs = [dv] ∧ Same D H ∧ rDems D dv ds ∧ ds.length ≤ 100000 ∧
  ∀ H' v D', Grow D H D' H' → rDems D' v ds → Q v H'
theorem ok_k10_copy (T : Txt K mg) : FnOk P w K mg base CX0 1 T.a_k10_copy T.fd_k10_copy ["demands"] spCopy := by
  refine T.F_k10_copy.ok sc_k10_copy (fun vs H Q E h => ?_) (fun cdv A outer s H vs Q E hr h => ?_)
  · obtain ⟨_, _, _, rfl, _⟩ := h; rfl
  · obtain ⟨D, dv, ds, rfl, sD, ⟨dl, dvs, rfl, hdl, pd⟩, z3, k⟩ := h
    have hdl1 := sD _ _ hdl
    refine ⟨_, (pss_one (ps_ret (pe_lc (own := [("places", 1), ("rows", 2)]) rfl sc_k10_copy.nd (EV.piL (K := K) rfl (pv 0)) (blkOk_by (own := [("places", 1), ("rows", 2)]) (N := ["demands", "places", "rows"]) (sc := defScope s_k10_copy) (by decide +kernel)) (fun _ _ _ _ _ => (EV.pgT (K := K) (n := 2) rfl rfl (pgs_cons (pg_name (i := 1) sc_k10_copy.nd rfl (Or.inl rfl)) (pgs_cons (pg_name (i := 2) sc_k10_copy.nd rfl (Or.inl rfl)) pgs_nil)))) (fun _ _ _ _ _ => pts_nil) (fun _ _ _ _ _ => (pe_tup (pa_cons (pe_callTy (EV.cList (K := K) rfl) (by rfl) T.b_list (by decide +kernel) (pa_cons (pv 1) pa_nil)) (pa_cons (pe_callTy (EV.cList (K := K) rfl) (by rfl) T.b_list (by decide +kernel) (pa_cons (pv 2) pa_nil)) pa_nil))))))), ?_⟩
    walk_at "r"
    intro L2 hL2
    refine lc_mapL (S := rDem) (ys' := ds) mDem sD hdl1 (P2.len pd) (by omega) hL2 ?_ ?_
    · intro i v d G2 H2 hv hd g2 k2 hk2
      obtain ⟨d', hd', p, b, q, rfl, hp, hb, hq⟩ := P2.at' pd hv
      rw [hd] at hd'
      cases hd'
      obtain ⟨bl, rfl, hbl⟩ := hb.at
      obtain ⟨q, rvs, rfl, hq, pr⟩ := hq
      have hp2 := g2.base _ _ hp
      have hb2 := g2.base _ _ hbl
      have hq2 := g2.base _ _ hq
      walk_at "r"
      intro p1 hp1
      have hq3 : upd H2 p1 (.lst (d.1.map fun n : Nat => V.int (n : Int))) q = some (.lst rvs) := upd_old hq2 hp1
      walk_at "r"
      intro p2 hp2'
      obtain ⟨hp20, n21⟩ := upd_non hp2'
      refine ⟨szb rfl, fun p3 hp3 => ?_⟩
      obtain ⟨hp31, n32⟩ := upd_non hp3
      obtain ⟨hp30, n31⟩ := upd_non hp31
      have g3 := (((Grow.refl g2.gh).new (o := .lst (d.1.map fun n : Nat => V.int (n : Int))) hp1).new (o := .lst rvs) hp2').new (o := .tup [.ref p1, .ref p2]) hp3
      refine hk2 _ _ _ g3 ⟨p3, _, _, rfl, upd_same, rNats.of (by walk_at "hp"), ⟨p2, rvs, rfl, by walk_at "hp", P2.mono pr fun _ _ h => mRow.up (g2.gg.trans g3.gg) h⟩⟩
    · intro H2 G2 acc2 g2 gd2 ed2 pa2
      exact k _ _ _ (g2.add hL2 gd2 ed2) ⟨L2, acc2, rfl, upd_same, P2.mono pa2 fun _ _ h => mDem.up (same_add gd2) h⟩
end
end K9
end
section
set_option Elab.async false
set_option maxRecDepth 100000
set_option maxHeartbeats 4000000
namespace K9
open PySem PySem.Spec L2 EV
local macro_rules | `(tactic| walk_at "hp") => `(tactic| first | assumption | exact upd_same | (refine upd_old ?_ (by assumption); walk_at "hp") | (refine upd_oth (by first | assumption | (apply Ne.symm; assumption)) ?_; walk_at "hp"))
local macro_rules | `(tactic| walk_at "kb") => `(tactic| first | exact kb_NoneType_bool | exact kb_NoneType_int | exact kb_NoneType_str | exact kb_NoneType_dict | exact kb_NoneType_list | exact kb_NoneType_tuple | exact kb_bool_bool | exact kb_bool_int | exact kb_bool_str | exact kb_bool_dict | exact kb_bool_list | exact kb_bool_tuple | exact kb_int_bool | exact kb_int_int | exact kb_int_str | exact kb_int_dict | exact kb_int_list | exact kb_int_tuple | exact kb_str_bool | exact kb_str_int | exact kb_str_str | exact kb_str_dict | exact kb_str_list | exact kb_str_tuple | exact kb_list_bool | exact kb_list_int | exact kb_list_str | exact kb_list_dict | exact kb_list_list | exact kb_list_tuple | exact kb_tuple_bool | exact kb_tuple_int | exact kb_tuple_str | exact kb_tuple_dict | exact kb_tuple_list | exact kb_tuple_tuple)
local macro_rules | `(tactic| walk_at "ty") => `(tactic| first | exact tx_int | exact tx_str | exact tx_non | exact tx_bl | exact tx_lst (by walk_at "hp") | exact tx_tup (by walk_at "hp"))
local macro_rules | `(tactic| walk_at "r1") => `(tactic| first
  | ((with_reducible refine' i_var ?e1 ?_); (case e1 => rfl)) | with_reducible refine i_seq ?_ | with_reducible refine i_c ?_ | with_reducible refine i_op ?_ | with_reducible refine i_I0 ?_
  | with_reducible refine i_asg ?_ | with_reducible refine i_gname ?_ | with_reducible refine i_nil ?_ | with_reducible refine i_cons ?_ | with_reducible refine i_cb ?_ | with_reducible refine i_call ?_
  | with_reducible refine i_test ?_ | with_reducible refine i_tB ?_ | with_reducible refine i_bl ?_ | with_reducible refine i_int ?_ | with_reducible refine i_if ?_ | with_reducible refine i_ifx ?_
  | with_reducible refine i_ret ?_ | with_reducible refine i_retN ?_ | with_reducible refine i_drop ?_ | with_reducible refine i_next ?_ | with_reducible refine i_break ?_ | with_reducible refine i_cont ?_
  | with_reducible refine i_par ?_ | with_reducible refine i_par1 ?_ | with_reducible refine i_and ?_ | with_reducible refine i_or ?_ | with_reducible refine i_not ?_ | with_reducible refine i_truth ?_
  | with_reducible refine i_andV ?_ | with_reducible refine i_orV ?_ | with_reducible refine i_tup ?_ | with_reducible refine i_lst ?_ | with_reducible refine i_un ?_ | with_reducible refine i_U ?_
  | with_reducible refine i_bm ?_ | with_reducible refine i_bm0 ?_ | with_reducible refine i_sl ?_ | with_reducible refine i_nopart ?_ | with_reducible refine i_part ?_ | with_reducible refine i_fld ?_
  | with_reducible refine i_gsub ?_ | with_reducible refine i_gcons ?_ | with_reducible refine i_gnil ?_
  | ((with_reducible refine' i_eq ?e1 ?_); (case e1 => rfl)) | ((with_reducible refine' i_ne ?e1 ?_); (case e1 => rfl))
  | ((with_reducible refine' i_I ?e1 ?_); (case e1 => first | decide | exact .inr ⟨by decide, by decide⟩ | exact ⟨by decide, by decide⟩ | assumption))
  | ((with_reducible refine' i_ixL ?e1 ?e2 ?_); (case e1 => walk_at "hp"); (case e2 => first | rfl | assumption))
  | ((with_reducible refine' i_ixT ?e1 ?e2 ?_); (case e1 => walk_at "hp"); (case e2 => first | rfl | assumption))
  | ((with_reducible refine' i_len ?e1 ?_); (case e1 => walk_at "hp")) | ((with_reducible refine' i_lenT ?e1 ?_); (case e1 => walk_at "hp"))
  | ((with_reducible refine' i_gtup ?e1 ?e2 ?_); (case e1 => walk_at "hp"); (case e2 => rfl))
  | ((with_reducible refine' i_set ?e1 ?e2 ?_); (case e1 => walk_at "hp"); (case e2 => rfl))
  | with_reducible refine i_int1 ?_ | with_reducible refine i_abs1 ?_ | with_reducible refine i_max2 ?_ | with_reducible refine i_min2 ?_ | with_reducible refine i_non ?_ | with_reducible refine i_nnon ?_
  | with_reducible refine i_for ?_ | with_reducible refine i_irng1 ?_ | with_reducible refine i_ilist ?_ | with_reducible refine i_itup ?_ | with_reducible refine i_ienum ?_ | with_reducible refine i_irev ?_ | with_reducible refine i_izip ?_ | with_reducible refine i_lc ?_ | with_reducible refine i_yes ?_ | with_reducible refine i_notV ?_ | ((with_reducible refine' i_isi ?e1 ?e2 ?_); (case e1 => walk_at "ty"); (case e2 => walk_at "kb")) | with_reducible refine i_meth ?_ | with_reducible refine i_make ?_ | with_reducible refine i_din ?_ | with_reducible refine i_dni ?_ | with_reducible refine i_dget ?_ | with_reducible refine i_dcT ?_ | with_reducible refine i_sfld ?_ | with_reducible refine i_chain ?_ | ((with_reducible refine' i_tuple ?e1 ?_); (case e1 => walk_at "hp")) | ((with_reducible refine' i_list ?e1 ?_); (case e1 => walk_at "hp")) | with_reducible refine iteT ?_ | with_reducible refine iteF ?_ | with_reducible refine iteNF ?_ | with_reducible refine iteNT ?_
  | ((with_reducible refine' i_ilistE ?e1 ?_); (case e1 => walk_at "hp")) | ((with_reducible refine' i_itupE ?e1 ?_); (case e1 => walk_at "hp")) | ((with_reducible refine' i_ienumE ?e1 ?_); (case e1 => walk_at "hp")) | ((with_reducible refine' i_irevE ?e1 ?_); (case e1 => walk_at "hp"))
  | ((with_reducible refine' i_rng1 ?e1 ?_); (case e1 => first | omega | decide); (try with_reducible rw [Int.toNat_natCast]))
  | ((with_reducible refine' And.intro ?e1 ?_); (case e1 => first | exact i_ty (by walk_at "hp") | rfl)))
local macro_rules | `(tactic| walk_at "r") => `(tactic| repeat walk_at "r1")

def pFields (c d : V) : List (Str × V) := putF "_demands" d (putF "_choices" c [])
theorem pf_choices (c d : V) : (pFields c d).lookup ("_choices" : Str) = some c := by
  unfold pFields
  rw [lookup_putF, if_neg (by decide +kernel), lookup_putF, if_pos rfl]
theorem pf_demands (c d : V) : (pFields c d).lookup ("_demands" : Str) = some d := by
  unfold pFields
  rw [lookup_putF, if_pos rfl]
theorem pf_no {c d : V} {m : Str} (h1 : ¬ m = "_demands") (h2 : ¬ m = "_choices") : (pFields c d).lookup m = none := by
  unfold pFields
  rw [lookup_putF, if_neg h1, lookup_putF, if_neg h2]
  rfl
theorem pf_len1 (c : V) : (putF "_choices" c []).length < 1000 := by show 1 < 1000; decide
/-- a problem object -/
def rProb (C : Addr) : Rep Prb := fun G v x => ∃ a dx c d, v = .ref a ∧ G a = some (.ins C dx (pFields c d)) ∧ G dx = some (.own a) ∧ rMenus G c x.1 ∧ rDems G d x.2
theorem mProb {C : Addr} : Mono (rProb C) := fun _ _ _ _ e ⟨a, dx, c, d, h1, h2, h3, h4, h5⟩ => ⟨a, dx, c, d, h1, e _ _ h2, e _ _ h3, mMenus.up e h4, mDems.up e h5⟩
section
variable {P : Program} {w : World} {K : PySem.W.Frag} {mg : Str → Option Value} {base : Heap}
def spInit (C : Addr) : Sp := fun vs H Q _ => ∃ (D H0 : Hp) (a dx : Addr) (mv dv : V) (ms : List (List Str)) (ds : List Dem), vs = [.ref a, mv, dv] ∧ H = upd (upd H0 dx (.own a)) a (.ins C dx []) ∧ H0 a = none ∧ H0 dx = none ∧ dx ≠ a ∧
  Same D H0 ∧ rMenus H0 mv ms ∧ rL (rDemX D) H0 dv ds ∧ SizeOk ms ds ∧ ∀ H' D', Grow D H0 D' H' → rProb C D' (.ref a) (ms, ds) → Q .non H'
theorem ok_Problem_init (T : Txt K mg) : FnOk P w K mg base CX0 1 T.a_Problem_init T.fd_Problem_init ["self", "choices", "demands"] (spInit T.c_Problem) := by
  refine T.F_Problem_init.ok sc_Problem_init (fun vs H Q E h => ?_) (fun cdv A outer s H vs Q E hr h => ?_)
  · obtain ⟨_, _, _, _, _, _, _, _, rfl, _⟩ := h; rfl
  · obtain ⟨D, H0, a, dx, mv, dv, ms, ds, rfl, rfl, ha, hdx, nda, sD, ⟨ml, mvs, rfl, hml, pm⟩, ⟨dl, dvs, rfl, hdl, pd⟩, ⟨z1, z2, z3, z4⟩, k⟩ := h
    refine ⟨_, (pss_cons (ps_fld (pv 0) (pe_lc (own := [("row", 3)]) rfl sc_Problem_init.nd (EV.piL (K := K) rfl (pv 1)) (blkOk_by (own := [("row", 3)]) (N := ["self", "choices", "demands", "row", "places", "rows"]) (sc := defScope s_Problem_init) (by decide +kernel)) (fun _ _ _ _ _ => (pg_name (i := 3) sc_Problem_init.nd rfl (Or.inl rfl))) (fun _ _ _ _ _ => pts_nil) (fun _ _ _ _ _ => (pe_callTy (EV.cList (K := K) rfl) (by rfl) T.b_list (by decide +kernel) (pa_cons (pv 3) pa_nil)))) rfl)
    (pss_one (ps_fld (pv 0) (pe_lc (own := [("places", 4), ("rows", 5)]) rfl sc_Problem_init.nd (EV.piL (K := K) rfl (pv 2)) (blkOk_by (own := [("places", 4), ("rows", 5)]) (N := ["self", "choices", "demands", "row", "places", "rows"]) (sc := defScope s_Problem_init) (by decide +kernel)) (fun _ _ _ _ _ => (EV.pgT (K := K) (n := 2) rfl rfl (pgs_cons (pg_name (i := 4) sc_Problem_init.nd rfl (Or.inl rfl)) (pgs_cons (pg_name (i := 5) sc_Problem_init.nd rfl (Or.inl rfl)) pgs_nil)))) (fun _ _ _ _ _ => pts_nil) (fun _ _ _ _ _ => (pe_tup (pa_cons (pe_callTy (EV.cList (K := K) rfl) (by rfl) T.b_list (by decide +kernel) (pa_cons (pv 4) pa_nil)) (pa_cons (pe_lc (own := [("row", 3)]) rfl sc_Problem_init.nd (EV.piL (K := K) rfl (pv 5)) (blkOk_by (own := [("row", 3)]) (N := ["self", "choices", "demands", "row", "places", "rows"]) (sc := _) (by kernel_rfl)) (fun _ _ _ _ _ => (pg_name (i := 3) sc_Problem_init.nd rfl (Or.inl rfl))) (fun _ _ _ _ _ => pts_nil) (fun _ _ _ _ _ => (pe_callTy (EV.cTuple (K := K) rfl) (by rfl) T.b_tuple (by decide +kernel) (pa_cons (pv 3) pa_nil)))) pa_nil))))) rfl))), ?_⟩
    have hax : upd H0 dx (.own a) a = none := by rw [upd_ne nda.symm]; exact ha
    have gA : Grow D H0 (upd D dx (.own a)) (upd (upd H0 dx (.own a)) a (.ins T.c_Problem dx [])) := ((Grow.refl sD).new hdx).tmp hax
    have da : upd D dx (.own a) a = none := by rw [upd_ne nda.symm]; exact sD.free ha
    have hm1 := gA.hh _ _ hml
    generalize hH : upd (upd H0 dx (.own a)) a (.ins T.c_Problem dx []) = H at gA hm1 ⊢
    have haH : H a = some (.ins T.c_Problem dx []) := by rw [← hH]; exact upd_same
    walk_at "r"
    intro L1 hL1
    refine lc_mapL (S := rStrs) (ys' := ms) mStrs gA.gh hm1 (P2.len pm) (by omega) hL1 ?_ ?_
    · intro i v y G H1 hv hy g k2 hk2
      obtain ⟨y', hy', hr1⟩ := P2.at' pm hv
      rw [hy] at hy'
      cases hy'
      obtain ⟨l, rfl, hl⟩ := hr1.at
      have hl1 := g.hh _ _ (gA.hh _ _ hl)
      walk_at "r"
      intro p hp
      exact hk2 _ _ _ ((Grow.refl g.gh).new hp) (rStrs.of upd_same)
    · intro H1 G acc g gd ed pa
      have g1 := g.add hL1 gd ed
      have e1 : rMenus (upd G L1 (.lst acc)) (.ref L1) ms := ⟨L1, acc, rfl, upd_same, P2.mono pa fun _ _ h => mStrs.up (same_add gd) h⟩
      have ga1 := g1.out haH da
      have gB := (gA.trans g1).mut (o := .ins T.c_Problem dx (putF "_choices" (.ref L1) [])) ha ga1
      have haH1 := g.hh _ _ haH
      generalize upd G L1 (.lst acc) = G1 at g1 e1 ga1 gB
      walk_at "r"
      refine ⟨_, _, _, _, rfl, haH1, T.cl_Problem, T.na_Problem_choices, by decide, ?_⟩
      generalize hH2 : upd H1 a (.ins T.c_Problem dx (putF "_choices" (.ref L1) [])) = H2 at gB ⊢
      have haH2 : H2 a = some (.ins T.c_Problem dx (putF "_choices" (.ref L1) [])) := by rw [← hH2]; exact upd_same
      have hdl1 := gB.hh _ _ hdl
      walk_at "r"
      intro L2 hL2
      refine lc_mapL (S := rDem) (ys' := ds) mDem gB.gh hdl1 (P2.len pd) (by omega) hL2 ?_ ?_
      · intro i v d G2 H3 hv hd g2 k2 hk2
        obtain ⟨d', hd', p, b, q, rvs, rfl, hp, hb, hq, pr⟩ := P2.at' pd hv
        rw [hd] at hd'
        cases hd'
        obtain ⟨bl, rfl, hbl⟩ := hb.at
        have s2 : Same H0 H3 := fun b o e => g2.hh _ _ (gB.hh _ _ e)
        have hp2 := s2 _ _ hp
        have hb2 := s2 _ _ hbl
        have hq2 := s2 _ _ hq
        have hzd := z4 d (List.mem_of_getElem? hd)
        have hpl := P2.len pr
        have sDG : Same D G2 := fun b o e => g2.gg _ _ (gB.gg _ _ e)
        walk_at "r"
        intro p1 hp1
        have hq3 : upd H3 p1 (.lst (d.1.map fun n : Nat => V.int (n : Int))) q = some (.lst rvs) := upd_old hq2 hp1
        have g3 := (Grow.refl g2.gh).new (o := .lst (d.1.map fun n : Nat => V.int (n : Int))) hp1
        walk_at "r"
        intro L3 hL3
        refine lc_mapL (S := rRow) (ys' := d.2) mRow g3.gh hq3 hpl (by omega) hL3 ?_ ?_
        · intro j v r G4 H4 hv hr4 g4 k3 hk3
          obtain ⟨r', hr', hrow⟩ := P2.at' pr hv
          rw [hr4] at hr'
          cases hr'
          have hrow4 := mRow.up (g3.gg.trans g4.gg) (mRow.up sDG hrow)
          obtain ⟨t, rfl, ht⟩ := hrow4.at
          have ht4 := g4.gh _ _ ht
          walk_at "r"
          refine ⟨_, _, rfl, .inr ⟨SqT.of ht4, ?_⟩⟩
          exact hk3 _ _ _ (Grow.refl g4.gh) hrow4
        · intro H4 G4 acc4 g4 gd4 ed4 pa4
          have g5 := g4.add hL3 gd4 ed4
          refine ⟨szb rfl, fun p3 hp3 => ?_⟩
          have g6 := (g3.trans g5).new (o := .tup [.ref p1, .ref L3]) hp3
          refine hk2 _ _ _ g6 ⟨p3, _, _, rfl, upd_same, ?_, ?_⟩
          · refine rNats.of (upd_old (g5.gg _ _ upd_same) (g5.gh.free hp3))
          · refine ⟨L3, acc4, rfl, upd_old upd_same (g5.gh.free hp3), P2.mono pa4 fun _ _ h => ?_⟩
            exact mRow.up (Same.new (same_add gd4) (g5.gh.free hp3)) h
      · intro H3 G2 acc2 g2 gd2 ed2 pa2
        have g3 := g2.add hL2 gd2 ed2
        have ga2 := g3.out haH2 ga1
        have haH3 := g2.hh _ _ haH2
        walk_at "r"
        refine ⟨_, _, _, _, rfl, haH3, T.cl_Problem, T.na_Problem_demands, pf_len1 _, ?_⟩
        have gC := ((gB.trans g3).mut (o := .ins T.c_Problem dx (pFields (.ref L1) (.ref L2))) ha ga2).add ha ga2 upd_same
        refine k _ _ gC ⟨a, dx, _, _, rfl, upd_same, ?_, ?_, ?_⟩
        · rw [upd_ne nda]
          exact g3.gg _ _ (g1.gg _ _ upd_same)
        · exact mMenus.up (Same.new g3.gg ga2) e1
        · exact ⟨L2, acc2, rfl, upd_old upd_same ga2, P2.mono pa2 fun _ _ h => mDem.up (Same.new (same_add gd2) ga2) h⟩
def spChoices (C : Addr) : Sp := fun vs H Q _ => ∃ (D : Hp) (v : V) (x : Prb), vs = [v] ∧ Same D H ∧ rProb C D v x ∧ SizeOk x.1 x.2 ∧ ∀ H' v' D', Grow D H D' H' → fr H (rL (fr H rStrs)) D' v' x.1 → Q v' H'
theorem ok_Problem_choices (T : Txt K mg) : FnOk P w K mg base CX0 1 T.a_Problem_choices T.fd_Problem_choices ["self"] (spChoices T.c_Problem) := by
  refine T.F_Problem_choices.ok sc_Problem_choices (fun vs H Q E h => ?_) (fun cdv A outer s H vs Q E hr h => ?_)
  · obtain ⟨_, _, _, rfl, _⟩ := h; rfl
  · obtain ⟨D, v, ⟨ms, ds⟩, rfl, sD, ⟨a, dx, c, d, rfl, ha, hdx, ⟨ml, mvs, rfl, hml, pm⟩, hd⟩, ⟨z1, z2, z3, z4⟩, k⟩ := h
    refine ⟨_, (pss_one (ps_ret (pe_lc (own := [("row", 1)]) rfl sc_Problem_choices.nd (EV.piL (K := K) rfl (EV.peFld (K := K) rfl (pv 0))) (blkOk_by (own := [("row", 1)]) (N := ["self", "row"]) (sc := defScope s_Problem_choices) (by decide +kernel)) (fun _ _ _ _ _ => (pg_name (i := 1) sc_Problem_choices.nd rfl (Or.inl rfl))) (fun _ _ _ _ _ => pts_nil) (fun _ _ _ _ _ => (pe_callTy (EV.cList (K := K) rfl) (by rfl) T.b_list (by decide +kernel) (pa_cons (pv 1) pa_nil)))))), ?_⟩
    have ha1 := sD _ _ ha
    have hml1 := sD _ _ hml
    walk_at "r"
    refine ⟨_, _, _, _, _, rfl, ha1, T.cl_Problem, T.na_Problem_choices, pf_choices _ _, ?_⟩
    walk_at "r"
    intro L1 hL1
    refine lc_mapL (S := fr H rStrs) (ys' := ms) (mFr mStrs) sD hml1 (P2.len pm) (Nat.le_trans z1 (by decide)) hL1 ?_ ?_
    · intro i v y G H1 hv hy g k2 hk2
      obtain ⟨y', hy', hr1⟩ := P2.at' pm hv
      have hy : ms[i]? = some y := hy
      have hy' : ms[i]? = some y' := hy'
      rw [hy] at hy'
      cases hy'
      obtain ⟨l, rfl, hl⟩ := hr1.at
      have hl1 := g.base _ _ hl
      walk_at "r"
      intro p hp
      exact hk2 _ _ _ ((Grow.refl g.gh).new hp) ⟨rStrs.of upd_same, p, rfl, g.hh.free hp⟩
    · intro H1 G acc g gd ed pa
      exact k _ _ _ (g.add hL1 gd ed) ⟨⟨L1, acc, rfl, upd_same, P2.mono pa fun _ _ h => (mFr mStrs).up (same_add gd) h⟩, L1, rfl, hL1⟩
def spDemands (C : Addr) : Sp := fun vs H Q _ => ∃ (D : Hp) (v : V) (x : Prb), vs = [v] ∧ Same D H ∧ rProb C D v x ∧ SizeOk x.1 x.2 ∧ ∀ H' v' D', Grow D H D' H' → fr H (rL (rDemF H)) D' v' x.2 → Q v' H'
theorem ok_Problem_demands (T : Txt K mg) : FnOk P w K mg base CX0 1 T.a_Problem_demands T.fd_Problem_demands ["self"] (spDemands T.c_Problem) := by
  refine T.F_Problem_demands.ok sc_Problem_demands (fun vs H Q E h => ?_) (fun cdv A outer s H vs Q E hr h => ?_)
  · obtain ⟨_, _, _, rfl, _⟩ := h; rfl
  · obtain ⟨D, v, ⟨ms, ds⟩, rfl, sD, ⟨a, dx, c, d, rfl, ha, hdx, hm, ⟨dl, dvs, rfl, hdl, pd⟩⟩, ⟨z1, z2, z3, z4⟩, k⟩ := h
    refine ⟨_, (pss_one (ps_ret (pe_lc (own := [("places", 1), ("rows", 2)]) rfl sc_Problem_demands.nd (EV.piL (K := K) rfl (EV.peFld (K := K) rfl (pv 0))) (blkOk_by (own := [("places", 1), ("rows", 2)]) (N := ["self", "places", "rows"]) (sc := defScope s_Problem_demands) (by decide +kernel)) (fun _ _ _ _ _ => (EV.pgT (K := K) (n := 2) rfl rfl (pgs_cons (pg_name (i := 1) sc_Problem_demands.nd rfl (Or.inl rfl)) (pgs_cons (pg_name (i := 2) sc_Problem_demands.nd rfl (Or.inl rfl)) pgs_nil)))) (fun _ _ _ _ _ => pts_nil) (fun _ _ _ _ _ => (pe_tup (pa_cons (pe_callTy (EV.cList (K := K) rfl) (by rfl) T.b_list (by decide +kernel) (pa_cons (pv 1) pa_nil)) (pa_cons (pe_callTy (EV.cList (K := K) rfl) (by rfl) T.b_list (by decide +kernel) (pa_cons (pv 2) pa_nil)) pa_nil))))))), ?_⟩
    have ha1 := sD _ _ ha
    have hdl1 := sD _ _ hdl
    walk_at "r"
    refine ⟨_, _, _, _, _, rfl, ha1, T.cl_Problem, T.na_Problem_demands, pf_demands _ _, ?_⟩
    walk_at "r"
    intro L2 hL2
    refine lc_mapL (S := rDemF H) (ys' := ds) mDemF sD hdl1 (P2.len pd) (Nat.le_trans z3 (by decide)) hL2 ?_ ?_
    · intro i v d G2 H2 hv hd g2 k2 hk2
      obtain ⟨d', hd', p, b, q, rfl, hp, hb, hq⟩ := P2.at' pd hv
      have hd' : ds[i]? = some d' := hd'
      rw [hd] at hd'
      cases hd'
      obtain ⟨bl, rfl, hbl⟩ := hb.at
      obtain ⟨q, rvs, rfl, hq, pr⟩ := hq
      have hp2 := g2.base _ _ hp
      have hb2 := g2.base _ _ hbl
      have hq2 := g2.base _ _ hq
      have hzd := z4 d (List.mem_of_getElem? hd)
      walk_at "r"
      intro p1 hp1
      have hq3 : upd H2 p1 (.lst (d.1.map fun n : Nat => V.int (n : Int))) q = some (.lst rvs) := upd_old hq2 hp1
      walk_at "r"
      intro p2 hp2'
      obtain ⟨hp20, n21⟩ := upd_non hp2'
      refine ⟨szb rfl, fun p3 hp3 => ?_⟩
      obtain ⟨hp31, n32⟩ := upd_non hp3
      obtain ⟨hp30, n31⟩ := upd_non hp31
      refine hk2 _ _ _ ((((Grow.refl g2.gh).new hp1).new hp2').new hp3) ⟨p3, p1, p2, rfl, upd_same, rNats.of (by walk_at "hp"), ⟨p2, rvs, rfl, by walk_at "hp", P2.mono pr fun _ _ h => ?_⟩, g2.hh.free hp1, g2.hh.free hp20⟩
      exact mRow.up (Same.new (Same.new (Same.new g2.gg (g2.gh.free hp1)) (same_upd2 g2.gh |>.free hp2')) (same_upd2 (same_upd2 g2.gh) |>.free hp3)) h
    · intro H1 G acc g gd ed pa
      exact k _ _ _ (g.add hL2 gd ed) ⟨⟨L2, acc, rfl, upd_same, P2.mono pa fun _ _ h => mDemF.up (same_add gd) h⟩, L2, rfl, hL2⟩
end
end K9
end
section
set_option Elab.async false
namespace EV
open PySem PySem.Spec L2 PyProof.Rows
/-- an expression of several ways: they are joined behind it -/
def tCutE (t : TE) : TE := fun σ H Q => ∃ M : V → Hp → Prop, t σ H M ∧ ∀ v H1, M v H1 → Q v H1
theorem peCut {X : Cx} {e : Expr} {t : TE} (h : PE X e t) : PE X e (tCutE t) := by
  refine ⟨fun pins s σ H Q I ⟨M, h1, h2⟩ => thn (h.run pins s σ H M I h1) fun v s1 q => ?_⟩
  obtain ⟨x, H1, I1, e1, q1⟩ := q
  exact ⟨x, H1, I1, e1, h2 x H1 q1⟩
theorem i_cut {t : TE} {σ : L2.St} {H : Hp} {Q : VK} (M : V → Hp → Prop) (h1 : t σ H M) (h2 : ∀ v H1, M v H1 → Q v H1) : tCutE t σ H Q := ⟨M, h1, h2⟩
end EV
end
section
set_option Elab.async false
/-! The chain's problem, in plain Lean. -/
namespace EV
open PySem PySem.Spec L2
def chX : Str := "x"
def chY : Str := "y"
theorem ch_ne : chX ≠ chY := by decide +kernel
def chM (n a : Nat) : List (List Str) := ((List.range n).map fun _ => [chX]).set a [chX, chY]
def chD (n a : Nat) : List Dem := ((List.range (n - 1)).map fun k => (([k, k + 1], [[chX, chX], [chY, chX], [chX, chY]]) : Dem)).set a ([a, a + 1], [[chY, chX]])
def chU (n a : Nat) : List Str := (List.replicate n chX).set a chY
theorem chM_len {n a : Nat} : (chM n a).length = n := by simp [chM]
theorem chD_len {n a : Nat} : (chD n a).length = n - 1 := by simp [chD]
theorem chU_len {n a : Nat} : (chU n a).length = n := by simp [chU]
theorem chM_at {n a i : Nat} (h : i < n) : (chM n a)[i]? = some (if i = a then [chX, chY] else [chX]) := by
  unfold chM
  rw [List.getElem?_set]
  by_cases e : a = i
  · rw [if_pos e, if_pos (by simp; omega), if_pos e.symm]
  · rw [if_neg e, if_neg (Ne.symm e), List.getElem?_map, List.getElem?_range h]
    rfl
theorem chD_at {n a i : Nat} (h : i < n - 1) : (chD n a)[i]? = some (if i = a then ([a, a + 1], [[chY, chX]]) else ([i, i + 1], [[chX, chX], [chY, chX], [chX, chY]])) := by
  unfold chD
  rw [List.getElem?_set]
  by_cases e : a = i
  · rw [if_pos e, if_pos (by simp; omega), if_pos e.symm]
  · rw [if_neg e, if_neg (Ne.symm e), List.getElem?_map, List.getElem?_range h]
    rfl
theorem chU_at {n a i : Nat} (h : i < n) : (chU n a).getD i Str.empty = if i = a then chY else chX := by
  rw [List.getD_eq_getElem?_getD]
  unfold chU
  rw [List.getElem?_set]
  by_cases e : a = i
  · rw [if_pos e, if_pos (by simp; omega), if_pos e.symm]
    rfl
  · rw [if_neg e, if_neg (Ne.symm e), List.getElem?_replicate, if_pos h]
    rfl
theorem chD_mem {n a : Nat} {d : Dem} (h : d ∈ chD n a) : ∃ i, i < n - 1 ∧ d = if i = a then ([a, a + 1], [[chY, chX]]) else ([i, i + 1], [[chX, chX], [chY, chX], [chX, chY]]) := by
  obtain ⟨i, hi, e⟩ := List.mem_iff_getElem.mp h
  rw [chD_len] at hi
  refine ⟨i, hi, ?_⟩
  have h2 := chD_at (a := a) hi
  rw [List.getElem?_eq_getElem (by rw [chD_len]; exact hi), e] at h2
  exact Option.some.inj h2
theorem chD_wf {n a : Nat} (ha : a < n - 1) : WF n (chD n a) := by
  intro d hd p hp
  obtain ⟨i, hi, rfl⟩ := chD_mem hd
  split at hp
  · simp at hp; omega
  · simp at hp; omega
theorem chD_small {n a : Nat} {d : Dem} (h : d ∈ chD n a) : d.1.length ≤ 2 ∧ d.2.length ≤ 3 := by
  obtain ⟨i, hi, rfl⟩ := chD_mem h
  split <;> simp
theorem chD_own {n a : Nat} (ha : a < n - 1) : (([a, a + 1], [[chY, chX]]) : Dem) ∈ chD n a := by
  have h := chD_at (a := a) ha
  rw [if_pos rfl] at h
  exact List.mem_of_getElem? h
/-- the rows of a product -/
theorem prod_mem {ms : List (List Str)} : ∀ (k : Nat) (r : List Str), k ≤ ms.length → r ∈ prodL (ms.take k) → ∀ (i : Nat) (v : Str) (m : List Str), r[i]? = some v → ms[i]? = some m → v ∈ m
  | 0, r, _, h => by
    intro i v m hv
    have : r = [] := by simpa [prodL] using h
    subst this
    cases hv
  | k + 1, r, hk, h => by
    intro i v m hv hm
    have hx : ms[k]? = some ms[k] := List.getElem?_eq_getElem (by omega)
    rw [List.take_add_one, hx, Option.toList_some, prodL_snoc] at h
    unfold ext1 at h
    obtain ⟨r', hr', h2⟩ := List.mem_flatMap.mp h
    obtain ⟨x, hxm, rfl⟩ := List.mem_map.mp h2
    have hl := prodL_len _ _ hr'
    rw [List.length_take, Nat.min_eq_left (by omega)] at hl
    by_cases e : i < k
    · rw [List.getElem?_append_left (by omega)] at hv
      exact prod_mem k r' (by omega) hr' i v m hv hm
    · have hi : i = k := by
        have := (List.getElem?_eq_some_iff.mp hv).1
        rw [List.length_append, hl, List.length_singleton] at this
        omega
      subst hi
      rw [List.getElem?_append_right (by omega), hl, Nat.sub_self] at hv
      rw [hx] at hm
      cases hv
      cases hm
      exact hxm
theorem mem_prod {ms : List (List Str)} {r : List Str} (h : ∀ i : Nat, i < ms.length → ∃ (v : Str) (m : List Str), r[i]? = some v ∧ ms[i]? = some m ∧ v ∈ m) : ∀ k, k ≤ ms.length → r.take k ∈ prodL (ms.take k)
  | 0, _ => by simp [prodL]
  | k + 1, hk => by
    have ih := mem_prod h k (by omega)
    obtain ⟨v, m, hv, hm, hvm⟩ := h k (by omega)
    rw [List.take_add_one (l := r), hv, List.take_add_one (l := ms), hm, Option.toList_some, Option.toList_some, prodL_snoc]
    unfold ext1
    exact List.mem_flatMap.mpr ⟨_, ih, List.mem_map.mpr ⟨v, hvm, rfl⟩⟩
theorem sat_at {ds : List Dem} {c : Row} (h : sat ds c = true) {d : Dem} (hd : d ∈ ds) : rowOf c d.1 ∈ d.2 := of_decide_eq_true (List.all_eq_true.mp h d hd)
theorem sol_mem {ds : List Dem} {ms : List (List Str)} {c : Row} (h : sol ds [] ms = some c) : c ∈ prodL ms ∧ sat ds c = true := by
  rw [← find_prod] at h
  exact ⟨List.mem_of_find?_eq_some h, by simpa using List.find?_some h⟩
theorem ch_none {n a : Nat} (ha : a < n - 1) : sol (chD n a ++ [([a, n - 1], [[chX, chX]])]) [] (chM n a) = none := by
  cases h : sol (chD n a ++ [([a, n - 1], [[chX, chX]])]) [] (chM n a) with
  | none => rfl
  | some c =>
    obtain ⟨_, hs⟩ := sol_mem h
    have h1 := sat_at hs (List.mem_append_left _ (chD_own ha))
    have h2 := sat_at hs (List.mem_append_right _ (List.mem_singleton.mpr rfl))
    have e1 : rowOf c [a, a + 1] = [chY, chX] := by simpa using h1
    have e2 : rowOf c [a, n - 1] = [chX, chX] := by simpa using h2
    unfold rowOf at e1 e2
    rw [List.map_cons] at e1 e2
    injection e1 with e1 _
    injection e2 with e2 _
    exact absurd (e2.symm.trans e1) ch_ne
theorem ch_sat {n a : Nat} (ha : a < n - 1) : sat (chD n a) (chU n a) = true := by
  unfold sat
  rw [List.all_eq_true]
  intro d hd
  obtain ⟨i, hi, rfl⟩ := chD_mem hd
  rw [decide_eq_true_eq]
  by_cases e : i = a
  · rw [if_pos e]
    show [(chU n a).getD a Str.empty, (chU n a).getD (a + 1) Str.empty] ∈ ([[chY, chX]] : List Row)
    rw [chU_at (by omega), chU_at (by omega), if_pos rfl, if_neg (by omega)]
    exact List.mem_singleton.mpr rfl
  · rw [if_neg e]
    show [(chU n a).getD i Str.empty, (chU n a).getD (i + 1) Str.empty] ∈ ([[chX, chX], [chY, chX], [chX, chY]] : List Row)
    rw [chU_at (by omega), chU_at (by omega), if_neg e]
    by_cases e2 : i + 1 = a
    · rw [if_pos e2]; simp
    · rw [if_neg e2]; simp
theorem ch_some {n a : Nat} (ha : a < n - 1) : sol (chD n a) [] (chM n a) = some (chU n a) := by
  have hmem : chU n a ∈ prodL (chM n a) := by
    have := mem_prod (ms := chM n a) (r := chU n a) (fun i hi => by
      rw [chM_len] at hi
      refine ⟨(chU n a).getD i Str.empty, _, ?_, chM_at hi, ?_⟩
      · rw [List.getD_eq_getElem?_getD, List.getElem?_eq_getElem (by rw [chU_len]; exact hi)]
        rfl
      · rw [chU_at hi]
        split <;> simp) (chM n a).length (Nat.le_refl _)
    rw [List.take_length] at this
    rw [show (chU n a).take (chM n a).length = chU n a by rw [chM_len]; exact List.take_of_length_le (by rw [chU_len]; exact Nat.le_refl _)] at this
    exact this
  cases h : sol (chD n a) [] (chM n a) with
  | none =>
    rw [← find_prod] at h
    have := List.find?_eq_none.mp h _ hmem
    rw [ch_sat ha] at this
    exact absurd rfl this
  | some c =>
    obtain ⟨hc, hs⟩ := sol_mem h
    have hl := prodL_len _ _ hc
    rw [chM_len] at hl
    have h1 := sat_at hs (chD_own ha)
    have e1 : rowOf c [a, a + 1] = [chY, chX] := by simpa using h1
    unfold rowOf at e1
    rw [List.map_cons] at e1
    injection e1 with e1 _
    have : c = chU n a := by
      apply List.ext_getElem?
      intro i
      by_cases hi : i < n
      · have hci : c[i]? = some c[i] := List.getElem?_eq_getElem (by omega)
        have h3 := prod_mem (ms := chM n a) (chM n a).length c (Nat.le_refl _) (by rw [List.take_length]; exact hc) i _ _ hci (chM_at hi)
        have hui : (chU n a)[i]? = some ((chU n a).getD i Str.empty) := by
          rw [List.getD_eq_getElem?_getD, List.getElem?_eq_getElem (by rw [chU_len]; exact hi)]
          rfl
        rw [hui, chU_at hi, hci]
        by_cases e : i = a
        · subst e
          rw [if_pos rfl]
          rw [List.getD_eq_getElem?_getD, hci] at e1
          exact congrArg some e1
        · rw [if_neg e] at h3 ⊢
          exact congrArg some (List.mem_singleton.mp h3)
      · rw [List.getElem?_eq_none (by omega), List.getElem?_eq_none (by rw [chU_len]; omega)]
    rw [this]
theorem ch_fN : ∀ (n a : Nat), fN (chM n a) ≤ 2 * n + 1
  | 0, a => by simp [chM, fN]
  | n + 1, 0 => by
    have e : chM (n + 1) 0 = [chX, chY] :: (List.range n).map fun _ => [chX] := by
      unfold chM
      rw [List.range_succ_eq_map, List.map_cons, List.set_cons_zero, List.map_map]
      rfl
    have g : ∀ k, fN ((List.range k).map fun _ => [chX]) = k + 1 := by
      intro k
      induction k with
      | zero => rfl
      | succ k ih =>
        rw [List.range_succ_eq_map, List.map_cons, List.map_map]
        show 1 + 1 * fN ((List.range k).map fun _ => [chX]) = _
        rw [ih]
        omega
    rw [e]
    show 1 + 2 * fN ((List.range n).map fun _ => [chX]) ≤ _
    rw [g]
    omega
  | n + 1, a + 1 => by
    have ih := ch_fN n a
    have e : chM (n + 1) (a + 1) = [chX] :: chM n a := by
      unfold chM
      rw [List.range_succ_eq_map, List.map_cons, List.set_cons_succ, List.map_map]
      rfl
    rw [e]
    show 1 + 1 * fN (chM n a) ≤ _
    omega
end EV
end
section
set_option Elab.async false
/-! Trees of any numbers, judged: the plain law, without a program. -/
namespace EV
open PySem L2
inductive Tz where
  | leaf (k : Int)
  | knot (d : Int) (brs : List (Str × Tz))
mutual
def Tz.nn : Tz → Nat
  | .leaf _ => 1
  | .knot _ brs => 1 + nnB brs
def nnB : List (Str × Tz) → Nat
  | [] => 0
  | x :: r => nnX x + nnB r
def nnX : Str × Tz → Nat
  | (_, t) => t.nn
end
theorem nnX_eq (x : Str × Tz) : nnX x = x.2.nn := by obtain ⟨a, t⟩ := x; rw [nnX]
theorem nnB_cons (x : Str × Tz) (r : List (Str × Tz)) : nnB (x :: r) = x.2.nn + nnB r := by rw [nnB, nnX_eq]
theorem nn_knot (d : Int) (brs : List (Str × Tz)) : (Tz.knot d brs).nn = 1 + nnB brs := by rw [Tz.nn]
theorem nn_leaf (k : Int) : (Tz.leaf k).nn = 1 := by rw [Tz.nn]
theorem nn_pos (t : Tz) : 0 < t.nn := by cases t with | leaf k => rw [nn_leaf]; decide | knot d b => rw [nn_knot]; omega
theorem nnB_nil : nnB [] = 0 := by rw [nnB]
theorem nnB_app (a b : List (Str × Tz)) : nnB (a ++ b) = nnB a + nnB b := by
  induction a with
  | nil => rw [List.nil_append, nnB_nil, Nat.zero_add]
  | cons x r ih => rw [List.cons_append, nnB_cons, nnB_cons, ih]; omega
theorem nnB_take (b : List (Str × Tz)) (n : Nat) : nnB (b.take n) ≤ nnB b := by
  have := nnB_app (b.take n) (b.drop n)
  rw [List.take_append_drop] at this
  omega
theorem nnB_drop (b : List (Str × Tz)) (n : Nat) : nnB (b.drop n) ≤ nnB b := by
  have := nnB_app (b.take n) (b.drop n)
  rw [List.take_append_drop] at this
  omega
theorem nnB_mem {b : List (Str × Tz)} {x : Str × Tz} (h : x ∈ b) : x.2.nn ≤ nnB b := by
  induction b with
  | nil => cases h
  | cons y r ih =>
    rw [nnB_cons]
    rcases List.mem_cons.mp h with rfl | h
    · omega
    · have := ih h; omega
theorem nnB_len (b : List (Str × Tz)) : b.length ≤ nnB b := by
  induction b with
  | nil => rw [nnB_nil]; exact Nat.le_refl _
  | cons x r ih => rw [nnB_cons, List.length_cons]; have := nn_pos x.2; omega
theorem nnB_set {b : List (Str × Tz)} : ∀ {k : Nat} {x y : Str × Tz}, b[k]? = some x → nnB (b.set k y) + x.2.nn = nnB b + y.2.nn := by
  induction b with
  | nil => intro k x y h; cases h
  | cons z r ih =>
    intro k x y h
    cases k with
    | zero => cases h; rw [List.set_cons_zero, nnB_cons, nnB_cons]; omega
    | succ k => rw [List.set_cons_succ, nnB_cons, nnB_cons]; have := ih (y := y) h; omega
abbrev Tl := List (Int × Str)
theorem lk_snoc (told : Tl) (d : Int) (x : Str) (k : Int) : (told ++ [(d, x)]).lookup k = match told.lookup k with | some y => some y | none => if k = d then some x else none := by
  induction told with
  | nil =>
    show (match k == d with | true => some x | false => none) = if k = d then some x else none
    by_cases h : k = d
    · subst h
      rw [if_pos rfl, beq_self_eq_true]
    · rw [if_neg h, beq_false_of_ne h]
  | cons p r ih =>
    obtain ⟨a, y⟩ := p
    show (match k == a with | true => some y | false => (r ++ [(d, x)]).lookup k) = match (match k == a with | true => some y | false => r.lookup k) with | some y => some y | none => if k = d then some x else none
    cases k == a with
    | true => rfl
    | false => exact ih
def rowT (told : Tl) (ps : List Nat) : Row := ps.map fun p : Nat => (told.lookup (p : Int)).getD Str.empty
def allT (told : Tl) (ps : List Nat) : Bool := ps.all fun p : Nat => (told.lookup (p : Int)).isSome
def lfB (ds : List Dem) (told : Tl) (k : Int) : Bool := if 0 ≤ k then (match ds[k.toNat]? with | none => true | some d => !(allT told d.1) || decide (rowT told d.1 ∈ d.2)) else true
def knB (ms : List (List Str)) (told : Tl) (d : Int) : Bool := decide (d < 0) || decide ((ms.length : Int) ≤ d) || (told.lookup d).isSome
def wLeaf : Str := "leaf"
def wKnot : Str := "knot"
def wValue : Str := "value"
def flt (ds : List Dem) (ms : List (List Str)) (told : Tl) : Tz → Option Str
  | .leaf k => if lfB ds told k then some wLeaf else none
  | .knot d brs => if knB ms told d then some wKnot else if brs.map (·.1) = ms.getD d.toNat [] then none else some wValue
theorem flt_leaf (ds : List Dem) (ms : List (List Str)) (told : Tl) (k : Int) : flt ds ms told (.leaf k) = if lfB ds told k then some wLeaf else none := rfl
theorem flt_knot (ds : List Dem) (ms : List (List Str)) (told : Tl) (d : Int) (brs : List (Str × Tz)) : flt ds ms told (.knot d brs) = if knB ms told d then some wKnot else if brs.map (·.1) = ms.getD d.toNat [] then none else some wValue := rfl
def kids (told : Tl) : Tz → List (Tz × Tl)
  | .leaf _ => []
  | .knot d brs => brs.map fun x => (x.2, told ++ [(d, x.1)])
def tot (S : List (Tz × Tl)) : Nat := (S.map fun p => p.1.nn).sum
theorem tot_app (a b : List (Tz × Tl)) : tot (a ++ b) = tot a + tot b := by unfold tot; rw [List.map_append, List.sum_append]
theorem tot_rev (a : List (Tz × Tl)) : tot a.reverse = tot a := by unfold tot; rw [List.map_reverse, List.sum_reverse]
theorem tot_one (p : Tz × Tl) : tot [p] = p.1.nn := by unfold tot; simp
theorem tot_len (S : List (Tz × Tl)) : S.length ≤ tot S := by
  induction S with
  | nil => exact Nat.le_refl _
  | cons p r ih =>
    have e : tot (p :: r) = p.1.nn + tot r := by unfold tot; rw [List.map_cons, List.sum_cons]
    have := nn_pos p.1
    rw [e, List.length_cons]
    omega
theorem tot_brs (told : Tl) (d : Int) (brs : List (Str × Tz)) : tot (brs.map fun x => (x.2, told ++ [(d, x.1)])) = nnB brs := by
  induction brs with
  | nil => rw [nnB_nil]; rfl
  | cons x r ih =>
    rw [nnB_cons, ← ih]
    unfold tot
    rw [List.map_cons, List.map_cons, List.sum_cons]
theorem tot_kids (told : Tl) (t : Tz) : tot (kids told t) + 1 = t.nn := by
  cases t with
  | leaf k => rw [nn_leaf]; rfl
  | knot d brs =>
    rw [nn_knot]
    show tot (brs.map fun x => (x.2, told ++ [(d, x.1)])) + 1 = _
    rw [tot_brs]
    omega
section
variable (ds : List Dem) (ms : List (List Str))
def run : Nat → List (Tz × Tl) → Option Str
  | 0, _ => none
  | n + 1, S => match S.getLast? with
    | none => none
    | some p => match flt ds ms p.2 p.1 with
      | some w => some w
      | none => run n (S.dropLast ++ (kids p.2 p.1).reverse)
def res (S : List (Tz × Tl)) : Option Str := run ds ms (tot S) S
theorem res_nil : res ds ms [] = none := rfl
theorem tot_step (S : List (Tz × Tl)) (p : Tz × Tl) : tot (S ++ [p]) = tot (S ++ (kids p.2 p.1).reverse) + 1 := by
  rw [tot_app, tot_app, tot_rev, tot_one, ← tot_kids p.2 p.1]
  omega
theorem res_snoc (S : List (Tz × Tl)) (p : Tz × Tl) : res ds ms (S ++ [p]) = match flt ds ms p.2 p.1 with
    | some w => some w
    | none => res ds ms (S ++ (kids p.2 p.1).reverse) := by
  unfold res
  rw [tot_step, run, List.getLast?_append, List.dropLast_concat]
  rfl
inductive Good : Tl → Tz → Prop
  | leaf {told : Tl} {k : Int} : lfB ds told k = false → Good told (.leaf k)
  | knot {told : Tl} {d : Int} {brs : List (Str × Tz)} : knB ms told d = false → brs.map (·.1) = ms.getD d.toNat [] → (∀ x ∈ brs, Good (told ++ [(d, x.1)]) x.2) → Good told (.knot d brs)
end
section
variable {ds : List Dem} {ms : List (List Str)}
theorem Good.flt {told : Tl} {t : Tz} (h : Good ds ms told t) : flt ds ms told t = none := by
  cases h with
  | leaf h => rw [flt_leaf, h]; rfl
  | knot h1 h2 _ => rw [flt_knot, h1, if_neg (by decide), if_pos h2]
theorem Good.kids {told : Tl} {t : Tz} (h : Good ds ms told t) : ∀ y ∈ kids told t, Good ds ms y.2 y.1 := by
  cases h with
  | leaf _ => intro y hy; cases hy
  | knot h1 h2 h3 =>
    intro y hy
    obtain ⟨x, hx, rfl⟩ := List.mem_map.mp hy
    exact h3 x hx
theorem Good.of {told : Tl} {t : Tz} (h1 : EV.flt ds ms told t = none) (h2 : ∀ y ∈ EV.kids told t, Good ds ms y.2 y.1) : Good ds ms told t := by
  cases t with
  | leaf k =>
    rw [flt_leaf] at h1
    cases e : lfB ds told k with
    | false => exact .leaf e
    | true => rw [e] at h1; cases h1
  | knot d brs =>
    rw [flt_knot] at h1
    cases e : knB ms told d with
    | true => rw [e] at h1; cases h1
    | false =>
      rw [e, if_neg (by decide)] at h1
      by_cases e2 : brs.map (·.1) = ms.getD d.toNat []
      · exact .knot e e2 fun x hx => h2 (x.2, told ++ [(d, x.1)]) (List.mem_map.mpr ⟨x, hx, rfl⟩)
      · rw [if_neg e2] at h1; cases h1
theorem snoc_of {α : Type} (S : List α) : S = [] ∨ ∃ S' p, S = S' ++ [p] := by
  by_cases h : S = []
  · exact .inl h
  · exact .inr ⟨S.dropLast, S.getLast h, (List.dropLast_concat_getLast h).symm⟩
theorem res_good : ∀ (n : Nat) (S : List (Tz × Tl)), tot S = n → (res ds ms S = none ↔ ∀ p ∈ S, Good ds ms p.2 p.1) := by
  intro n
  induction n using Nat.strongRecOn with
  | _ n ih =>
    intro S hS
    rcases snoc_of S with rfl | ⟨S', p, rfl⟩
    · exact ⟨fun _ p hp => (nomatch hp), fun _ => rfl⟩
    · have hs := tot_step S' p
      have ih' := ih (tot (S' ++ (kids p.2 p.1).reverse)) (by omega) _ rfl
      rw [res_snoc]
      constructor
      · intro h
        cases e : flt ds ms p.2 p.1 with
        | some w => rw [e] at h; cases h
        | none =>
          rw [e] at h
          have g := ih'.mp h
          intro q hq
          rcases List.mem_append.mp hq with hq | hq
          · exact g q (List.mem_append_left _ hq)
          · rw [List.mem_singleton] at hq
            subst hq
            exact Good.of e fun y hy => g y (List.mem_append_right _ (List.mem_reverse.mpr hy))
      · intro h
        have hp := h p (by simp)
        rw [hp.flt]
        refine ih'.mpr fun q hq => ?_
        rcases List.mem_append.mp hq with hq | hq
        · exact h q (List.mem_append_left _ hq)
        · exact hp.kids q (List.mem_reverse.mp hq)
theorem res_one {t : Tz} : res ds ms [(t, [])] = none ↔ Good ds ms [] t := by
  rw [res_good _ _ rfl]
  exact ⟨fun h => h (t, []) (by simp), fun h p hp => by rw [List.mem_singleton] at hp; subst hp; exact h⟩
/-- what is told goes with the choice c -/
def Fits (told : Tl) (c : Row) : Prop := ∀ (k : Int) (x : Str), told.lookup k = some x → 0 ≤ k ∧ c[k.toNat]? = some x
theorem rowT_eq {told : Tl} {c : Row} {ps : List Nat} (h : Fits told c) (ha : allT told ps = true) : rowT told ps = rowOf c ps := by
  unfold rowT rowOf
  refine List.map_congr_left fun p hp => ?_
  have h1 := List.all_eq_true.mp ha p hp
  obtain ⟨x, hx⟩ := Option.isSome_iff_exists.mp h1
  have h2 := (h _ _ hx).2
  rw [Int.toNat_natCast] at h2
  rw [hx, List.getD_eq_getElem?_getD, h2]
theorem Good.unsat {told : Tl} {t : Tz} (h : Good ds ms told t) : ∀ c : Row, (∀ (i : Nat) (m : List Str), ms[i]? = some m → ∃ v, c[i]? = some v ∧ v ∈ m) → Fits told c → sat ds c = false := by
  induction h with
  | @leaf told k h =>
    intro c _ hf
    unfold lfB at h
    by_cases hk : 0 ≤ k
    · rw [if_pos hk] at h
      cases e : ds[k.toNat]? with
      | none => rw [e] at h; cases h
      | some d =>
        rw [e] at h
        simp only [Bool.or_eq_false_iff, Bool.not_eq_false', decide_eq_false_iff_not] at h
        unfold sat
        rw [List.all_eq_false]
        refine ⟨d, List.mem_of_getElem? e, ?_⟩
        rw [← rowT_eq hf h.1]
        simpa using h.2
    · rw [if_neg hk] at h; cases h
  | @knot told d brs h1 h2 _ ih =>
    intro c hc hf
    unfold knB at h1
    simp only [Bool.or_eq_false_iff, decide_eq_false_iff_not] at h1
    obtain ⟨⟨ha, hb⟩, hn⟩ := h1
    have hlt : d.toNat < ms.length := by omega
    have hm : ms[d.toNat]? = some (ms.getD d.toNat []) := by rw [List.getD_eq_getElem?_getD, List.getElem?_eq_getElem hlt]; rfl
    obtain ⟨v, hv, hvm⟩ := hc _ _ hm
    rw [← h2] at hvm
    obtain ⟨x, hx, rfl⟩ := List.mem_map.mp hvm
    refine ih x hx c hc fun k y hy => ?_
    rw [lk_snoc] at hy
    cases e : told.lookup k with
    | some z =>
      rw [e] at hy
      cases hy
      exact hf k _ e
    | none =>
      rw [e] at hy
      by_cases hkd : k = d
      · subst hkd
        simp only [if_true] at hy
        cases hy
        exact ⟨by omega, hv⟩
      · simp only [if_neg hkd] at hy
        cases hy
theorem Good.none {t : Tz} (h : Good ds ms [] t) : sol ds [] ms = none := by
  cases e : sol ds [] ms with
  | none => rfl
  | some c =>
    obtain ⟨hc, hs⟩ := sol_mem e
    have h1 := h.unsat c (fun i m hm => ?_) (fun k x hk => by cases hk)
    · rw [hs] at h1; cases h1
    · have hl := prodL_len _ _ hc
      have hi := (List.getElem?_eq_some_iff.mp hm).1
      have hv : c[i]? = some c[i] := List.getElem?_eq_getElem (by omega)
      exact ⟨_, hv, prod_mem ms.length c (Nat.le_refl _) (by rw [List.take_length]; exact hc) i _ m hv hm⟩
end
/-! ### the trees of the search -/
mutual
def Tr.z : Tr → Tz
  | .leaf k => .leaf k
  | .knot d brs => .knot d (zB brs)
def zB : List (Str × Tr) → List (Str × Tz)
  | [] => []
  | x :: r => zX x :: zB r
def zX : Str × Tr → Str × Tz
  | (a, t) => (a, t.z)
end
theorem zB_eq : ∀ brs : List (Str × Tr), zB brs = brs.map fun x => (x.1, x.2.z)
  | [] => by rw [zB]; rfl
  | (a, t) :: r => by rw [zB, zX, zB_eq r]; rfl
theorem z_leaf (k : Nat) : (Tr.leaf k).z = .leaf k := by rw [Tr.z]
theorem z_knot (d : Nat) (brs : List (Str × Tr)) : (Tr.knot d brs).z = .knot d (brs.map fun x => (x.1, x.2.z)) := by rw [Tr.z, zB_eq]
def tz (told : List Str) : Tl := told.zipIdx.map fun x : Str × Nat => ((x.2 : Int), x.1)
theorem tz_snoc (told : List Str) (v : Str) : tz (told ++ [v]) = tz told ++ [((told.length : Int), v)] := by
  unfold tz
  rw [List.zipIdx_append, List.map_append]
  simp
theorem lk_zip : ∀ (told : List Str) (n p : Nat), ((told.zipIdx n).map fun x : Str × Nat => ((x.2 : Int), x.1)).lookup (p : Int) = if n ≤ p then told[p - n]? else none
  | [], n, p => by
    have : ∀ (o : Option Str), (if n ≤ p then o else none) = if n ≤ p then o else none := fun _ => rfl
    split <;> rfl
  | a :: r, n, p => by
    rw [List.zipIdx_cons, List.map_cons]
    show (match (p : Int) == (n : Int) with | true => some a | false => ((r.zipIdx (n + 1)).map fun x : Str × Nat => ((x.2 : Int), x.1)).lookup (p : Int)) = _
    rw [lk_zip r (n + 1) p]
    by_cases h : p = n
    · subst h
      rw [beq_self_eq_true, if_pos (Nat.le_refl _), Nat.sub_self]
      rfl
    · rw [beq_false_of_ne (by omega)]
      show (if n + 1 ≤ p then r[p - (n + 1)]? else none) = _
      by_cases h2 : n ≤ p
      · rw [if_pos (by omega), if_pos h2, show p - n = (p - (n + 1)) + 1 by omega, List.getElem?_cons_succ]
      · rw [if_neg (by omega), if_neg h2]
theorem lk_tz (told : List Str) (p : Nat) : (tz told).lookup (p : Int) = told[p]? := by
  unfold tz
  have := lk_zip told 0 p
  rw [if_pos (Nat.zero_le _), Nat.sub_zero] at this
  exact this
theorem Closed.good {ds : List Dem} {ms : List (List Str)} {told : List Str} {t : Tr} (h : Closed ds ms told t) : Good ds ms (tz told) t.z ∧ t.z.nn ≤ fN (ms.drop told.length) := by
  induction h with
  | @leaf told k h =>
    rw [z_leaf]
    refine ⟨.leaf ?_, by rw [nn_leaf]; exact fN_pos _⟩
    obtain ⟨d, hd, hh⟩ := brk_some h
    obtain ⟨h1, h2⟩ := hit_spec hh
    unfold lfB
    rw [if_pos (by omega), Int.toNat_natCast, hd]
    have ha : allT (tz told) d.1 = true := by
      unfold allT
      rw [List.all_eq_true]
      intro p hp
      rw [lk_tz, List.getElem?_eq_getElem (h1 p hp)]
      rfl
    have hr : rowT (tz told) d.1 = rowOf told d.1 := by
      unfold rowT rowOf
      refine List.map_congr_left fun p hp => ?_
      rw [lk_tz, List.getD_eq_getElem?_getD]
    show (!allT (tz told) d.1 || decide (rowT (tz told) d.1 ∈ d.2)) = false
    rw [ha, hr]
    simpa using h2
  | @knot told m brs h1 h2 h3 h4 ih =>
    have hlt := (List.getElem?_eq_some_iff.mp h2).1
    rw [z_knot]
    refine ⟨.knot ?_ ?_ ?_, ?_⟩
    · unfold knB
      rw [lk_tz, List.getElem?_eq_none (Nat.le_refl _)]
      simp
      omega
    · rw [List.map_map, Int.toNat_natCast, List.getD_eq_getElem?_getD, h2, ← h3]
      rfl
    · intro x hx
      obtain ⟨y, hy, rfl⟩ := List.mem_map.mp hx
      have := (ih y hy).1
      rw [tz_snoc] at this
      exact this
    · rw [nn_knot, drop_at h2, fN, ← h3, List.length_map]
      have g : ∀ l : List (Str × Tr), (∀ x ∈ l, x ∈ brs) → nnB (l.map fun x => (x.1, x.2.z)) ≤ l.length * fN (ms.drop (told.length + 1)) := by
        intro l
        induction l with
        | nil => intro _; rw [List.map_nil, nnB_nil]; exact Nat.zero_le _
        | cons a r ihr =>
          intro hl
          rw [List.map_cons, nnB_cons, List.length_cons, Nat.succ_mul]
          have h5 := (ih a (hl a List.mem_cons_self)).2
          rw [List.length_append] at h5
          have h6 := ihr fun x hx => hl x (List.mem_cons_of_mem _ hx)
          have h7 : ((a.1, a.2.z) : Str × Tz).2.nn ≤ fN (ms.drop (told.length + 1)) := h5
          omega
      have := g brs fun _ h => h
      omega
/-! ### ways -/
inductive At : Tz → List Nat → Tz → Prop
  | nil {t : Tz} : At t [] t
  | cons {d : Int} {brs : List (Str × Tz)} {k : Nat} {x : Str × Tz} {w : List Nat} {p : Tz} : brs[k]? = some x → At x.2 w p → At (.knot d brs) (k :: w) p
theorem At.snoc {t : Tz} {w : List Nat} {d : Int} {brs : List (Str × Tz)} (h : At t w (.knot d brs)) {k : Nat} {x : Str × Tz} (hx : brs[k]? = some x) : At t (w ++ [k]) x.2 := by
  generalize e : Tz.knot d brs = p at h
  induction h with
  | nil => subst e; exact .cons hx .nil
  | cons h1 _ ih => exact .cons h1 (ih e)
theorem At.le {t p : Tz} {w : List Nat} (h : At t w p) : p.nn + w.length ≤ t.nn := by
  induction h with
  | nil => exact Nat.le_refl _
  | @cons d brs k x w p h1 _ ih =>
    have := nnB_mem (List.mem_of_getElem? h1)
    rw [nn_knot, List.length_cons]
    omega
/-- all ways, the shorter ones first -/
def kidsW (w : List Nat) : Tz → List (List Nat × Tz)
  | .leaf _ => []
  | .knot _ brs => brs.zipIdx.map fun x => (w ++ [x.2], x.1.2)
def ways : Nat → List (List Nat × Tz) → Nat → List (List Nat × Tz)
  | 0, found, _ => found
  | n + 1, found, i => match found[i]? with
    | none => found
    | some p => ways n (found ++ kidsW p.1 p.2) (i + 1)
end EV
end
section
set_option Elab.async false
/-! Trees of any numbers in the heap. -/
namespace EV
open PySem PySem.Spec L2
inductive rTz (H : Hp) : V → Tz → Prop
  | leaf {p : Addr} {k : Int} : H p = some (.tup [.str "leaf", .int k]) → rTz H (.ref p) (.leaf k)
  | knot {p q : Addr} {d : Int} {brs : List (Str × Tz)} {vs : List V} (as : Nat → Addr) (ws : Nat → V) : H p = some (.tup [.str "knot", .int d, .ref q]) → H q = some (.lst vs) → vs.length = brs.length →
      (∀ i x, brs[i]? = some x → vs[i]? = some (.ref (as i)) ∧ H (as i) = some (.tup [.str x.1, ws i])) → (∀ i x, brs[i]? = some x → rTz H (ws i) x.2) → rTz H (.ref p) (.knot d brs)
theorem mTz : Mono rTz := by
  intro H H' v t e h
  induction h with
  | leaf h => exact .leaf (e _ _ h)
  | knot as ws h1 h2 h3 h4 _ ih => exact .knot as ws (e _ _ h1) (e _ _ h2) h3 (fun i x hx => ⟨(h4 i x hx).1, e _ _ (h4 i x hx).2⟩) ih
/-- a branch: a value and a tree -/
def rBz : Rep (Str × Tz) := fun G v x => ∃ a w, v = .ref a ∧ G a = some (.tup [.str x.1, w]) ∧ rTz G w x.2
theorem mBz : Mono rBz := fun _ _ _ _ e ⟨a, w, h1, h2, h3⟩ => ⟨a, w, h1, e _ _ h2, mTz.up e h3⟩
theorem rTz.mk {G : Hp} {p q : Addr} {d : Int} {brs : List (Str × Tz)} {vs : List V} (h1 : G p = some (.tup [.str "knot", .int d, .ref q])) (h2 : G q = some (.lst vs)) (h : Paired (rBz G) vs brs) : rTz G (.ref p) (.knot d brs) := by
  have h3 := P2.len h
  have key : ∀ i : Nat, ∃ a w, ∀ x, brs[i]? = some x → vs[i]? = some (V.ref a) ∧ G a = some (.tup [.str x.1, w]) ∧ rTz G w x.2 := by
    intro i
    cases e : brs[i]? with
    | none => exact ⟨0, .non, fun x hx => nomatch hx⟩
    | some x =>
      obtain ⟨v, hv, a, w, rfl, ha, hw⟩ := P2.at h e
      exact ⟨a, w, fun x' hx' => by cases hx'; exact ⟨hv, ha, hw⟩⟩
  refine .knot (fun i => (key i).choose) (fun i => (key i).choose_spec.choose) h1 h2 h3 (fun i x hx => ?_) fun i x hx => ?_
  · have := (key i).choose_spec.choose_spec x hx
    exact ⟨this.1, this.2.1⟩
  · exact ((key i).choose_spec.choose_spec x hx).2.2
theorem rTz.knot_at {G : Hp} {v : V} {d : Int} {brs : List (Str × Tz)} (h : rTz G v (.knot d brs)) : ∃ p q vs, v = .ref p ∧ G p = some (.tup [.str "knot", .int d, .ref q]) ∧ G q = some (.lst vs) ∧ Paired (rBz G) vs brs := by
  cases h with
  | @knot p q _ _ vs as ws h1 h2 h3 h4 h5 =>
    refine ⟨p, q, vs, rfl, h1, h2, ?_⟩
    have gen : ∀ (brs : List (Str × Tz)) (vs : List V) (as : Nat → Addr) (ws : Nat → V), vs.length = brs.length → (∀ i x, brs[i]? = some x → vs[i]? = some (.ref (as i)) ∧ G (as i) = some (.tup [.str x.1, ws i])) → (∀ i x, brs[i]? = some x → rTz G (ws i) x.2) → Paired (rBz G) vs brs := by
      intro brs
      induction brs with
      | nil => intro vs as ws hl _ _; cases vs with | nil => exact .nil | cons => cases hl
      | cons x r ih =>
        intro vs as ws hl h4 h5
        cases vs with
        | nil => cases hl
        | cons v t =>
          have e := h4 0 x rfl
          have e1 : v = .ref (as 0) := by simpa using e.1
          refine .cons ⟨as 0, ws 0, e1, e.2, h5 0 x rfl⟩ (ih t (fun i => as (i + 1)) (fun i => ws (i + 1)) (by simpa using hl) (fun i y hy => ?_) fun i y hy => h5 (i + 1) y hy)
          have := h4 (i + 1) y hy
          simpa using this
    exact gen brs vs as ws h3 h4 h5
theorem rTz.leaf_at {G : Hp} {v : V} {k : Int} (h : rTz G v (.leaf k)) : ∃ p, v = .ref p ∧ G p = some (.tup [.str "leaf", .int k]) := by
  cases h with
  | @leaf p _ h => exact ⟨p, rfl, h⟩
/-- a tree of the search is one -/
theorem rTr.z {G : Hp} {v : V} {t : Tr} (h : rTr G v t) : rTz G v t.z := by
  induction h with
  | leaf h => rw [z_leaf]; exact .leaf h
  | @knot p q d brs vs as ws h1 h2 h3 h4 _ ih =>
    rw [z_knot]
    refine .knot as ws h1 h2 (by rw [List.length_map]; exact h3) (fun i x hx => ?_) fun i x hx => ?_
    · rw [List.getElem?_map] at hx
      obtain ⟨y, hy, rfl⟩ := Option.map_eq_some_iff.mp hx
      exact h4 i y hy
    · rw [List.getElem?_map] at hx
      obtain ⟨y, hy, rfl⟩ := Option.map_eq_some_iff.mp hx
      exact ih i y hy
/-- what was told, as a dict -/
def rTl : Rep Tl := fun G v told => ∃ p kvs, v = .ref p ∧ G p = some (.dK kvs) ∧ kvs.length ≤ told.length ∧ ∀ k : Int, valV kvs (.inl k) = (told.lookup k).map V.str
theorem mTl : Mono rTl := fun _ _ _ _ e ⟨p, kvs, h1, h2, h3⟩ => ⟨p, kvs, h1, e _ _ h2, h3⟩
theorem rTl.get {G : Hp} {p : Addr} {told : Tl} {k : Int} (h : rTl G (.ref p) told) : DGet G p (.int k) ((told.lookup k).map V.str) := by
  obtain ⟨p', kvs, e, hp, _, hk⟩ := h
  cases e
  rw [← hk k]
  exact DGet.k (k := .inl k) hp
theorem putK_len (kvs : List (Key × V)) (k : Key) (v : V) : (putK kvs k v).length ≤ kvs.length + 1 := by
  unfold putK
  split
  · rw [List.length_map]; omega
  · rw [List.length_append]; exact Nat.le_refl _
theorem rTl.put {G : Hp} {p : Addr} {kvs : List (Key × V)} {told : Tl} {d : Int} {x : Str} (hp : G p = some (.dK (putK kvs (.inl d) (.str x)))) (hl : kvs.length ≤ told.length) (hk : ∀ k : Int, valV kvs (.inl k) = (told.lookup k).map V.str) (hn : told.lookup d = none) : rTl G (.ref p) (told ++ [(d, x)]) := by
  refine ⟨p, _, rfl, hp, Nat.le_trans (putK_len _ _ _) (by rw [List.length_append]; show _ + 1 ≤ _ + 1; omega), fun k => ?_⟩
  rw [valV_put, lk_snoc]
  by_cases e : k = d
  · subst e
    rw [if_pos rfl, hn]
    show _ = Option.map V.str (if k = k then some x else none)
    rw [if_pos rfl]
    all_goals rfl
  · rw [if_neg (by intro h; injection h with h; exact e h), hk k]
    cases told.lookup k with
    | some y => rfl
    | none =>
      show _ = Option.map V.str (if k = d then some x else none)
      rw [if_neg e]
      all_goals rfl
end EV
end
section
set_option Elab.async false
set_option maxRecDepth 100000
set_option maxHeartbeats 8000000
namespace K9
open PySem PySem.Spec L2 EV
def optW : Option Str → V
  | none => .non
  | some w => .str w
local macro_rules | `(tactic| walk_at "hp") => `(tactic| first | assumption | exact upd_same | (refine upd_old ?_ (by assumption); walk_at "hp") | (refine upd_oth (by first | assumption | (apply Ne.symm; assumption)) ?_; walk_at "hp"))
local macro_rules | `(tactic| walk_at "kb") => `(tactic| first | exact kb_NoneType_bool | exact kb_NoneType_int | exact kb_NoneType_str | exact kb_NoneType_dict | exact kb_NoneType_list | exact kb_NoneType_tuple | exact kb_bool_bool | exact kb_bool_int | exact kb_bool_str | exact kb_bool_dict | exact kb_bool_list | exact kb_bool_tuple | exact kb_int_bool | exact kb_int_int | exact kb_int_str | exact kb_int_dict | exact kb_int_list | exact kb_int_tuple | exact kb_str_bool | exact kb_str_int | exact kb_str_str | exact kb_str_dict | exact kb_str_list | exact kb_str_tuple | exact kb_list_bool | exact kb_list_int | exact kb_list_str | exact kb_list_dict | exact kb_list_list | exact kb_list_tuple | exact kb_tuple_bool | exact kb_tuple_int | exact kb_tuple_str | exact kb_tuple_dict | exact kb_tuple_list | exact kb_tuple_tuple)
local macro_rules | `(tactic| walk_at "ty") => `(tactic| first | exact tx_int | exact tx_str | exact tx_non | exact tx_bl | exact tx_lst (by walk_at "hp") | exact tx_tup (by walk_at "hp"))
local macro_rules | `(tactic| walk_at "r1") => `(tactic| first
  | ((with_reducible refine' i_var ?e1 ?_); (case e1 => rfl)) | with_reducible refine i_seq ?_ | with_reducible refine i_c ?_ | with_reducible refine i_op ?_ | with_reducible refine i_I0 ?_
  | with_reducible refine i_asg ?_ | with_reducible refine i_gname ?_ | with_reducible refine i_nil ?_ | with_reducible refine i_cons ?_ | with_reducible refine i_cb ?_ | with_reducible refine i_call ?_
  | with_reducible refine i_test ?_ | with_reducible refine i_tB ?_ | with_reducible refine i_bl ?_ | with_reducible refine i_int ?_ | with_reducible refine i_if ?_ | with_reducible refine i_ifx ?_
  | with_reducible refine i_ret ?_ | with_reducible refine i_retN ?_ | with_reducible refine i_drop ?_ | with_reducible refine i_next ?_ | with_reducible refine i_break ?_ | with_reducible refine i_cont ?_
  | with_reducible refine i_par ?_ | with_reducible refine i_par1 ?_ | with_reducible refine i_and ?_ | with_reducible refine i_or ?_ | with_reducible refine i_not ?_ | with_reducible refine i_truth ?_
  | with_reducible refine i_andV ?_ | with_reducible refine i_orV ?_ | with_reducible refine i_tup ?_ | with_reducible refine i_lst ?_ | with_reducible refine i_un ?_ | with_reducible refine i_U ?_
  | with_reducible refine i_bm ?_ | with_reducible refine i_bm0 ?_ | with_reducible refine i_sl ?_ | with_reducible refine i_nopart ?_ | with_reducible refine i_part ?_ | with_reducible refine i_fld ?_
  | with_reducible refine i_gsub ?_ | with_reducible refine i_gcons ?_ | with_reducible refine i_gnil ?_
  | ((with_reducible refine' i_eq ?e1 ?_); (case e1 => rfl)) | ((with_reducible refine' i_ne ?e1 ?_); (case e1 => rfl))
  | ((with_reducible refine' i_I ?e1 ?_); (case e1 => first | decide | exact .inr ⟨by decide, by decide⟩ | exact ⟨by decide, by decide⟩ | assumption))
  | ((with_reducible refine' i_ixL ?e1 ?e2 ?_); (case e1 => walk_at "hp"); (case e2 => first | rfl | assumption))
  | ((with_reducible refine' i_ixT ?e1 ?e2 ?_); (case e1 => walk_at "hp"); (case e2 => first | rfl | assumption))
  | ((with_reducible refine' i_len ?e1 ?_); (case e1 => walk_at "hp")) | ((with_reducible refine' i_lenT ?e1 ?_); (case e1 => walk_at "hp"))
  | ((with_reducible refine' i_gtup ?e1 ?e2 ?_); (case e1 => walk_at "hp"); (case e2 => rfl))
  | ((with_reducible refine' i_set ?e1 ?e2 ?_); (case e1 => walk_at "hp"); (case e2 => rfl))
  | with_reducible refine i_int1 ?_ | with_reducible refine i_abs1 ?_ | with_reducible refine i_max2 ?_ | with_reducible refine i_min2 ?_ | with_reducible refine i_non ?_ | with_reducible refine i_nnon ?_
  | with_reducible refine i_for ?_ | with_reducible refine i_irng1 ?_ | with_reducible refine i_ilist ?_ | with_reducible refine i_itup ?_ | with_reducible refine i_ienum ?_ | with_reducible refine i_irev ?_ | with_reducible refine i_izip ?_ | with_reducible refine i_lc ?_ | with_reducible refine i_yes ?_ | with_reducible refine i_notV ?_ | ((with_reducible refine' i_isi ?e1 ?e2 ?_); (case e1 => walk_at "ty"); (case e2 => walk_at "kb")) | with_reducible refine i_meth ?_ | with_reducible refine i_make ?_ | with_reducible refine i_din ?_ | with_reducible refine i_dni ?_ | with_reducible refine i_dget ?_ | with_reducible refine i_dcT ?_ | with_reducible refine i_sfld ?_ | with_reducible refine i_chain ?_ | ((with_reducible refine' i_tuple ?e1 ?_); (case e1 => walk_at "hp")) | ((with_reducible refine' i_list ?e1 ?_); (case e1 => walk_at "hp")) | with_reducible refine iteT ?_ | with_reducible refine iteF ?_ | with_reducible refine iteNF ?_ | with_reducible refine iteNT ?_
  | ((with_reducible refine' i_ilistE ?e1 ?_); (case e1 => walk_at "hp")) | ((with_reducible refine' i_itupE ?e1 ?_); (case e1 => walk_at "hp")) | ((with_reducible refine' i_ienumE ?e1 ?_); (case e1 => walk_at "hp")) | ((with_reducible refine' i_irevE ?e1 ?_); (case e1 => walk_at "hp"))
  | ((with_reducible refine' i_rng1 ?e1 ?_); (case e1 => first | omega | decide); (try with_reducible rw [Int.toNat_natCast]))
  | ((with_reducible refine' And.intro ?e1 ?_); (case e1 => first | exact i_ty (by walk_at "hp") | rfl)))
local macro_rules | `(tactic| walk_at "r") => `(tactic| repeat walk_at "r1")

section
variable {P : Program} {w : World} {K : PySem.W.Frag} {mg : Str → Option Value} {base : Heap}
def spLeafFault : Sp := fun vs H Q _ => ∃ (p : Addr) (dv tv : V) (ms : List (List Str)) (ds : List Dem) (told : Tl) (k : Int), vs = [.ref p, dv, tv] ∧ H p = some (.tup [.str "leaf", .int k]) ∧ rDems H dv ds ∧ rTl H tv told ∧ (∀ d ∈ ds, d.1.length ≤ 100000) ∧
  ∀ H', Same H H' → Q (optW (flt ds ms told (.leaf k))) H'
theorem ok_leaf_fault (T : Txt K mg) : FnOk P w K mg base CX0 1 T.a_leaf_fault T.fd_leaf_fault ["tree", "demands", "told"] spLeafFault := by
  refine T.F_leaf_fault.ok sc_leaf_fault (fun vs H Q E h => ?_) (fun cdv A outer s H vs Q E hr h => ?_)
  · obtain ⟨_, _, _, _, _, _, _, rfl, _⟩ := h; rfl
  · obtain ⟨p, dv, tv, ms, ds, told, k', rfl, hp, ⟨dl, dvs, rfl, hdl, pd⟩, ht, hz, k⟩ := h
    have hu := hu_of hr
    have hdl' := P2.len pd
    obtain ⟨tp, kvs, rfl, htp, _, hkv⟩ := id ht
    rw [flt_leaf] at k
    refine ⟨_, (pss_cons (ps_set (i := 3) sc_leaf_fault.nd rfl (Or.inl rfl) (pe_ix (EV.ixT (K := K) rfl) (pv 0) pe_int (fun _ _ => rfl)))
    (pss_cons (EV.psIfM (PW.pt (pw_or (pt_cmpR op_lt (pv 3) pe_int (nomark _)) (pw_or1 (pt_cmpR op_ge (pv 3) (pe_callB (EV.cLen (K := K) rfl) (by rfl) T.b_len (by decide +kernel) (pa_cons (pv 1) pa_nil)) (nomark _)))))
      (pss_one (ps_ret pe_str))
      pss_nil)
    (pss_cons (ps_asg (pe_ix (EV.ixL (K := K) rfl) (pv 1) (pv 3) (fun _ _ => rfl)) (EV.pgT (K := K) (n := 2) rfl rfl (pgs_cons (pg_name (i := 4) sc_leaf_fault.nd rfl (Or.inl rfl)) (pgs_cons (pg_name (i := 5) sc_leaf_fault.nd rfl (Or.inl rfl)) pgs_nil))))
    (pss_cons (ps_for PassesOwn.never rfl (EV.piL (K := K) rfl (pv 4)) (pg_name (i := 6) sc_leaf_fault.nd rfl (Or.inl rfl))
      (pss_one (ps_if (pt_cmp (pc_dnotin hu (pv 6) (pv 2)) (by rfl))
        (pss_one (ps_ret pe_str))
        pss_nil)))
    (pss_cons (ps_if (pt_cmpR (EV.opInP (K := K) rfl hr.units) (pe_callTy (EV.cTuple (K := K) rfl) (by rfl) T.b_tuple (by decide +kernel) (pa_cons (pe_lc (own := [("place", 6)]) rfl sc_leaf_fault.nd (EV.piL (K := K) rfl (pv 4)) (blkOk_by (own := [("place", 6)]) (N := ["tree", "demands", "told", "number", "places", "rows", "place"]) (sc := defScope s_leaf_fault) (by decide +kernel)) (fun _ _ _ _ _ => (pg_name (i := 6) sc_leaf_fault.nd rfl (Or.inl rfl))) (fun _ _ _ _ _ => pts_nil) (fun _ _ _ _ _ => (pe_dget hu (pv 2) (pv 6) (fun _ _ => rfl)))) pa_nil)) (pv 5) (by rfl))
      (pss_one (ps_ret pe_str))
      pss_nil)
    (pss_one (ps_ret pe_non))))))), ?_⟩
    walk_at "r"
    by_cases hk : 0 ≤ k' ∧ k' < (ds.length : Int)
    · obtain ⟨j, rfl⟩ : ∃ j : Nat, k' = (j : Int) := ⟨k'.toNat, by omega⟩
      have hjl : j < ds.length := by omega
      obtain ⟨d, hdk⟩ : ∃ d, ds[j]? = some d := ⟨_, List.getElem?_eq_getElem hjl⟩
      have e1 : lfB ds told (j : Int) = (!(allT told d.1) || decide (rowT told d.1 ∈ d.2)) := by
        unfold lfB
        rw [if_pos hk.1, Int.toNat_natCast, hdk]
      rw [e1] at k
      obtain ⟨dx, hdx, dp, da, db, rfl, hdp, hps, hrv⟩ := P2.at pd hdk
      obtain ⟨pl, rfl, hpl1⟩ := rNats.at hps
      have hdz := hz d (List.mem_of_getElem? hdk)
      refine i_ifM (fun b H' => b = false ∧ H' = H) ?_ ?_
      · walk_at "r"
        refine ite_f (by rw [decide_eq_false_iff_not]; omega) ?_
        walk_at "r"
        exact ⟨by rw [decide_eq_false_iff_not]; omega, rfl⟩
      · rintro b H1 ⟨rfl, rfl⟩
        refine ite_f rfl ?_
        walk_at "r"
        refine i_ixL hdl (atI_nat hdx) ?_
        walk_at "r"
        refine for_list (xs := d.1.map fun n : Nat => V.int (n : Int)) (fun i σ H' => ∃ v6 : Option V, σ = [some (.ref p), some (.ref dl), some (.ref tp), some (.int j), some (.ref pl), some db, v6] ∧ H' = H1 ∧ ∀ p ∈ d.1.take i, (told.lookup (p : Int)).isSome = true) ⟨_, rfl, rfl, fun _ h => nomatch h⟩ (fun i σ H' _ ⟨_, _, e, _⟩ => by rw [e]; exact SqL.of hpl1) ?_ ?_
        · rintro i x σ H2 hx ⟨v6, rfl, rfl, hI⟩
          rw [List.getElem?_map] at hx
          obtain ⟨pp, hpp, rfl⟩ := Option.map_eq_some_iff.mp hx
          walk_at "r"
          refine ⟨tp, _, rfl, ht.get, ?_⟩
          cases hlk : told.lookup (pp : Int) with
          | none =>
            walk_at "r"
            refine ite_t (by rfl) ?_
            walk_at "r"
            have e2 : allT told d.1 = false := by
              unfold allT
              rw [List.all_eq_false]
              exact ⟨pp, List.mem_of_getElem? hpp, by rw [hlk]; decide⟩
            rw [e2] at k
            exact k _ (Same.refl _)
          | some x6 =>
            walk_at "r"
            refine ite_f (by rfl) ?_
            walk_at "r"
            refine ⟨_, rfl, rfl, fun p6 h6 => ?_⟩
            rw [List.take_add_one, hpp] at h6
            rcases List.mem_append.mp h6 with h6 | h6
            · exact hI p6 h6
            · have : p6 = pp := by simpa using h6
              subst this
              rw [hlk]
              rfl
        · rintro σ H2 ⟨v6, rfl, rfl, hI⟩
          rw [List.length_map, List.take_length] at hI
          have e2 : allT told d.1 = true := by
            unfold allT
            rw [List.all_eq_true]
            exact hI
          rw [e2] at k
          walk_at "r"
          intro De hDe
          refine lc_mapL (S := rS) (ys' := rowT told d.1) mS (Same.refl _) hpl1 (by simp [rowT]) (by simp [rowT]; omega) hDe ?_ ?_
          · intro j v y G H3 hv hy g k2 hk2
            rw [List.getElem?_map] at hv
            obtain ⟨pp, hpp, rfl⟩ := Option.map_eq_some_iff.mp hv
            unfold rowT at hy
            rw [List.getElem?_map, hpp] at hy
            cases hy
            have ht3 := mTl.up g.hh ht
            walk_at "r"
            refine ⟨tp, .str ((told.lookup (pp : Int)).getD Str.empty), rfl, ?_, ?_⟩
            · have := ht3.get (k := (pp : Int))
              obtain ⟨x6, hx6⟩ := Option.isSome_iff_exists.mp (hI pp (List.mem_of_getElem? hpp))
              rw [hx6] at this ⊢
              exact this
            · exact hk2 _ G H3 (Grow.refl g.gh) rfl
          · intro H3 G acc g gd ed pa
            rw [strs_eq pa] at ed
            walk_at "r"
            intro tq htq
            walk_at "r"
            refine w_in eRow (rRow.of upd_same) (mRows.up (fun b o e => upd_old (g.hh _ _ e) htq) hrv) ?_
            walk_at "r"
            refine ite_b (fun h => ?_) (fun h => ?_)
            · walk_at "r"
              have h : rowT told d.1 ∈ d.2 := by simpa using h
              rw [if_pos (by simpa using h)] at k
              exact k _ fun b o e => upd_old (g.hh _ _ e) htq
            · walk_at "r"
              have h : ¬ rowT told d.1 ∈ d.2 := by simpa using h
              rw [if_neg (by simpa using h)] at k
              exact k _ fun b o e => upd_old (g.hh _ _ e) htq
    · have e1 : lfB ds told k' = true := by
        unfold lfB
        by_cases h0 : 0 ≤ k'
        · rw [if_pos h0, List.getElem?_eq_none (by omega)]
        · rw [if_neg h0]
      rw [e1] at k
      refine i_ifM (fun b H' => b = true ∧ H' = H) ?_ ?_
      · walk_at "r"
        refine ite_b (fun h => ?_) (fun h => ?_)
        · exact ⟨rfl, rfl⟩
        · have h := of_decide_eq_false h
          walk_at "r"
          exact ⟨decide_eq_true (by omega), rfl⟩
      · rintro b H1 ⟨rfl, rfl⟩
        refine ite_t rfl ?_
        walk_at "r"
        exact k _ (Same.refl _)
def spKnotFault : Sp := fun vs H Q _ => ∃ (p q : Addr) (cv tv : V) (ms : List (List Str)) (ds : List Dem) (told : Tl) (d : Int) (brs : List (Str × Tz)) (bvs : List V), vs = [.ref p, cv, tv] ∧ H p = some (.tup [.str "knot", .int d, .ref q]) ∧ H q = some (.lst bvs) ∧ Paired (rBz H) bvs brs ∧
  rMenus H cv ms ∧ rTl H tv told ∧ brs.length ≤ 100000 ∧ ∀ H', Same H H' → Q (optW (flt ds ms told (.knot d brs))) H'
theorem ok_knot_fault (T : Txt K mg) : FnOk P w K mg base CX0 1 T.a_knot_fault T.fd_knot_fault ["tree", "choices", "told"] spKnotFault := by
  refine T.F_knot_fault.ok sc_knot_fault (fun vs H Q E h => ?_) (fun cdv A outer s H vs Q E hr h => ?_)
  · obtain ⟨_, _, _, _, _, _, _, _, _, _, rfl, _⟩ := h; rfl
  · obtain ⟨p, q, cv, tv, ms, ds, told, d, brs, bvs, rfl, hp, hq, pb, ⟨ml, mvs, rfl, hml, pm⟩, ht, hbz, k⟩ := h
    have hu := hu_of hr
    have hmvl := P2.len pm
    have hbvl := P2.len pb
    obtain ⟨tp, kvs, rfl, htp, _, hkv⟩ := id ht
    rw [flt_knot] at k
    refine ⟨_, (pss_cons (ps_set (i := 3) sc_knot_fault.nd rfl (Or.inl rfl) (pe_ix (EV.ixT (K := K) rfl) (pv 0) pe_int (fun _ _ => rfl)))
    (pss_cons (EV.psIfM (PW.pt (pw_or (pt_cmpR op_lt (pv 3) pe_int (nomark _)) (pw_or (pt_cmpR op_ge (pv 3) (pe_callB (EV.cLen (K := K) rfl) (by rfl) T.b_len (by decide +kernel) (pa_cons (pv 1) pa_nil)) (nomark _)) (pw_or1 (pt_cmp (pc_din hu (pv 3) (pv 2)) (by rfl))))))
      (pss_one (ps_ret pe_str))
      pss_nil)
    (pss_cons (ps_if (pt_cmpR (EV.opNeP (K := K) rfl hr.units) (pe_lc (own := [("branch", 4)]) rfl sc_knot_fault.nd (EV.piL (K := K) rfl (pe_ix (EV.ixT (K := K) rfl) (pv 0) pe_int (fun _ _ => rfl))) (blkOk_by (own := [("branch", 4)]) (N := ["tree", "choices", "told", "variable", "branch"]) (sc := defScope s_knot_fault) (by decide +kernel)) (fun _ _ _ _ _ => (pg_name (i := 4) sc_knot_fault.nd rfl (Or.inl rfl))) (fun _ _ _ _ _ => pts_nil) (fun _ _ _ _ _ => (pe_ix (EV.ixT (K := K) rfl) (pv 4) pe_int (fun _ _ => rfl)))) (pe_ix (EV.ixL (K := K) rfl) (pv 1) (pv 3) (fun _ _ => rfl)) (nomark _))
      (pss_one (ps_ret pe_str))
      pss_nil)
    (pss_one (ps_ret pe_non))))), ?_⟩
    walk_at "r"
    refine i_ifM (fun b H' => b = knB ms told d ∧ H' = H) ?_ ?_
    · walk_at "r"
      refine ite_b (fun h => ?_) (fun h => ?_)
      · walk_at "r"
        have h := of_decide_eq_true h
        refine ⟨?_, rfl⟩
        unfold knB
        rw [decide_eq_true h]
        rfl
      · have h := of_decide_eq_false h
        walk_at "r"
        refine ite_b (fun h2 => ?_) (fun h2 => ?_)
        · walk_at "r"
          have h2 := of_decide_eq_true h2
          refine ⟨?_, rfl⟩
          unfold knB
          rw [decide_eq_true (p := (ms.length : Int) ≤ d) (by omega), Bool.or_true]
          rfl
        · have h2 := of_decide_eq_false h2
          walk_at "r"
          refine ⟨tp, _, rfl, ht.get, ?_⟩
          walk_at "r"
          refine ⟨?_, rfl⟩
          unfold knB
          rw [decide_eq_false h, decide_eq_false (p := (ms.length : Int) ≤ d) (by omega), Option.isSome_map]
          rfl
    · rintro b H1 ⟨rfl, rfl⟩
      refine ite_b (fun h => ?_) (fun h => ?_)
      · rw [h] at k
        walk_at "r"
        exact k _ (Same.refl _)
      · rw [h] at k
        unfold knB at h
        simp only [Bool.or_eq_false_iff, decide_eq_false_iff_not] at h
        obtain ⟨⟨ha, hb⟩, hn⟩ := h
        obtain ⟨i, rfl⟩ : ∃ i : Nat, d = (i : Int) := ⟨d.toNat, by omega⟩
        have hil : i < ms.length := by omega
        have hm : ms[i]? = some (ms.getD i []) := by rw [List.getD_eq_getElem?_getD, List.getElem?_eq_getElem hil]; rfl
        rw [Int.toNat_natCast] at k
        generalize ms.getD i [] = m at hm k
        obtain ⟨mx, hmx, hmr⟩ := P2.at pm hm
        walk_at "r"
        intro De hDe
        refine lc_mapL (S := rS) (ys' := brs.map (·.1)) mS (Same.refl _) hq (by rw [List.length_map]; exact hbvl) (by rw [List.length_map]; omega) hDe ?_ ?_
        · intro j v y G H3 hv hy g k2 hk2
          obtain ⟨x, hx, a, ww, rfl, ha, _⟩ := P2.at' pb hv
          rw [List.getElem?_map, hx] at hy
          cases hy
          have ha3 := g.hh _ _ ha
          walk_at "r"
          exact hk2 _ G H3 (Grow.refl g.gh) rfl
        · intro H3 G acc g gd ed pa
          have hml3 := g.hh _ _ hml
          walk_at "r"
          refine i_ixL hml3 (atI_nat hmx) ?_
          refine w_ne eStrs ⟨De, acc, rfl, ed, P2.mono pa fun _ _ h => mS.up g.gh h⟩ (mStrs.up g.hh hmr) ?_
          walk_at "r"
          refine ite_b (fun h => ?_) (fun h => ?_)
          · have h : ¬ brs.map (·.1) = m := by simpa using h
            rw [if_neg h] at k
            walk_at "r"
            exact k _ g.hh
          · have h : brs.map (·.1) = m := by simpa using h
            rw [if_pos h] at k
            walk_at "r"
            exact k _ g.hh
end
end K9
end
section
set_option Elab.async false
set_option maxRecDepth 100000
set_option maxHeartbeats 4000000
namespace K9
open PySem PySem.Spec L2 EV
local macro_rules | `(tactic| walk_at "hp") => `(tactic| first | assumption | exact upd_same | (refine upd_old ?_ (by assumption); walk_at "hp") | (refine upd_oth (by first | assumption | (apply Ne.symm; assumption)) ?_; walk_at "hp"))
local macro_rules | `(tactic| walk_at "kb") => `(tactic| first | exact kb_NoneType_bool | exact kb_NoneType_int | exact kb_NoneType_str | exact kb_NoneType_dict | exact kb_NoneType_list | exact kb_NoneType_tuple | exact kb_bool_bool | exact kb_bool_int | exact kb_bool_str | exact kb_bool_dict | exact kb_bool_list | exact kb_bool_tuple | exact kb_int_bool | exact kb_int_int | exact kb_int_str | exact kb_int_dict | exact kb_int_list | exact kb_int_tuple | exact kb_str_bool | exact kb_str_int | exact kb_str_str | exact kb_str_dict | exact kb_str_list | exact kb_str_tuple | exact kb_list_bool | exact kb_list_int | exact kb_list_str | exact kb_list_dict | exact kb_list_list | exact kb_list_tuple | exact kb_tuple_bool | exact kb_tuple_int | exact kb_tuple_str | exact kb_tuple_dict | exact kb_tuple_list | exact kb_tuple_tuple)
local macro_rules | `(tactic| walk_at "ty") => `(tactic| first | exact tx_int | exact tx_str | exact tx_non | exact tx_bl | exact tx_lst (by walk_at "hp") | exact tx_tup (by walk_at "hp"))
local macro_rules | `(tactic| walk_at "r1") => `(tactic| first
  | ((with_reducible refine' i_var ?e1 ?_); (case e1 => rfl)) | with_reducible refine i_seq ?_ | with_reducible refine i_c ?_ | with_reducible refine i_op ?_ | with_reducible refine i_I0 ?_
  | with_reducible refine i_asg ?_ | with_reducible refine i_gname ?_ | with_reducible refine i_nil ?_ | with_reducible refine i_cons ?_ | with_reducible refine i_cb ?_ | with_reducible refine i_call ?_
  | with_reducible refine i_test ?_ | with_reducible refine i_tB ?_ | with_reducible refine i_bl ?_ | with_reducible refine i_int ?_ | with_reducible refine i_if ?_ | with_reducible refine i_ifx ?_
  | with_reducible refine i_ret ?_ | with_reducible refine i_retN ?_ | with_reducible refine i_drop ?_ | with_reducible refine i_next ?_ | with_reducible refine i_break ?_ | with_reducible refine i_cont ?_
  | with_reducible refine i_par ?_ | with_reducible refine i_par1 ?_ | with_reducible refine i_and ?_ | with_reducible refine i_or ?_ | with_reducible refine i_not ?_ | with_reducible refine i_truth ?_
  | with_reducible refine i_andV ?_ | with_reducible refine i_orV ?_ | with_reducible refine i_tup ?_ | with_reducible refine i_lst ?_ | with_reducible refine i_un ?_ | with_reducible refine i_U ?_
  | with_reducible refine i_bm ?_ | with_reducible refine i_bm0 ?_ | with_reducible refine i_sl ?_ | with_reducible refine i_nopart ?_ | with_reducible refine i_part ?_ | with_reducible refine i_fld ?_
  | with_reducible refine i_gsub ?_ | with_reducible refine i_gcons ?_ | with_reducible refine i_gnil ?_
  | ((with_reducible refine' i_eq ?e1 ?_); (case e1 => rfl)) | ((with_reducible refine' i_ne ?e1 ?_); (case e1 => rfl))
  | ((with_reducible refine' i_I ?e1 ?_); (case e1 => first | decide | exact .inr ⟨by decide, by decide⟩ | exact ⟨by decide, by decide⟩ | assumption))
  | ((with_reducible refine' i_ixL ?e1 ?e2 ?_); (case e1 => walk_at "hp"); (case e2 => first | rfl | assumption))
  | ((with_reducible refine' i_ixT ?e1 ?e2 ?_); (case e1 => walk_at "hp"); (case e2 => first | rfl | assumption))
  | ((with_reducible refine' i_len ?e1 ?_); (case e1 => walk_at "hp")) | ((with_reducible refine' i_lenT ?e1 ?_); (case e1 => walk_at "hp"))
  | ((with_reducible refine' i_gtup ?e1 ?e2 ?_); (case e1 => walk_at "hp"); (case e2 => rfl))
  | ((with_reducible refine' i_set ?e1 ?e2 ?_); (case e1 => walk_at "hp"); (case e2 => rfl))
  | with_reducible refine i_int1 ?_ | with_reducible refine i_abs1 ?_ | with_reducible refine i_max2 ?_ | with_reducible refine i_min2 ?_ | with_reducible refine i_non ?_ | with_reducible refine i_nnon ?_
  | with_reducible refine i_for ?_ | with_reducible refine i_irng1 ?_ | with_reducible refine i_ilist ?_ | with_reducible refine i_itup ?_ | with_reducible refine i_ienum ?_ | with_reducible refine i_irev ?_ | with_reducible refine i_izip ?_ | with_reducible refine i_lc ?_ | with_reducible refine i_yes ?_ | with_reducible refine i_notV ?_ | ((with_reducible refine' i_isi ?e1 ?e2 ?_); (case e1 => walk_at "ty"); (case e2 => walk_at "kb")) | with_reducible refine i_meth ?_ | with_reducible refine i_make ?_ | with_reducible refine i_din ?_ | with_reducible refine i_dni ?_ | with_reducible refine i_dget ?_ | with_reducible refine i_dcT ?_ | with_reducible refine i_sfld ?_ | with_reducible refine i_chain ?_ | ((with_reducible refine' i_tuple ?e1 ?_); (case e1 => walk_at "hp")) | ((with_reducible refine' i_list ?e1 ?_); (case e1 => walk_at "hp")) | with_reducible refine iteT ?_ | with_reducible refine iteF ?_ | with_reducible refine iteNF ?_ | with_reducible refine iteNT ?_
  | ((with_reducible refine' i_ilistE ?e1 ?_); (case e1 => walk_at "hp")) | ((with_reducible refine' i_itupE ?e1 ?_); (case e1 => walk_at "hp")) | ((with_reducible refine' i_ienumE ?e1 ?_); (case e1 => walk_at "hp")) | ((with_reducible refine' i_irevE ?e1 ?_); (case e1 => walk_at "hp"))
  | ((with_reducible refine' i_rng1 ?e1 ?_); (case e1 => first | omega | decide); (try with_reducible rw [Int.toNat_natCast]))
  | ((with_reducible refine' And.intro ?e1 ?_); (case e1 => first | exact i_ty (by walk_at "hp") | rfl)))
local macro_rules | `(tactic| walk_at "r") => `(tactic| repeat walk_at "r1")

section
variable {P : Program} {w : World} {K : PySem.W.Frag} {mg : Str → Option Value} {base : Heap}
def spPick : Sp := fun vs H Q _ => ∃ (s : Addr) (m : Int), vs = [.ref s, .int m] ∧ Rng H s ∧ m.natAbs < 2 ^ 64 ∧ ∀ H' (r : Int), Sb s H H' → Rng H' s → 0 ≤ r → r < max 1 m → Q (.int r) H'
theorem ok_pick (T : Txt K mg) : FnOk P w K mg base CX0 1 T.a_pick T.fd_pick ["s", "many"] spPick := by
  refine T.F_pick.ok sc_pick (fun vs H Q E h => ?_) (fun cdv A outer s H vs Q E hr h => ?_)
  · obtain ⟨_, _, rfl, _⟩ := h; rfl
  · obtain ⟨s, m, rfl, ⟨a, x, n, hs⟩, hm, k⟩ := h
    refine ⟨_, (pss_cons (ps_asg (pe_tup (pa_cons (pe_op op_mod (pe_op op_add (pe_op op_mul (pe_callTy EV.cInt (by rfl) T.b_int (by decide +kernel) (pa_cons (pe_ix (EV.ixL (K := K) rfl) (pv 0) pe_int (fun _ _ => rfl)) pa_nil)) pe_int) pe_int) pe_int) (pa_cons (pe_op op_add (pe_ix (EV.ixL (K := K) rfl) (pv 0) pe_int (fun _ _ => rfl)) pe_int) pa_nil))) (EV.pgT (K := K) (n := 2) rfl rfl (pgs_cons (pg_sub (pv 0) pe_int set_list) (pgs_cons (pg_sub (pv 0) pe_int set_list) pgs_nil))))
    (pss_cons (ps_set (i := 2) sc_pick.nd rfl (Or.inl rfl) (pe_op op_mod (pe_op op_add (pe_op op_add (pe_op op_mul (pe_op op_fdiv (pe_callTy EV.cInt (by rfl) T.b_int (by decide +kernel) (pa_cons (pe_ix (EV.ixL (K := K) rfl) (pv 0) pe_int (fun _ _ => rfl)) pa_nil)) pe_int) pe_int) (pe_op op_mul (pe_callTy EV.cInt (by rfl) T.b_int (by decide +kernel) (pa_cons (pe_ix (EV.ixL (K := K) rfl) (pv 0) pe_int (fun _ _ => rfl)) pa_nil)) pe_int)) (pe_op op_mod (pe_callTy EV.cInt (by rfl) T.b_int (by decide +kernel) (pa_cons (pe_ix (EV.ixL (K := K) rfl) (pv 0) pe_int (fun _ _ => rfl)) pa_nil)) pe_int)) pe_int))
    (pss_cons (ps_set (i := 1) sc_pick.nd rfl (Or.inl rfl) (pe_callB (EV.cMax2 rfl) (by rfl) T.b_max (by decide +kernel) (pa_cons pe_int (pa_cons (pv 1) pa_nil))))
    (pss_cons (ps_set (i := 3) sc_pick.nd rfl (Or.inl rfl) (pe_op op_mod (pe_callTy EV.cInt (by rfl) T.b_int (by decide +kernel) (pa_cons (pe_ix (EV.ixL (K := K) rfl) (pv 0) pe_int (fun _ _ => rfl)) pa_nil)) (pv 1)))
    (pss_cons (ps_asg (pe_op op_fdivW (pe_ix (EV.ixL (K := K) rfl) (pv 0) pe_int (fun _ _ => rfl)) (pv 1)) (pg_sub (pv 0) pe_int set_list))
    (pss_one (ps_ret (pe_op op_mod (pe_op op_add (pv 2) (pv 3)) (pv 1))))))))), ?_⟩
    walk_at "r"
    refine ⟨szb rfl, fun p hp => ?_⟩
    have ns : s ≠ p := ne_of_none hs hp
    walk_at "r"
    have em : (if m > 1 then m else 1) = max 1 m := by omega
    rw [em]
    have hm1 : 0 < max 1 m := by omega
    walk_at "r"
    refine i_I (wide_div (b := 65) hm1 (by omega) (by decide) (by decide)) ?_
    walk_at "r"
    refine k _ _ ?_ ?_ (Int.emod_nonneg _ (by omega)) (Int.emod_lt_of_pos _ hm1)
    · exact Sb.upd (Sb.upd (Sb.upd (Sb.new (Sb.refl _ _) hp)))
    · exact ⟨_, _, _, upd_same⟩
def spOne : Sp := fun vs H Q _ => ∃ (s p : Addr) (xs : List V), vs = [.ref s, .ref p] ∧ Rng H s ∧ H p = some (.lst xs) ∧ p ≠ s ∧ 0 < xs.length ∧ xs.length < 1000000 ∧ ∀ H' (v : V), Sb s H H' → Rng H' s → v ∈ xs → Q v H'
theorem ok_one (T : Txt K mg) : FnOk P w K mg base CX0 2 T.a_one T.fd_one ["s", "things"] spOne := by
  refine T.F_one.ok sc_one (fun vs H Q E h => ?_) (fun cdv A outer s H vs Q E hr h => ?_)
  · obtain ⟨_, _, _, rfl, _⟩ := h; rfl
  · obtain ⟨s, p, xs, rfl, hR, hp, ne, h0, h1, k⟩ := h
    have hr1 : Room 1 _ := hr.mono (by decide)
    refine ⟨_, (pss_one (ps_ret (pe_ix (EV.ixL (K := K) rfl) (pv 1) (pe_call (ok_pick T) hr1 rfl T.m_pick T.F_pick.kp (bd_pick T) .nil pass0 (pa_cons (pv 0) (pa_cons (pe_callB (EV.cLen (K := K) rfl) (by rfl) T.b_len (by decide +kernel) (pa_cons (pv 1) pa_nil)) pa_nil))) (fun _ _ => rfl)))), ?_⟩
    walk_at "r"
    refine ⟨_, _, rfl, hR, by omega, fun H1 r sb hR1 r0 r1 => ?_⟩
    have hr1 : r.toNat < xs.length := by omega
    refine i_ixL (sb _ _ ne hp) (at_of (j := r.toNat) (by omega) (List.getElem?_eq_getElem hr1)) ?_
    exact k _ _ sb hR1 (List.getElem_mem hr1)
def spShuf : Sp := fun vs H Q _ => ∃ (s p : Addr) (xs : List V), vs = [.ref s, .ref p] ∧ Rng H s ∧ H p = some (.lst xs) ∧ p ≠ s ∧ xs.length < 100000 ∧
  ∀ H' (q : Addr) (ys : List V), Sb s H H' → Rng H' s → H q = none → H' q = some (.lst ys) → ys.Perm xs → Q (.ref q) H'
theorem ok_shuffled (T : Txt K mg) : FnOk P w K mg base CX0 2 T.a_shuffled T.fd_shuffled ["s", "things"] spShuf := by
  refine T.F_shuffled.ok sc_shuffled (fun vs H Q E h => ?_) (fun cdv A outer s H vs Q E hr h => ?_)
  · obtain ⟨_, _, _, rfl, _⟩ := h; rfl
  · obtain ⟨s, p, xs, rfl, hR, hp, ne, h1, k⟩ := h
    have hr1 : Room 1 _ := hr.mono (by decide)
    refine ⟨_, (pss_cons (ps_par (i := 2) (j := 3) rfl sc_shuffled.nd rfl rfl (by decide) rfl rfl (pa_cons (pe_callTy (EV.cList (K := K) rfl) (by rfl) T.b_list (by decide +kernel) (pa_cons (pv 1) pa_nil)) (pa_cons (pe_lst pa_nil) pa_nil)) (by rfl))
    (pss_cons (ps_for PassesOwn.never rfl (pi_range1 rfl T.b_range (pa_cons (pe_callB (EV.cLen (K := K) rfl) (by rfl) T.b_len (by decide +kernel) (pa_cons (pv 1) pa_nil)) pa_nil)) (pg_name (i := 4) sc_shuffled.nd rfl (Or.inl rfl))
      (pss_one (ps_expr (EV.peBm (K := K) rfl PySem.F.plainAttrs_list PySem.F.slot_list_append PySem.F.type_list_append mt_append (pv 3) (pa_cons (EV.peBm (K := K) rfl PySem.F.plainAttrs_list PySem.F.slot_list_pop PySem.F.type_list_pop mt_popAt (pv 2) (pa_cons (pe_call (ok_pick T) hr1 rfl T.m_pick T.F_pick.kp (bd_pick T) .nil pass0 (pa_cons (pv 0) (pa_cons (pe_callB (EV.cLen (K := K) rfl) (by rfl) T.b_len (by decide +kernel) (pa_cons (pv 2) pa_nil)) pa_nil))) pa_nil)) pa_nil)))))
    (pss_one (ps_ret (pv 3))))), ?_⟩
    walk_at "r"
    intro l hl
    walk_at "r"
    refine ⟨szb rfl, fun q hq => ?_⟩
    obtain ⟨hq0, nql⟩ := upd_non hq
    walk_at "r"
    refine for_range (fun i σ H' => ∃ (v : Option V) (lf ou : List V), σ = [some (.ref s), some (.ref p), some (.ref l), some (.ref q), v] ∧ Sb s H H' ∧ Rng H' s ∧ H' l = some (.lst lf) ∧ H' q = some (.lst ou) ∧ (ou ++ lf).Perm xs ∧ ou.length = i)
      ⟨_, xs, [], rfl, Sb.new (Sb.new (Sb.refl _ _) hl) hq, (hR.new hl).new hq, by walk_at "hp", upd_same, List.Perm.refl _, rfl⟩ ?_ ?_
    · rintro i σ H1 hi ⟨v, lf, ou, rfl, sb, hR1, e1, e2, pm, ln⟩
      have hlen := pm.length_eq
      rw [List.length_append] at hlen
      walk_at "r"
      have hpos : 0 < lf.length := by omega
      refine ⟨_, _, rfl, hR1, by omega, fun H2 r sb2 hR2 r0 r1 => ?_⟩
      have hr : r.toNat < lf.length := by omega
      have nls : l ≠ s := hR.ne hl
      have nqs : q ≠ s := hR.ne hq0
      walk_at "r"
      refine i_popAt r0 (by omega) (by omega) (sb2 _ _ nls e1) (List.getElem?_eq_getElem hr) ?_
      walk_at "r"
      refine i_app (upd_oth nql (sb2 _ _ nqs e2)) (sz4' (by omega)) ?_
      walk_at "r"
      refine ⟨_, lf.eraseIdx r.toNat, ou ++ [lf[r.toNat]], rfl, fun b o n e => ?_, ?_, upd_oth nql.symm upd_same, upd_same, ?_, by simp [ln]⟩
      · rw [upd_ne (ne_of_none e hq0), upd_ne (ne_of_none e hl)]
        exact sb2 b o n (sb b o n e)
      · exact (hR2.other nls.symm).other nqs.symm
      · refine List.Perm.trans ?_ pm
        rw [List.append_assoc]
        refine List.Perm.append_left _ ?_
        exact perm_erase lf _ hr
    · rintro σ H1 ⟨v, lf, ou, rfl, sb, hR1, e1, e2, pm, ln⟩
      walk_at "r"
      have : lf = [] := by
        have hlen := pm.length_eq
        rw [List.length_append] at hlen
        exact List.eq_nil_of_length_eq_zero (by omega)
      subst this
      rw [List.append_nil] at pm
      exact k _ _ _ sb hR1 hq0 e2 pm
end
end K9
end
section
set_option Elab.async false
set_option maxRecDepth 100000
set_option maxHeartbeats 4000000
namespace K9
open PySem PySem.Spec L2 EV
local macro_rules | `(tactic| walk_at "hp") => `(tactic| first | assumption | exact upd_same | (refine upd_old ?_ (by assumption); walk_at "hp") | (refine upd_oth (by first | assumption | (apply Ne.symm; assumption)) ?_; walk_at "hp"))
local macro_rules | `(tactic| walk_at "kb") => `(tactic| first | exact kb_NoneType_bool | exact kb_NoneType_int | exact kb_NoneType_str | exact kb_NoneType_dict | exact kb_NoneType_list | exact kb_NoneType_tuple | exact kb_bool_bool | exact kb_bool_int | exact kb_bool_str | exact kb_bool_dict | exact kb_bool_list | exact kb_bool_tuple | exact kb_int_bool | exact kb_int_int | exact kb_int_str | exact kb_int_dict | exact kb_int_list | exact kb_int_tuple | exact kb_str_bool | exact kb_str_int | exact kb_str_str | exact kb_str_dict | exact kb_str_list | exact kb_str_tuple | exact kb_list_bool | exact kb_list_int | exact kb_list_str | exact kb_list_dict | exact kb_list_list | exact kb_list_tuple | exact kb_tuple_bool | exact kb_tuple_int | exact kb_tuple_str | exact kb_tuple_dict | exact kb_tuple_list | exact kb_tuple_tuple)
local macro_rules | `(tactic| walk_at "ty") => `(tactic| first | exact tx_int | exact tx_str | exact tx_non | exact tx_bl | exact tx_lst (by walk_at "hp") | exact tx_tup (by walk_at "hp"))
local macro_rules | `(tactic| walk_at "r1") => `(tactic| first
  | ((with_reducible refine' i_var ?e1 ?_); (case e1 => rfl)) | with_reducible refine i_seq ?_ | with_reducible refine i_c ?_ | with_reducible refine i_op ?_ | with_reducible refine i_I0 ?_
  | with_reducible refine i_asg ?_ | with_reducible refine i_gname ?_ | with_reducible refine i_nil ?_ | with_reducible refine i_cons ?_ | with_reducible refine i_cb ?_ | with_reducible refine i_call ?_
  | with_reducible refine i_test ?_ | with_reducible refine i_tB ?_ | with_reducible refine i_bl ?_ | with_reducible refine i_int ?_ | with_reducible refine i_if ?_ | with_reducible refine i_ifx ?_
  | with_reducible refine i_ret ?_ | with_reducible refine i_retN ?_ | with_reducible refine i_drop ?_ | with_reducible refine i_next ?_ | with_reducible refine i_break ?_ | with_reducible refine i_cont ?_
  | with_reducible refine i_par ?_ | with_reducible refine i_par1 ?_ | with_reducible refine i_and ?_ | with_reducible refine i_or ?_ | with_reducible refine i_not ?_ | with_reducible refine i_truth ?_
  | with_reducible refine i_andV ?_ | with_reducible refine i_orV ?_ | with_reducible refine i_tup ?_ | with_reducible refine i_lst ?_ | with_reducible refine i_un ?_ | with_reducible refine i_U ?_
  | with_reducible refine i_bm ?_ | with_reducible refine i_bm0 ?_ | with_reducible refine i_sl ?_ | with_reducible refine i_nopart ?_ | with_reducible refine i_part ?_ | with_reducible refine i_fld ?_
  | with_reducible refine i_gsub ?_ | with_reducible refine i_gcons ?_ | with_reducible refine i_gnil ?_
  | ((with_reducible refine' i_eq ?e1 ?_); (case e1 => rfl)) | ((with_reducible refine' i_ne ?e1 ?_); (case e1 => rfl))
  | ((with_reducible refine' i_I ?e1 ?_); (case e1 => first | decide | exact .inr ⟨by decide, by decide⟩ | exact ⟨by decide, by decide⟩ | assumption))
  | ((with_reducible refine' i_ixL ?e1 ?e2 ?_); (case e1 => walk_at "hp"); (case e2 => first | rfl | assumption))
  | ((with_reducible refine' i_ixT ?e1 ?e2 ?_); (case e1 => walk_at "hp"); (case e2 => first | rfl | assumption))
  | ((with_reducible refine' i_len ?e1 ?_); (case e1 => walk_at "hp")) | ((with_reducible refine' i_lenT ?e1 ?_); (case e1 => walk_at "hp"))
  | ((with_reducible refine' i_gtup ?e1 ?e2 ?_); (case e1 => walk_at "hp"); (case e2 => rfl))
  | ((with_reducible refine' i_set ?e1 ?e2 ?_); (case e1 => walk_at "hp"); (case e2 => rfl))
  | with_reducible refine i_int1 ?_ | with_reducible refine i_abs1 ?_ | with_reducible refine i_max2 ?_ | with_reducible refine i_min2 ?_ | with_reducible refine i_non ?_ | with_reducible refine i_nnon ?_
  | with_reducible refine i_for ?_ | with_reducible refine i_irng1 ?_ | with_reducible refine i_ilist ?_ | with_reducible refine i_itup ?_ | with_reducible refine i_ienum ?_ | with_reducible refine i_irev ?_ | with_reducible refine i_izip ?_ | with_reducible refine i_lc ?_ | with_reducible refine i_yes ?_ | with_reducible refine i_notV ?_ | ((with_reducible refine' i_isi ?e1 ?e2 ?_); (case e1 => walk_at "ty"); (case e2 => walk_at "kb")) | with_reducible refine i_meth ?_ | with_reducible refine i_make ?_ | with_reducible refine i_din ?_ | with_reducible refine i_dni ?_ | with_reducible refine i_dget ?_ | with_reducible refine i_dcT ?_ | with_reducible refine i_sfld ?_ | with_reducible refine i_chain ?_ | ((with_reducible refine' i_tuple ?e1 ?_); (case e1 => walk_at "hp")) | ((with_reducible refine' i_list ?e1 ?_); (case e1 => walk_at "hp")) | with_reducible refine iteT ?_ | with_reducible refine iteF ?_ | with_reducible refine iteNF ?_ | with_reducible refine iteNT ?_
  | ((with_reducible refine' i_ilistE ?e1 ?_); (case e1 => walk_at "hp")) | ((with_reducible refine' i_itupE ?e1 ?_); (case e1 => walk_at "hp")) | ((with_reducible refine' i_ienumE ?e1 ?_); (case e1 => walk_at "hp")) | ((with_reducible refine' i_irevE ?e1 ?_); (case e1 => walk_at "hp"))
  | ((with_reducible refine' i_rng1 ?e1 ?_); (case e1 => first | omega | decide); (try with_reducible rw [Int.toNat_natCast]))
  | ((with_reducible refine' And.intro ?e1 ?_); (case e1 => first | exact i_ty (by walk_at "hp") | rfl)))
local macro_rules | `(tactic| walk_at "r") => `(tactic| repeat walk_at "r1")

section
variable {P : Program} {w : World} {K : PySem.W.Frag} {mg : Str → Option Value} {base : Heap}
def spHalf : Sp := fun vs H Q _ => ∃ (s p : Addr) (xs : List V) (od of : Int), vs = [.ref s, .ref p, .int od, .int of] ∧ Rng H s ∧ H p = some (.lst xs) ∧ p ≠ s ∧ xs.length < 1000000 ∧ of.natAbs < 2 ^ 64 ∧
  ∀ H' (q : Addr) (ys : List V), Sb s H H' → Rng H' s → H q = none → H' q = some (.lst ys) → ys.Sublist xs → Q (.ref q) H'
theorem ok_half (T : Txt K mg) : FnOk P w K mg base CX0 2 T.a_half T.fd_half ["s", "things", "odds", "of"] spHalf := by
  refine T.F_half.ok sc_half (fun vs H Q E h => ?_) (fun cdv A outer s H vs Q E hr h => ?_)
  · obtain ⟨_, _, _, _, _, rfl, _⟩ := h; rfl
  · obtain ⟨s, p, xs, od, of, rfl, hR, hp, ne, hl, hof, k⟩ := h
    have hr1 : Room 1 _ := hr.mono (by decide)
    refine ⟨_, (pss_one (ps_ret (pe_lc (own := [("x", 4)]) rfl sc_half.nd (EV.piL (K := K) rfl (pv 1)) (blkOk_by (own := [("x", 4)]) (N := ["s", "things", "odds", "of", "x"]) (sc := defScope s_half) (by decide +kernel)) (fun _ _ _ _ _ => (pg_name (i := 4) sc_half.nd rfl (Or.inl rfl))) (fun _ _ _ _ _ => pts_one (pt_cmpR op_lt (pe_call (ok_pick T) hr1 rfl T.m_pick T.F_pick.kp (bd_pick T) .nil pass0 (pa_cons (pv 0) (pa_cons (pv 3) pa_nil))) (pv 2) (nomark _))) (fun _ _ _ _ _ => (pv 4))))), ?_⟩
    walk_at "r"
    intro q hq
    have nqs : q ≠ s := hR.ne hq
    have npq : p ≠ q := ne_of_none hp hq
    refine lc_list (xs := xs) (fun i H' => ∃ ys, Sb s H H' ∧ Rng H' s ∧ H' q = some (.lst ys) ∧ ys.Sublist (xs.take i))
      ⟨[], Sb.new (Sb.refl _ _) hq, hR.new hq, upd_same, by simp⟩ (fun i H' _ ⟨_, sb, _⟩ => SqL.of (sb _ _ ne hp)) ?_ ?_
    · rintro i x H1 hx ⟨ys, sb, hR1, e1, su⟩
      walk_at "r"
      refine ⟨_, _, rfl, hR1, hof, fun H2 r sb2 hR2 r0 r1 => ?_⟩
      have et : xs.take (i + 1) = xs.take i ++ [x] := by rw [List.take_add_one, hx]; rfl
      have hyl : ys.length ≤ xs.length := by
        have h1 := su.length_le
        rw [List.length_take] at h1
        omega
      walk_at "r"
      refine ite_b (fun _ => ?_) (fun _ => ?_)
      · walk_at "r"
        refine ⟨_, sb2 _ _ nqs e1, sz4' (by omega), ?_⟩
        refine ⟨_, fun b o n e => ?_, hR2.other nqs.symm, upd_same, by rw [et]; exact su.append (List.Sublist.refl _)⟩
        rw [upd_ne (ne_of_none e hq)]
        exact sb2 b o n (sb b o n e)
      · refine ⟨ys, fun b o n e => sb2 b o n (sb b o n e), hR2, sb2 _ _ nqs e1, ?_⟩
        rw [et]
        exact su.trans (List.sublist_append_left _ _)
    · rintro H1 ⟨ys, sb, hR1, e1, su⟩
      rw [List.take_length] at su
      exact k _ _ _ sb hR1 hq e1 su
def spName : Sp := fun vs H Q _ => ∃ (s u : Addr) (ns : List Str), vs = [.ref s, .ref u] ∧ Rng H s ∧ H u = some (.lst (ns.map V.str)) ∧ u ≠ s ∧ ns.length < 1000 ∧
  ∀ H' (w : Str), (∀ b o, b ≠ s → b ≠ u → H b = some o → H' b = some o) → Rng H' s → H' u = some (.lst ((ns ++ [w]).map V.str)) → w ∉ ns → Q (.str w) H'
theorem ok_name (T : Txt K mg) : FnOk P w K mg base CX0 3 T.a_name T.fd_name ["s", "used"] spName := by
  refine T.F_name.ok sc_name (fun vs H Q E h => ?_) (fun cdv A outer s H vs Q E hr h => ?_)
  · obtain ⟨_, _, _, rfl, _⟩ := h; rfl
  · obtain ⟨s, u, ns, rfl, hR, hu, ne, hl, k⟩ := h
    have hr1 : Room 1 _ := hr.mono (by decide); have hr2 : Room 2 _ := hr.mono (by decide)
    refine ⟨_, (pss_cons (ps_set (i := 2) sc_name.nd rfl (Or.inl rfl) pe_str)
    (pss_cons (ps_set (i := 3) sc_name.nd rfl (Or.inl rfl) (pe_ix ix_str (pv 2) (pe_call (ok_pick T) hr1 rfl T.m_pick T.F_pick.kp (bd_pick T) .nil pass0 (pa_cons (pv 0) (pa_cons pe_int pa_nil))) (fun _ _ => rfl)))
    (pss_cons (ps_for PassesOwn.never rfl (pi_range1 rfl T.b_range (pa_cons (pe_call (ok_one T) hr2 rfl T.m_one T.F_one.kp (bd_one T) .nil pass0 (pa_cons (pv 0) (pa_cons (pe_lst (pa_cons pe_int (pa_cons pe_int (pa_cons pe_int (pa_cons pe_int (pa_cons pe_int (pa_cons pe_int (pa_cons pe_int pa_nil)))))))) pa_nil))) pa_nil)) (pg_name (i := 4) sc_name.nd rfl (Or.inl rfl))
      (pss_one (ps_set (i := 3) sc_name.nd rfl (Or.inl rfl) (pe_op EV.opAddS (pv 3) (pe_ix ix_str (pv 2) (pe_call (ok_pick T) hr1 rfl T.m_pick T.F_pick.kp (bd_pick T) .nil pass0 (pa_cons (pv 0) (pa_cons pe_int pa_nil))) (fun _ _ => rfl))))))
    (EV.pssCut (ps_if (pt_cmpR op_eq (pe_call (ok_pick T) hr1 rfl T.m_pick T.F_pick.kp (bd_pick T) .nil pass0 (pa_cons (pv 0) (pa_cons pe_int pa_nil))) pe_int (nomark _))
      (pss_one (ps_set (i := 3) sc_name.nd rfl (Or.inl rfl) (pe_call (ok_one T) hr2 rfl T.m_one T.F_one.kp (bd_one T) .nil pass0 (pa_cons (pv 0) (pa_cons (pe_lst (pa_cons pe_str (pa_cons pe_str (pa_cons pe_str (pa_cons pe_str (pa_cons pe_str (pa_cons pe_str (pa_cons pe_str (pa_cons pe_str (pa_cons pe_str (pa_cons pe_str (pa_cons pe_str (pa_cons pe_str (pa_cons pe_str (pa_cons pe_str (pa_cons pe_str (pa_cons pe_str (pa_cons pe_str pa_nil)))))))))))))))))) pa_nil)))))
      pss_nil)
    (EV.pssCut (ps_if (pt_cmpR (EV.opInS (K := K) rfl) (pv 3) (pv 1) (by rfl))
      (pss_one (ps_set (i := 3) sc_name.nd rfl (Or.inl rfl) (pe_ix (EV.ixL (K := K) rfl) (pe_lc (own := [("x", 5)]) rfl sc_name.nd (EV.piL (K := K) rfl (pe_lc (own := [("k", 4)]) rfl sc_name.nd (pi_range1 rfl T.b_range (pa_cons (pe_op op_add (pe_callB (EV.cLen (K := K) rfl) (by rfl) T.b_len (by decide +kernel) (pa_cons (pv 1) pa_nil)) pe_int) pa_nil)) (blkOk_by (own := [("k", 4)]) (N := ["s", "used", "signs", "word", "k", "x"]) (sc := defScope s_name) (by decide +kernel)) (fun _ _ _ _ _ => (pg_name (i := 4) sc_name.nd rfl (Or.inl rfl))) (fun _ _ _ _ _ => pts_nil) (fun _ _ _ _ _ => (pe_op EV.opAddS pe_str (pe_callTy EV.cStr (by rfl) T.b_str (by decide +kernel) (pa_cons (pv 4) pa_nil)))))) (blkOk_by (own := [("x", 5)]) (N := ["s", "used", "signs", "word", "k", "x"]) (sc := defScope s_name) (by decide +kernel)) (fun _ _ _ _ _ => (pg_name (i := 5) sc_name.nd rfl (Or.inl rfl))) (fun _ _ _ _ _ => pts_one (pt_cmpR (EV.opNiS (K := K) rfl) (pv 5) (pv 1) (by rfl))) (fun _ _ _ _ _ => (pv 5))) pe_int (fun _ _ => rfl))))
      pss_nil)
    (pss_cons (ps_expr (EV.peBm (K := K) rfl PySem.F.plainAttrs_list PySem.F.slot_list_append PySem.F.type_list_append mt_append (pv 1) (pa_cons (pv 3) pa_nil)))
    (pss_one (ps_ret (pv 3))))))))), ?_⟩
    walk_at "r"
    refine ⟨_, _, rfl, hR, by decide, fun H1 r1 sb1 hR1 r10 r11 => ?_⟩
    walk_at "r"
    refine i_ixS (by decide) r10 (Int.lt_of_lt_of_le r11 (by decide)) fun c1 => ?_
    walk_at "r"
    refine ⟨szb rfl, fun p1 hp1 => ?_⟩
    walk_at "r"
    have nep : p1 ≠ s := hR1.ne hp1
    refine ⟨_, _, _, rfl, hR1.new hp1, upd_same, nep, by decide, by decide, fun H2 v2 sb2 hR2 hv2 => ?_⟩
    obtain ⟨j, rfl, hj⟩ : ∃ j : Nat, v2 = V.int j ∧ j ≤ 7 := by
      simp only [List.mem_cons, List.not_mem_nil, or_false] at hv2
      rcases hv2 with e | e | e | e | e | e | e <;> subst e <;> first | exact ⟨0, rfl, by decide⟩ | exact ⟨1, rfl, by decide⟩ | exact ⟨2, rfl, by decide⟩ | exact ⟨3, rfl, by decide⟩ | exact ⟨7, rfl, by decide⟩
    have b2 : Sb s H H2 := (sb1.new hp1).trans sb2
    walk_at "r"
    refine for_range (n := j) (fun i σ H' => ∃ (v x : Option V) (wd : Str), σ = [some (.ref s), some (.ref u), some (.str "abcdefghijklmnopqrstuvwxyz0123456789"), some (.str wd), v, x] ∧ Sb s H H' ∧ Rng H' s ∧ wd.length ≤ i + 1)
      ⟨_, _, _, rfl, b2, hR2, Nat.le_refl _⟩ ?_ ?_
    · rintro i σ H3 hi ⟨v, x, wd, rfl, sb3, hR3, hw⟩
      walk_at "r"
      refine ⟨_, _, rfl, hR3, by decide, fun H4 r4 sb4 hR4 r40 r41 => ?_⟩
      walk_at "r"
      refine i_ixS (by decide) r40 (Int.lt_of_lt_of_le r41 (by decide)) fun c4 => ?_
      walk_at "r"
      refine i_addS (sz4 (by rw [slen_one]; omega)) ?_
      walk_at "r"
      exact ⟨_, _, _, rfl, sb3.trans sb4, hR4, by rw [slen_app, slen_one]; omega⟩
    · rintro σ H3 ⟨v, x, wd, rfl, sb3, hR3, hw⟩
      refine i_mid (fun σ H' => ∃ (v x : Option V) (wd : Str), σ = [some (.ref s), some (.ref u), some (.str "abcdefghijklmnopqrstuvwxyz0123456789"), some (.str wd), v, x] ∧ Sb s H H' ∧ Rng H' s) ?_ ?_
      · walk_at "r"
        refine ⟨_, _, rfl, hR3, by decide, fun H4 r4 sb4 hR4 r40 r41 => ?_⟩
        walk_at "r"
        refine ite_b (fun _ => ?_) (fun _ => ?_)
        · walk_at "r"
          refine ⟨szb rfl, fun p5 hp5 => ?_⟩
          have nep5 : p5 ≠ s := hR4.ne hp5
          walk_at "r"
          refine ⟨_, _, _, rfl, hR4.new hp5, upd_same, nep5, by decide, by decide, fun H6 v6 sb6 hR6 hv6 => ?_⟩
          obtain ⟨w6, rfl⟩ : ∃ w : Str, v6 = V.str w := by
            simp only [List.mem_cons, List.not_mem_nil, or_false] at hv6
            rcases hv6 with e | e | e | e | e | e | e | e | e | e | e | e | e | e | e | e | e <;> exact ⟨_, e⟩
          walk_at "r"
          exact ⟨_, _, _, rfl, ((sb3.trans sb4).new hp5).trans sb6, hR6⟩
        · walk_at "r"
          exact ⟨_, _, _, rfl, sb3.trans sb4, hR4⟩
      · rintro σ H4 ⟨v, x, wd, rfl, sb4, hR4⟩
        have hu4 := sb4 _ _ ne hu
        refine i_mid (fun σ H' => ∃ (v x : Option V) (wd : Str), σ = [some (.ref s), some (.ref u), some (.str "abcdefghijklmnopqrstuvwxyz0123456789"), some (.str wd), v, x] ∧ Sb s H H' ∧ Rng H' s ∧ wd ∉ ns) ?_ ?_
        · walk_at "r"
          refine i_inS hu4 ?_
          walk_at "r"
          refine ite_b (fun _ => ?_) (fun hn => ?_)
          · walk_at "r"
            rw [List.length_map]
            walk_at "r"
            rw [show ((ns.length : Int) + 1).toNat = ns.length + 1 by omega]
            intro p5 hp5
            have n5 : p5 ≠ s := hR4.ne hp5
            have hp50 : H p5 = none := by
              cases q : H p5 with
              | none => rfl
              | some o => rw [sb4 _ _ n5 q] at hp5; cases hp5
            have nu5 : u ≠ p5 := ne_of_none hu4 hp5
            refine lc_range (n := ns.length + 1) (fun i H' => Sb s H H' ∧ Rng H' s ∧ H' p5 = some (.lst (((List.range i).map spare).map V.str)))
              ⟨Sb.new sb4 hp5, hR4.new hp5, upd_same⟩ ?_ ?_
            · rintro i H5 hi ⟨sb5, hR5, e5⟩
              walk_at "r"
              rw [Int.zero_add]
              walk_at "r"
              refine i_str1 (num_log (n := i) (by omega)) ?_
              walk_at "r"
              have q6 := num_len (n := i) (by omega)
              refine i_addS (sz4 (Nat.le_trans (Nat.add_le_add_left q6 _) (by decide))) ?_
              walk_at "r"
              refine ⟨_, e5, sz4' (by simp; omega), Sb.mut sb5 hp50, hR5.other n5.symm, ?_⟩
              rw [upd_same, List.range_succ, List.map_append, List.map_append]
              rfl
            · rintro H5 ⟨sb5, hR5, e5⟩
              have hu5 := sb5 _ _ ne hu
              walk_at "r"
              intro p6 hp6
              have n6 : p6 ≠ s := hR5.ne hp6
              have hp60 : H p6 = none := by
                cases q : H p6 with
                | none => rfl
                | some o => rw [sb5 _ _ n6 q] at hp6; cases hp6
              have n56 : p5 ≠ p6 := ne_of_none e5 hp6
              refine lc_list (xs := ((List.range (ns.length + 1)).map spare).map V.str) (fun i H' => ∃ ys : List Str, Sb s H H' ∧ Rng H' s ∧ H' p5 = some (.lst (((List.range (ns.length + 1)).map spare).map V.str)) ∧ H' p6 = some (.lst (ys.map V.str)) ∧ ys.length ≤ i ∧ (∀ y ∈ ys, y ∉ ns) ∧ ∀ x ∈ ((List.range (ns.length + 1)).map spare).take i, x ∉ ns → x ∈ ys)
                ⟨[], Sb.mut sb5 hp60, hR5.other n6.symm, upd_oth n56 e5, upd_same, Nat.le_refl _, (fun _ h => nomatch h), fun _ h => nomatch h⟩ (fun i H' _ ⟨ys, _, _, h, _⟩ => SqL.of h) ?_ ?_
              · rintro i y H6 hy ⟨ys, sb6, hR6, e6, e7, ly, a1, a2⟩
                rw [List.getElem?_map] at hy
                obtain ⟨w6, hw6, rfl⟩ := Option.map_eq_some_iff.mp hy
                have hi6 := (List.getElem?_eq_some_iff.mp hw6).1
                rw [List.length_map, List.length_range] at hi6
                have hu6 := sb6 _ _ ne hu
                walk_at "r"
                refine i_niS hu6 ?_
                walk_at "r"
                have et : ((List.range (ns.length + 1)).map spare).take (i + 1) = ((List.range (ns.length + 1)).map spare).take i ++ [w6] := by rw [List.take_add_one, hw6]; rfl
                refine ite_b (fun h6 => ?_) (fun h6 => ?_)
                · walk_at "r"
                  refine ⟨_, e7, sz4' (by simp; omega), ys ++ [w6], Sb.mut sb6 hp60, hR6.other n6.symm, upd_oth n56 e6, by rw [upd_same, List.map_append]; rfl, by simp; omega, ?_, ?_⟩
                  · intro y hy
                    rcases List.mem_append.mp hy with h | h
                    · exact a1 y h
                    · rw [List.mem_singleton] at h
                      subst h
                      simpa using h6
                  · intro x hx nx
                    rw [et] at hx
                    rcases List.mem_append.mp hx with h | h
                    · exact List.mem_append_left _ (a2 x h nx)
                    · exact List.mem_append_right _ h
                · refine ⟨ys, sb6, hR6, e6, e7, by omega, a1, fun x hx nx => ?_⟩
                  rw [et] at hx
                  rcases List.mem_append.mp hx with h | h
                  · exact a2 x h nx
                  · rw [List.mem_singleton] at h
                    subst h
                    simp [nx] at h6
              · rintro H6 ⟨ys, sb6, hR6, e6, e7, ly, a1, a2⟩
                rw [List.take_of_length_le (by simp)] at a2
                obtain ⟨x6, hx6, nx6⟩ := pigeon ((List.range (ns.length + 1)).map spare) ns (spares_nodup _) (by simp)
                have hin := a2 x6 hx6 nx6
                cases ys with
                | nil => cases hin
                | cons y0 yr =>
                  walk_at "r"
                  refine i_ixL e7 (atI_nat (j := 0) rfl) ?_
                  walk_at "r"
                  exact ⟨_, _, _, rfl, sb6, hR6, a1 y0 List.mem_cons_self⟩
          · walk_at "r"
            exact ⟨_, _, _, rfl, sb4, hR4, of_decide_eq_false hn⟩
        · rintro σ H5 ⟨v, x, wd, rfl, sb5, hR5, nw⟩
          have hu5 := sb5 _ _ ne hu
          walk_at "r"
          refine i_app hu5 (sz4' (by simp; omega)) ?_
          walk_at "r"
          exact k _ _ (fun b o n1 n2 e => by rw [upd_ne n2]; exact sb5 b o n1 e) (hR5.other ne.symm) (by rw [upd_same, List.map_append]; rfl) nw
end
end K9
end
section
set_option Elab.async false
set_option maxRecDepth 100000
set_option maxHeartbeats 4000000
namespace K9
open PySem PySem.Spec L2 EV
local macro_rules | `(tactic| walk_at "hp") => `(tactic| first | assumption | exact upd_same | (refine upd_old ?_ (by assumption); walk_at "hp") | (refine upd_oth (by first | assumption | (apply Ne.symm; assumption)) ?_; walk_at "hp"))
local macro_rules | `(tactic| walk_at "kb") => `(tactic| first | exact kb_NoneType_bool | exact kb_NoneType_int | exact kb_NoneType_str | exact kb_NoneType_dict | exact kb_NoneType_list | exact kb_NoneType_tuple | exact kb_bool_bool | exact kb_bool_int | exact kb_bool_str | exact kb_bool_dict | exact kb_bool_list | exact kb_bool_tuple | exact kb_int_bool | exact kb_int_int | exact kb_int_str | exact kb_int_dict | exact kb_int_list | exact kb_int_tuple | exact kb_str_bool | exact kb_str_int | exact kb_str_str | exact kb_str_dict | exact kb_str_list | exact kb_str_tuple | exact kb_list_bool | exact kb_list_int | exact kb_list_str | exact kb_list_dict | exact kb_list_list | exact kb_list_tuple | exact kb_tuple_bool | exact kb_tuple_int | exact kb_tuple_str | exact kb_tuple_dict | exact kb_tuple_list | exact kb_tuple_tuple)
local macro_rules | `(tactic| walk_at "ty") => `(tactic| first | exact tx_int | exact tx_str | exact tx_non | exact tx_bl | exact tx_lst (by walk_at "hp") | exact tx_tup (by walk_at "hp"))
local macro_rules | `(tactic| walk_at "r1") => `(tactic| first
  | ((with_reducible refine' i_var ?e1 ?_); (case e1 => rfl)) | with_reducible refine i_seq ?_ | with_reducible refine i_c ?_ | with_reducible refine i_op ?_ | with_reducible refine i_I0 ?_
  | with_reducible refine i_asg ?_ | with_reducible refine i_gname ?_ | with_reducible refine i_nil ?_ | with_reducible refine i_cons ?_ | with_reducible refine i_cb ?_ | with_reducible refine i_call ?_
  | with_reducible refine i_test ?_ | with_reducible refine i_tB ?_ | with_reducible refine i_bl ?_ | with_reducible refine i_int ?_ | with_reducible refine i_if ?_ | with_reducible refine i_ifx ?_
  | with_reducible refine i_ret ?_ | with_reducible refine i_retN ?_ | with_reducible refine i_drop ?_ | with_reducible refine i_next ?_ | with_reducible refine i_break ?_ | with_reducible refine i_cont ?_
  | with_reducible refine i_par ?_ | with_reducible refine i_par1 ?_ | with_reducible refine i_and ?_ | with_reducible refine i_or ?_ | with_reducible refine i_not ?_ | with_reducible refine i_truth ?_
  | with_reducible refine i_andV ?_ | with_reducible refine i_orV ?_ | with_reducible refine i_tup ?_ | with_reducible refine i_lst ?_ | with_reducible refine i_un ?_ | with_reducible refine i_U ?_
  | with_reducible refine i_bm ?_ | with_reducible refine i_bm0 ?_ | with_reducible refine i_sl ?_ | with_reducible refine i_nopart ?_ | with_reducible refine i_part ?_ | with_reducible refine i_fld ?_
  | with_reducible refine i_gsub ?_ | with_reducible refine i_gcons ?_ | with_reducible refine i_gnil ?_
  | ((with_reducible refine' i_eq ?e1 ?_); (case e1 => rfl)) | ((with_reducible refine' i_ne ?e1 ?_); (case e1 => rfl))
  | ((with_reducible refine' i_I ?e1 ?_); (case e1 => first | decide | exact .inr ⟨by decide, by decide⟩ | exact ⟨by decide, by decide⟩ | assumption))
  | ((with_reducible refine' i_ixL ?e1 ?e2 ?_); (case e1 => walk_at "hp"); (case e2 => first | rfl | assumption))
  | ((with_reducible refine' i_ixT ?e1 ?e2 ?_); (case e1 => walk_at "hp"); (case e2 => first | rfl | assumption))
  | ((with_reducible refine' i_len ?e1 ?_); (case e1 => walk_at "hp")) | ((with_reducible refine' i_lenT ?e1 ?_); (case e1 => walk_at "hp"))
  | ((with_reducible refine' i_gtup ?e1 ?e2 ?_); (case e1 => walk_at "hp"); (case e2 => rfl))
  | ((with_reducible refine' i_set ?e1 ?e2 ?_); (case e1 => walk_at "hp"); (case e2 => rfl))
  | with_reducible refine i_int1 ?_ | with_reducible refine i_abs1 ?_ | with_reducible refine i_max2 ?_ | with_reducible refine i_min2 ?_ | with_reducible refine i_non ?_ | with_reducible refine i_nnon ?_
  | with_reducible refine i_for ?_ | with_reducible refine i_irng1 ?_ | with_reducible refine i_ilist ?_ | with_reducible refine i_itup ?_ | with_reducible refine i_ienum ?_ | with_reducible refine i_irev ?_ | with_reducible refine i_izip ?_ | with_reducible refine i_lc ?_ | with_reducible refine i_yes ?_ | with_reducible refine i_notV ?_ | ((with_reducible refine' i_isi ?e1 ?e2 ?_); (case e1 => walk_at "ty"); (case e2 => walk_at "kb")) | with_reducible refine i_meth ?_ | with_reducible refine i_make ?_ | with_reducible refine i_din ?_ | with_reducible refine i_dni ?_ | with_reducible refine i_dget ?_ | with_reducible refine i_dcT ?_ | with_reducible refine i_sfld ?_ | with_reducible refine i_chain ?_ | ((with_reducible refine' i_tuple ?e1 ?_); (case e1 => walk_at "hp")) | ((with_reducible refine' i_list ?e1 ?_); (case e1 => walk_at "hp")) | with_reducible refine iteT ?_ | with_reducible refine iteF ?_ | with_reducible refine iteNF ?_ | with_reducible refine iteNT ?_
  | ((with_reducible refine' i_ilistE ?e1 ?_); (case e1 => walk_at "hp")) | ((with_reducible refine' i_itupE ?e1 ?_); (case e1 => walk_at "hp")) | ((with_reducible refine' i_ienumE ?e1 ?_); (case e1 => walk_at "hp")) | ((with_reducible refine' i_irevE ?e1 ?_); (case e1 => walk_at "hp"))
  | ((with_reducible refine' i_rng1 ?e1 ?_); (case e1 => first | omega | decide); (try with_reducible rw [Int.toNat_natCast]))
  | ((with_reducible refine' And.intro ?e1 ?_); (case e1 => first | exact i_ty (by walk_at "hp") | rfl)))
local macro_rules | `(tactic| walk_at "r") => `(tactic| repeat walk_at "r1")

section
variable {P : Program} {w : World} {K : PySem.W.Frag} {mg : Str → Option Value} {base : Heap}
def spProd : Sp := fun vs H Q _ => ∃ (v : V) (ms : List (List Str)), vs = [v] ∧ rMenus H v ms ∧ ms.length ≤ 1000 ∧ (∀ k, (prodL (ms.take k)).length ≤ 100000) ∧
  ∀ H' (q : Addr), Same H H' → H q = none → rRows H' (.ref q) (prodL ms) → Q (.ref q) H'
theorem ok_product (T : Txt K mg) : FnOk P w K mg base CX0 1 T.a_product T.fd_product ["lists"] spProd := by
  refine T.F_product.ok sc_product (fun vs H Q E h => ?_) (fun cdv A outer s H vs Q E hr h => ?_)
  · obtain ⟨_, _, rfl, _⟩ := h; rfl
  · obtain ⟨v, ms, rfl, ⟨l, vs, rfl, hl, pm⟩, hms, hb, k⟩ := h
    refine ⟨_, (pss_cons (ps_set (i := 1) sc_product.nd rfl (Or.inl rfl) (pe_lst (pa_cons (pe_tup pa_nil) pa_nil)))
    (pss_cons (ps_for PassesOwn.never rfl (EV.piL (K := K) rfl (pv 0)) (pg_name (i := 2) sc_product.nd rfl (Or.inl rfl))
      (pss_cons (ps_set (i := 3) sc_product.nd rfl (Or.inl rfl) (pe_lst pa_nil))
      (pss_cons (ps_for PassesOwn.never rfl (EV.piL (K := K) rfl (pv 1)) (pg_name (i := 4) sc_product.nd rfl (Or.inr rfl))
        (pss_one (ps_set (i := 3) sc_product.nd rfl (Or.inl rfl) (pe_op op_cat (pv 3) (pe_lc (own := [("x", 5)]) rfl sc_product.nd (EV.piL (K := K) rfl (pv 2)) (blkOk_by (own := [("x", 5)]) (N := ["lists", "rows", "things", "longer", "row", "x"]) (sc := defScope s_product) (by decide +kernel)) (fun _ _ _ _ _ => (pg_name (i := 5) sc_product.nd rfl (Or.inl rfl))) (fun _ _ _ _ _ => pts_nil) (fun _ _ _ _ _ => (pe_op (EV.opCatT (K := K) rfl) (pv 4) (pe_tup (pa_cons (pv 5) pa_nil)))))))))
      (pss_one (ps_set (i := 1) sc_product.nd rfl (Or.inl rfl) (pv 3))))))
    (pss_one (ps_ret (pv 1))))), ?_⟩
    walk_at "r"
    refine ⟨szb rfl, fun p0 hp0 => ?_⟩
    walk_at "r"
    refine ⟨szb rfl, fun p1 hp1 => ?_⟩
    obtain ⟨hp10, n10⟩ := upd_non hp1
    walk_at "r"
    refine for_list (xs := vs) (fun i σ H' => ∃ (p : Addr) (v2 v3 v4 v5 : Option V), σ = [some (.ref l), some (.ref p), v2, v3, v4, v5] ∧ Same H H' ∧ H p = none ∧ rRows H' (.ref p) (prodL (ms.take i)))
      ⟨p1, _, _, _, _, rfl, Same.new (Same.new (Same.refl _) hp0) hp1, hp10, ⟨p1, _, rfl, upd_same, .cons ⟨p0, [], rfl, upd_old upd_same hp1, .nil⟩ .nil⟩⟩
      (fun i σ H' _ ⟨_, _, _, _, _, _, e, _⟩ => SqL.of (e _ _ hl)) ?_ ?_
    · rintro i x σ H1 hx ⟨p, v2, v3, v4, v5, rfl, s1, np, hrows⟩
      obtain ⟨m, hm, hxm⟩ := P2.at' pm hx
      obtain ⟨t, rfl, ht⟩ := rStrs.at hxm
      obtain ⟨p', as, e', hp', pr⟩ := hrows
      cases e'
      have hb1 := hb (i + 1)
      have et : ms.take (i + 1) = ms.take i ++ [m] := by rw [List.take_add_one, hm]; rfl
      rw [et, prodL_snoc, ext1_len] at hb1
      walk_at "r"
      refine ⟨szb rfl, fun p2 hp2 => ?_⟩
      walk_at "r"
      have ht1 := s1 _ _ ht
      refine for_list (xs := as) (fun j σ H' => ∃ (q : Addr) (v4 v5 : Option V), σ = [some (.ref l), some (.ref p), some (.ref t), some (.ref q), v4, v5] ∧ Same H1 H' ∧ H1 q = none ∧ rRows H' (.ref q) (ext1 ((prodL (ms.take i)).take j) m))
        ⟨p2, _, _, rfl, Same.new (Same.refl _) hp2, hp2, ⟨p2, [], rfl, upd_same, .nil⟩⟩
        (fun j σ H' _ ⟨_, _, _, _, e, _⟩ => SqL.of (e _ _ hp')) ?_ ?_
      · rintro j y σ H2 hy ⟨q, v4, v5, rfl, s2, nq, hq⟩
        obtain ⟨r, hr, hyr⟩ := P2.at' pr hy
        obtain ⟨a, rfl, ha⟩ := rRow.at hyr
        obtain ⟨q', bs, e', hq', pb⟩ := hq
        cases e'
        have hjl := (List.getElem?_eq_some_iff.mp hr).1
        have hml : m.length ≤ 100000 := Nat.le_trans (Nat.le_mul_of_pos_left _ (Nat.lt_of_le_of_lt (Nat.zero_le _) hjl)) hb1
        have hrl : r.length ≤ 1000 := by
          have := prodL_len _ r (List.mem_of_getElem? hr)
          rw [List.length_take] at this
          omega
        have hbl := P2.len pb
        have hbl2 : ((prodL (ms.take i)).take j).length * m.length ≤ 100000 := Nat.le_trans (Nat.mul_le_mul_right _ (by rw [List.length_take]; omega)) hb1
        rw [ext1_len] at hbl
        have ht2 := s2 _ _ ht1
        have ha2 := s2 _ _ ha
        walk_at "r"
        intro D hD
        have nqD : q ≠ D := ne_of_none hq' hD
        refine lc_list (xs := m.map V.str) (fun n H' => ∃ acc, Sb D H2 H' ∧ H' D = some (.lst acc) ∧ Paired (rRow H') acc ((m.take n).map fun x => r ++ [x]))
          ⟨[], Sb.upd (Sb.refl _ _), upd_same, .nil⟩ (fun n H' _ ⟨_, e, _⟩ => SqL.of (e _ _ (ne_of_none ht2 hD) ht2)) ?_ ?_
        · rintro n z H3 hz ⟨acc, s3, e3, pa⟩
          rw [List.getElem?_map] at hz
          obtain ⟨x, hx', rfl⟩ := Option.map_eq_some_iff.mp hz
          have ha3 := s3 _ _ (ne_of_none ha2 hD) ha2
          have hal := P2.len pa
          rw [List.length_map, List.length_take] at hal
          have et3 : m.take (n + 1) = m.take n ++ [x] := by rw [List.take_add_one, hx']; rfl
          walk_at "r"
          refine ⟨szb rfl, fun p4 hp4 => ?_⟩
          refine i_catT (upd_old ha3 hp4) upd_same (by simp) ?_ fun p5 H5 s5 e5 _ => ?_
          · simp; omega
          have nDp : D ≠ p4 := ne_of_none e3 hp4
          have e35 := s5 _ _ (upd_old e3 hp4)
          refine ⟨acc, e35, ?_, acc ++ [.ref p5], ?_, upd_same, ?_⟩
          · exact sz4' (by omega)
          · intro b o nb e
            rw [upd_ne nb]
            exact s5 _ _ (upd_old (s3 b o nb e) hp4)
          · rw [et3, List.map_append]
            refine P2.snoc (P2.mono pa fun v r h => rRow.upL e35 (mRow.up s5 (mRow.up (Same.new (Same.refl _) hp4) h))) (rRow.upL e35 (rRow.of ?_))
            rw [e5, List.map_append]
            rfl
        · rintro H3 ⟨acc, s3, e3, pa⟩
          have hq3 := s3 _ _ nqD hq'
          walk_at "r"
          refine i_cat hq3 e3 ?_ fun p6 hp6 => ?_
          · have := P2.len pa
            rw [List.length_map, List.length_take] at this
            omega
          walk_at "r"
          rw [List.length_map, List.take_length] at pa
          have s23 : Same H2 H3 := fun b o e => s3 b o (ne_of_none e hD) e
          have et2 : (prodL (ms.take i)).take (j + 1) = (prodL (ms.take i)).take j ++ [r] := by rw [List.take_add_one, hr]; rfl
          refine ⟨p6, _, _, rfl, Same.new (fun b o e => s23 _ _ (s2 b o e)) hp6, s2.free (s23.free hp6), ⟨p6, _, rfl, upd_same, ?_⟩⟩
          rw [et2, ext1_snoc]
          exact P2.app (P2.mono pb fun v r h => mRow.up (Same.new s23 hp6) h) (P2.mono pa fun v r h => mRow.up (Same.new (Same.refl _) hp6) h)
      · rintro σ H2 ⟨q, v4, v5, rfl, s2, nq, hq⟩
        walk_at "r"
        rw [P2.len pr, List.take_length] at hq
        exact ⟨q, _, _, _, _, rfl, fun b o e => s2 _ _ (s1 b o e), s1.free nq, by rw [et, prodL_snoc]; exact hq⟩
    · rintro σ H1 ⟨p, v2, v3, v4, v5, rfl, s1, np, hrows⟩
      walk_at "r"
      rw [P2.len pm, List.take_length] at hrows
      exact k _ _ s1 np hrows
end
end K9
end
section
set_option Elab.async false
set_option maxRecDepth 100000
set_option maxHeartbeats 8000000
namespace K9
open PySem PySem.Spec L2 EV
theorem prodL_take {ms : List (List Str)} (h : ∀ m ∈ ms, m.length ≤ 3) : ∀ k, k ≤ ms.length → (prodL (ms.take k)).length ≤ 3 ^ k
  | 0, _ => Nat.le_refl _
  | k + 1, hk => by
    have ih := prodL_take h k (by omega)
    have hx : ms[k]? = some ms[k] := List.getElem?_eq_getElem (by omega)
    rw [List.take_add_one, hx, Option.toList_some, prodL_snoc, ext1_len, Nat.pow_succ]
    exact Nat.mul_le_mul ih (h _ (List.getElem_mem _))
theorem prodL_all {ms : List (List Str)} {n : Nat} (h : ∀ m ∈ ms, m.length ≤ 3) (hn : ms.length ≤ n) (k : Nat) : (prodL (ms.take k)).length ≤ 3 ^ n := by
  by_cases hk : k ≤ ms.length
  · exact Nat.le_trans (prodL_take h k hk) (Nat.pow_le_pow_right (by decide) (by omega))
  · have e : ms.take k = ms.take ms.length := by rw [List.take_length, List.take_of_length_le (by omega)]
    rw [e]
    exact Nat.le_trans (prodL_take h _ (Nat.le_refl _)) (Nat.pow_le_pow_right (by decide) hn)
theorem perm_strs {ys : List V} {ns : List Str} (h : ∀ y ∈ ys, y ∈ ns.map V.str) : ∃ zs : List Str, ys = zs.map V.str ∧ zs.length = ys.length := by
  induction ys with
  | nil => exact ⟨[], rfl, rfl⟩
  | cons y t ih =>
    obtain ⟨zs, e, _⟩ := ih fun x hx => h x (List.mem_cons_of_mem _ hx)
    obtain ⟨z, _, ez⟩ := List.mem_map.mp (h y List.mem_cons_self)
    exact ⟨z :: zs, by rw [List.map_cons, ez, e], by rw [List.length_cons, List.length_cons, e, List.length_map]⟩
theorem cut_strs (zs : List Str) (k : Nat) : ∃ c : List Str, cutV (zs.map V.str) none (some (k : Int)) = c.map V.str ∧ c.length ≤ k := by
  refine ⟨(zs.drop 0).take (HT.sIx (zs.map V.str).length (zs.map V.str).length (some (k : Int)) - 0), ?_, ?_⟩
  · unfold cutV
    rw [HT.sIx_none, ← List.map_drop, ← List.map_take]
  · rw [List.length_take, HT.sIx_nat]
    omega
/-- the heap without the two that change -/
def mask (s L : Addr) (H : Hp) : Hp := fun b => if b = s ∨ b = L then none else H b
def Kp (s L : Addr) (H H' : Hp) : Prop := ∀ b o, b ≠ s → b ≠ L → H b = some o → H' b = some o
theorem mask_at {s L b : Addr} {H : Hp} (h1 : b ≠ s) (h2 : b ≠ L) : mask s L H b = H b := by unfold mask; rw [if_neg (by rintro (h | h); exact h1 h; exact h2 h)]
theorem mask_s {s L : Addr} {H : Hp} : mask s L H s = none := by unfold mask; rw [if_pos (.inl rfl)]
theorem mask_L {s L : Addr} {H : Hp} : mask s L H L = none := by unfold mask; rw [if_pos (.inr rfl)]
theorem mask_le {s L : Addr} {H : Hp} : Same (mask s L H) H := fun b o e => by
  by_cases h : b = s ∨ b = L
  · unfold mask at e
    rw [if_pos h] at e
    cases e
  · rw [mask_at (fun x => h (.inl x)) (fun x => h (.inr x))] at e
    exact e
theorem Kp.up {s L : Addr} {H H' : Hp} (k : Kp s L H H') : Same (mask s L H) (mask s L H') := fun b o e => by
  have h : ¬ (b = s ∨ b = L) := fun h => by
    unfold mask at e
    rw [if_pos h] at e
    cases e
  rw [mask_at (fun x => h (.inl x)) (fun x => h (.inr x))] at e ⊢
  exact k b o (fun x => h (.inl x)) (fun x => h (.inr x)) e
theorem Kp.refl {s L : Addr} {H : Hp} : Kp s L H H := fun _ _ _ _ e => e
theorem Kp.trans {s L : Addr} {H H1 H2 : Hp} (a : Kp s L H H1) (b : Kp s L H1 H2) : Kp s L H H2 := fun c o h1 h2 e => b c o h1 h2 (a c o h1 h2 e)
theorem Kp.sb {s L : Addr} {H H1 H2 : Hp} (a : Kp s L H H1) (b : Sb s H1 H2) : Kp s L H H2 := fun c o h1 h2 e => b c o h1 (a c o h1 h2 e)
theorem Kp.same {s L : Addr} {H H1 H2 : Hp} (a : Kp s L H H1) (b : Same H1 H2) : Kp s L H H2 := fun c o h1 h2 e => b c o (a c o h1 h2 e)
theorem Kp.new {s L p : Addr} {H H1 : Hp} {o : HO} (a : Kp s L H H1) (hp : H1 p = none) : Kp s L H (upd H1 p o) := a.same (Same.new (Same.refl _) hp)
theorem Kp.mut {s L : Addr} {H H1 : Hp} {o : HO} (a : Kp s L H H1) : Kp s L H (upd H1 L o) := fun c u h1 h2 e => by rw [upd_ne h2]; exact a c u h1 h2 e
theorem Same.masked {s L : Addr} {G H : Hp} (h : Same G H) (gs : G s = none) (gL : G L = none) : Same G (mask s L H) := fun b o e => by
  rw [mask_at (ne_of_none e gs) (ne_of_none e gL)]
  exact h b o e
theorem rRow.masked {s L : Addr} {H : Hp} {v : V} {r : List Str} {xs ys : List V} (hs : H s = some (.lst xs)) (hL : H L = some (.lst ys)) (h : rRow H v r) : rRow (mask s L H) v r := by
  obtain ⟨p, rfl, hp⟩ := h.at
  refine rRow.of ?_
  rw [mask_at (ne_of hp hs (fun z => nomatch z)) (ne_of hp hL (fun z => nomatch z))]
  exact hp
theorem _root_.EV.Sb.free {s b : Addr} {B H : Hp} (a : Sb s B H) (n : b ≠ s) (h : H b = none) : B b = none := by
  cases e : B b with
  | none => rfl
  | some o => rw [a b o n e] at h; cases h
theorem Kp.sbB {s L : Addr} {B H H' : Hp} (k : Kp s L H H') (a : Sb s B H) (hL : B L = none) : Sb s B H' := fun b o n e => k b o n (ne_of_none e hL) (a b o n e)
theorem P2.of_mem {R : V → α → Prop} : ∀ {ys : List V}, (∀ y ∈ ys, ∃ x, R y x) → ∃ xs, Paired R ys xs
  | [], _ => ⟨[], .nil⟩
  | y :: t, h => by
    obtain ⟨x, hx⟩ := h y List.mem_cons_self
    obtain ⟨xs, q⟩ := P2.of_mem fun z hz => h z (List.mem_cons_of_mem _ hz)
    exact ⟨x :: xs, .cons hx q⟩
theorem P2.snd {α β : Type} {R : α → β → Prop} {S : β → Prop} {xs : List α} {ys : List β} (h : Paired (fun x y => R x y ∧ S y) xs ys) : ∀ y ∈ ys, S y := by
  induction h with
  | nil => intro y hy; cases hy
  | cons r _ ih =>
    intro y hy
    rcases List.mem_cons.mp hy with rfl | hy
    · exact r.2
    · exact ih y hy
theorem fN_bound : ∀ (ms : List (List Str)), (∀ m ∈ ms, m.length ≤ 3) → 2 * fN ms + 1 ≤ 3 ^ (ms.length + 1)
  | [], _ => by decide
  | m :: r, h => by
    have ih := fN_bound r fun x hx => h x (List.mem_cons_of_mem _ hx)
    have hm := h m List.mem_cons_self
    have e : fN (m :: r) = 1 + m.length * fN r := rfl
    rw [e, List.length_cons, Nat.pow_succ]
    have h1 : m.length * fN r ≤ 3 * fN r := Nat.mul_le_mul_right _ hm
    omega
/-- what a drawn problem keeps -/
def Small (n : Nat) (ms : List (List Str)) (ds : List Dem) : Prop := ms.length = n ∧ (∀ m ∈ ms, m.length ≤ 3) ∧ ds.length ≤ 200 ∧ (∀ d ∈ ds, d.1.length ≤ 3 ∧ d.2.length ≤ 100 ∧ ∀ r ∈ d.2, r.length ≤ 3) ∧ WF n ds
local macro_rules | `(tactic| walk_at "hp") => `(tactic| first | assumption | exact upd_same | (refine upd_old ?_ (by assumption); walk_at "hp") | (refine upd_oth (by first | assumption | (apply Ne.symm; assumption)) ?_; walk_at "hp"))
local macro_rules | `(tactic| walk_at "kb") => `(tactic| first | exact kb_NoneType_bool | exact kb_NoneType_int | exact kb_NoneType_str | exact kb_NoneType_dict | exact kb_NoneType_list | exact kb_NoneType_tuple | exact kb_bool_bool | exact kb_bool_int | exact kb_bool_str | exact kb_bool_dict | exact kb_bool_list | exact kb_bool_tuple | exact kb_int_bool | exact kb_int_int | exact kb_int_str | exact kb_int_dict | exact kb_int_list | exact kb_int_tuple | exact kb_str_bool | exact kb_str_int | exact kb_str_str | exact kb_str_dict | exact kb_str_list | exact kb_str_tuple | exact kb_list_bool | exact kb_list_int | exact kb_list_str | exact kb_list_dict | exact kb_list_list | exact kb_list_tuple | exact kb_tuple_bool | exact kb_tuple_int | exact kb_tuple_str | exact kb_tuple_dict | exact kb_tuple_list | exact kb_tuple_tuple)
local macro_rules | `(tactic| walk_at "ty") => `(tactic| first | exact tx_int | exact tx_str | exact tx_non | exact tx_bl | exact tx_lst (by walk_at "hp") | exact tx_tup (by walk_at "hp"))
local macro_rules | `(tactic| walk_at "r1") => `(tactic| first
  | ((with_reducible refine' i_var ?e1 ?_); (case e1 => rfl)) | with_reducible refine i_seq ?_ | with_reducible refine i_c ?_ | with_reducible refine i_op ?_ | with_reducible refine i_I0 ?_
  | with_reducible refine i_asg ?_ | with_reducible refine i_gname ?_ | with_reducible refine i_nil ?_ | with_reducible refine i_cons ?_ | with_reducible refine i_cb ?_ | with_reducible refine i_call ?_
  | with_reducible refine i_test ?_ | with_reducible refine i_tB ?_ | with_reducible refine i_bl ?_ | with_reducible refine i_int ?_ | with_reducible refine i_if ?_ | with_reducible refine i_ifx ?_
  | with_reducible refine i_ret ?_ | with_reducible refine i_retN ?_ | with_reducible refine i_drop ?_ | with_reducible refine i_next ?_ | with_reducible refine i_break ?_ | with_reducible refine i_cont ?_
  | with_reducible refine i_par ?_ | with_reducible refine i_par1 ?_ | with_reducible refine i_and ?_ | with_reducible refine i_or ?_ | with_reducible refine i_not ?_ | with_reducible refine i_truth ?_
  | with_reducible refine i_andV ?_ | with_reducible refine i_orV ?_ | with_reducible refine i_tup ?_ | with_reducible refine i_lst ?_ | with_reducible refine i_un ?_ | with_reducible refine i_U ?_
  | with_reducible refine i_bm ?_ | with_reducible refine i_bm0 ?_ | with_reducible refine i_sl ?_ | with_reducible refine i_nopart ?_ | with_reducible refine i_part ?_ | with_reducible refine i_fld ?_
  | with_reducible refine i_gsub ?_ | with_reducible refine i_gcons ?_ | with_reducible refine i_gnil ?_
  | ((with_reducible refine' i_eq ?e1 ?_); (case e1 => rfl)) | ((with_reducible refine' i_ne ?e1 ?_); (case e1 => rfl))
  | ((with_reducible refine' i_I ?e1 ?_); (case e1 => first | decide | exact .inr ⟨by decide, by decide⟩ | exact ⟨by decide, by decide⟩ | assumption))
  | ((with_reducible refine' i_ixL ?e1 ?e2 ?_); (case e1 => walk_at "hp"); (case e2 => first | rfl | assumption))
  | ((with_reducible refine' i_ixT ?e1 ?e2 ?_); (case e1 => walk_at "hp"); (case e2 => first | rfl | assumption))
  | ((with_reducible refine' i_len ?e1 ?_); (case e1 => walk_at "hp")) | ((with_reducible refine' i_lenT ?e1 ?_); (case e1 => walk_at "hp"))
  | ((with_reducible refine' i_gtup ?e1 ?e2 ?_); (case e1 => walk_at "hp"); (case e2 => rfl))
  | ((with_reducible refine' i_set ?e1 ?e2 ?_); (case e1 => walk_at "hp"); (case e2 => rfl))
  | with_reducible refine i_int1 ?_ | with_reducible refine i_abs1 ?_ | with_reducible refine i_max2 ?_ | with_reducible refine i_min2 ?_ | with_reducible refine i_non ?_ | with_reducible refine i_nnon ?_
  | with_reducible refine i_for ?_ | with_reducible refine i_irng1 ?_ | with_reducible refine i_ilist ?_ | with_reducible refine i_itup ?_ | with_reducible refine i_ienum ?_ | with_reducible refine i_irev ?_ | with_reducible refine i_izip ?_ | with_reducible refine i_lc ?_ | with_reducible refine i_yes ?_ | with_reducible refine i_notV ?_ | ((with_reducible refine' i_isi ?e1 ?e2 ?_); (case e1 => walk_at "ty"); (case e2 => walk_at "kb")) | with_reducible refine i_meth ?_ | with_reducible refine i_make ?_ | with_reducible refine i_din ?_ | with_reducible refine i_dni ?_ | with_reducible refine i_dget ?_ | with_reducible refine i_dcT ?_ | with_reducible refine i_sfld ?_ | with_reducible refine i_chain ?_ | ((with_reducible refine' i_tuple ?e1 ?_); (case e1 => walk_at "hp")) | ((with_reducible refine' i_list ?e1 ?_); (case e1 => walk_at "hp")) | with_reducible refine iteT ?_ | with_reducible refine iteF ?_ | with_reducible refine iteNF ?_ | with_reducible refine iteNT ?_
  | ((with_reducible refine' i_ilistE ?e1 ?_); (case e1 => walk_at "hp")) | ((with_reducible refine' i_itupE ?e1 ?_); (case e1 => walk_at "hp")) | ((with_reducible refine' i_ienumE ?e1 ?_); (case e1 => walk_at "hp")) | ((with_reducible refine' i_irevE ?e1 ?_); (case e1 => walk_at "hp"))
  | ((with_reducible refine' i_rng1 ?e1 ?_); (case e1 => first | omega | decide); (try with_reducible rw [Int.toNat_natCast]))
  | ((with_reducible refine' And.intro ?e1 ?_); (case e1 => first | exact i_ty (by walk_at "hp") | rfl)))
local macro_rules | `(tactic| walk_at "r") => `(tactic| repeat walk_at "r1")

section
variable {P : Program} {w : World} {K : PySem.W.Frag} {mg : Str → Option Value} {base : Heap}
def spProblem : Sp := fun vs H Q _ => ∃ (B D : Hp) (s : Addr) (n most : Nat), vs = [.ref s, .int (n : Int), .int (most : Int)] ∧ Reg D H s ∧ Rng H s ∧ Sb s B H ∧ n ≤ 7 ∧ most ≤ 50 ∧
  ∀ H' D' v ms ds, Reg D' H' s → Same D D' → Rng H' s → Sb s B H' → Small n ms ds → ds.length ≤ 100 → rPairF B D' v (ms, ds) → Q v H'
theorem ok_c_problem (T : Txt K mg) : FnOk P w K mg base CX0 4 T.a_c_problem T.fd_c_problem ["s", "many", "most"] spProblem := by
  refine T.F_c_problem.ok sc_c_problem (fun vs H Q E h => ?_) (fun cdv A outer s H vs Q E hr h => ?_)
  · obtain ⟨_, _, _, _, _, rfl, _⟩ := h; rfl
  · obtain ⟨B, D, s, n, most, rfl, rg, hR, sbB, hn, hmost, k⟩ := h
    have hr1 : Room 1 _ := hr.mono (by decide); have hr2 : Room 2 _ := hr.mono (by decide); have hr3 : Room 3 _ := hr.mono (by decide)
    refine ⟨_, (pss_cons (ps_asg (pe_tup (pa_cons (pe_lst pa_nil) (pa_cons (pe_lst pa_nil) (pa_cons (pe_lst pa_nil) pa_nil)))) (EV.pgT (K := K) (n := 3) rfl rfl (pgs_cons (pg_name (i := 3) sc_c_problem.nd rfl (Or.inr rfl)) (pgs_cons (pg_name (i := 4) sc_c_problem.nd rfl (Or.inr rfl)) (pgs_cons (pg_name (i := 5) sc_c_problem.nd rfl (Or.inl rfl)) pgs_nil)))))
    (pss_cons (ps_set (i := 6) sc_c_problem.nd rfl (Or.inr rfl) (pe_lc (own := [("k", 7)]) rfl sc_c_problem.nd (pi_range1 rfl T.b_range (pa_cons pe_int pa_nil)) (blkOk_by (own := [("k", 7)]) (N := ["s", "many", "most", "used", "menus", "demands", "names", "k", "size", "places", "rows", "j", "p"]) (sc := defScope s_c_problem) (by decide +kernel)) (fun _ _ _ _ _ => (pg_name (i := 7) sc_c_problem.nd rfl (Or.inl rfl))) (fun _ _ _ _ _ => pts_nil) (fun _ _ _ _ _ => (pe_call (ok_name T) hr3 rfl T.m_name T.F_name.kp (bd_name T) .nil pass0 (pa_cons (pv 0) (pa_cons (pv 3) pa_nil))))))
    (pss_cons (ps_for PassesOwn.never rfl (pi_range1 rfl T.b_range (pa_cons (pv 1) pa_nil)) (pg_name (i := 7) sc_c_problem.nd rfl (Or.inl rfl))
      (pss_cons (ps_set (i := 8) sc_c_problem.nd rfl (Or.inl rfl) (EV.peCut (pe_ifExp (pt_cmpR op_lt (pv 1) pe_int (nomark _)) (pe_call (ok_one T) hr2 rfl T.m_one T.F_one.kp (bd_one T) .nil pass0 (pa_cons (pv 0) (pa_cons (pe_lst (pa_cons pe_int (pa_cons pe_int (pa_cons pe_int (pa_cons pe_int (pa_cons pe_int (pa_cons pe_int pa_nil))))))) pa_nil))) (pe_call (ok_one T) hr2 rfl T.m_one T.F_one.kp (bd_one T) .nil pass0 (pa_cons (pv 0) (pa_cons (pe_lst (pa_cons pe_int (pa_cons pe_int (pa_cons pe_int (pa_cons pe_int pa_nil))))) pa_nil))))))
      (pss_one (ps_expr (EV.peBm (K := K) rfl PySem.F.plainAttrs_list PySem.F.slot_list_append PySem.F.type_list_append mt_append (pv 4) (pa_cons (pe_slice (EV.slL (K := K) rfl) (pe_call (ok_shuffled T) hr2 rfl T.m_shuffled T.F_shuffled.kp (bd_shuffled T) .nil pass0 (pa_cons (pv 0) (pa_cons (pv 6) pa_nil))) po_none (po_some (EV.peCut (pe_ifExp (pt_cmpR op_eq (pe_call (ok_pick T) hr1 rfl T.m_pick T.F_pick.kp (bd_pick T) .nil pass0 (pa_cons (pv 0) (pa_cons pe_int pa_nil))) pe_int (nomark _)) pe_int (pv 8))))) pa_nil))))))
    (pss_cons (ps_for PassesOwn.never rfl (pi_range1 rfl T.b_range (pa_cons (pe_call (ok_pick T) hr1 rfl T.m_pick T.F_pick.kp (bd_pick T) .nil pass0 (pa_cons (pv 0) (pa_cons (pe_op op_add (pv 2) pe_int) pa_nil))) pa_nil)) (pg_name (i := 7) sc_c_problem.nd rfl (Or.inl rfl))
      (pss_cons (ps_setLc (i := 9) (own := [("j", 11)]) rfl sc_c_problem.nd rfl rfl (sw_true rfl rfl rfl (by decide +kernel)) (pi_range1 rfl T.b_range (pa_cons (EV.peCut (pe_ifExp (PW.pt (pw_and (pt_cmpR op_gt (pv 1) pe_int (nomark _)) (pw_and1 (pt_cmpR op_gt (pe_call (ok_pick T) hr1 rfl T.m_pick T.F_pick.kp (bd_pick T) .nil pass0 (pa_cons (pv 0) (pa_cons pe_int pa_nil))) pe_int (nomark _))))) (pe_call (ok_one T) hr2 rfl T.m_one T.F_one.kp (bd_one T) .nil pass0 (pa_cons (pv 0) (pa_cons (pe_lst (pa_cons pe_int (pa_cons pe_int (pa_cons pe_int (pa_cons pe_int (pa_cons pe_int pa_nil)))))) pa_nil))) pe_int)) pa_nil)) (blkOk_by (own := [("j", 11)]) (N := ["s", "many", "most", "used", "menus", "demands", "names", "k", "size", "places", "rows", "j", "p"]) (sc := defScope s_c_problem) (by decide +kernel)) (fun _ _ _ _ _ => (pg_name (i := 11) sc_c_problem.nd rfl (Or.inl rfl))) (fun _ _ _ _ _ => pts_nil) (fun _ _ _ _ _ => (pe_call (ok_pick T) hr1 rfl T.m_pick T.F_pick.kp (bd_pick T) .nil pass0 (pa_cons (pv 0) (pa_cons (pv 1) pa_nil)))))
      (pss_cons (ps_set (i := 10) sc_c_problem.nd rfl (Or.inl rfl) (pe_call (ok_half T) hr2 rfl T.m_half T.F_half.kp (bd_half T) .nil pass0 (pa_cons (pv 0) (pa_cons (pe_call (ok_product T) hr1 rfl T.m_product T.F_product.kp (bd_product T) .nil pass0 (pa_cons (pe_lc (own := [("p", 12)]) rfl sc_c_problem.nd (EV.piL (K := K) rfl (pv 9)) (blkOk_by (own := [("p", 12)]) (N := ["s", "many", "most", "used", "menus", "demands", "names", "k", "size", "places", "rows", "j", "p"]) (sc := defScope s_c_problem) (by decide +kernel)) (fun _ _ _ _ _ => (pg_name (i := 12) sc_c_problem.nd rfl (Or.inl rfl))) (fun _ _ _ _ _ => pts_nil) (fun _ _ _ _ _ => (pe_ix (EV.ixL (K := K) rfl) (pv 4) (pv 12) (fun _ _ => rfl)))) pa_nil)) (pa_cons (pe_call (ok_one T) hr2 rfl T.m_one T.F_one.kp (bd_one T) .nil pass0 (pa_cons (pv 0) (pa_cons (pe_lst (pa_cons pe_int (pa_cons pe_int (pa_cons pe_int pa_nil)))) pa_nil))) (pa_cons pe_int pa_nil))))))
      (EV.pssCut (ps_if (pt_cmpR op_eq (pe_call (ok_pick T) hr1 rfl T.m_pick T.F_pick.kp (bd_pick T) .nil pass0 (pa_cons (pv 0) (pa_cons pe_int pa_nil))) pe_int (nomark _))
        (pss_one (ps_set (i := 10) sc_c_problem.nd rfl (Or.inl rfl) (pe_op op_cat (pv 10) (pe_lst (pa_cons (pe_callTy (EV.cTuple (K := K) rfl) (by rfl) T.b_tuple (by decide +kernel) (pa_cons (pe_lc (own := [("p", 12)]) rfl sc_c_problem.nd (EV.piL (K := K) rfl (pv 9)) (blkOk_by (own := [("p", 12)]) (N := ["s", "many", "most", "used", "menus", "demands", "names", "k", "size", "places", "rows", "j", "p"]) (sc := defScope s_c_problem) (by decide +kernel)) (fun _ _ _ _ _ => (pg_name (i := 12) sc_c_problem.nd rfl (Or.inl rfl))) (fun _ _ _ _ _ => pts_nil) (fun _ _ _ _ _ => (pe_call (ok_one T) hr2 rfl T.m_one T.F_one.kp (bd_one T) .nil pass0 (pa_cons (pv 0) (pa_cons (pe_op op_cat (pv 6) (pe_lst (pa_cons pe_str pa_nil))) pa_nil))))) pa_nil)) pa_nil)))))
        pss_nil)
      (pss_one (ps_expr (EV.peBm (K := K) rfl PySem.F.plainAttrs_list PySem.F.slot_list_append PySem.F.type_list_append mt_append (pv 5) (pa_cons (pe_tup (pa_cons (pv 9) (pa_cons (pe_call (ok_shuffled T) hr2 rfl T.m_shuffled T.F_shuffled.kp (bd_shuffled T) .nil pass0 (pa_cons (pv 0) (pa_cons (pv 10) pa_nil))) pa_nil))) pa_nil))))))))
    (pss_one (ps_ret (pe_tup (pa_cons (pv 4) (pa_cons (pv 5) pa_nil))))))))), ?_⟩
    walk_at "r"
    refine ⟨szb rfl, fun u hu => ?_⟩
    walk_at "r"
    refine ⟨szb rfl, fun M hM => ?_⟩
    walk_at "r"
    refine ⟨szb rfl, fun L hL => ?_⟩
    walk_at "r"
    refine ⟨szb rfl, fun T0 hT0 => ?_⟩
    obtain ⟨hM1, nMu⟩ := upd_non hM
    obtain ⟨hL1, nLM⟩ := upd_non hL
    obtain ⟨hL2, nLu⟩ := upd_non hL1
    have rg0 := ((((rg.new (o := .lst []) hu).new (o := .lst []) hM).new (o := .lst []) hL).new (o := .tup [.ref u, .ref M, .ref L]) hT0)
    have hR0 := ((((hR.new (o := .lst []) hu).new (o := .lst []) hM).new (o := .lst []) hL).new (o := .tup [.ref u, .ref M, .ref L]) hT0)
    have nus : u ≠ s := hR.ne hu
    have nMs : M ≠ s := (hR.new hu).ne hM
    have nLs : L ≠ s := ((hR.new hu).new hM).ne hL
    have sb0 := ((((sbB.new (o := .lst []) hu).new (o := .lst []) hM).new (o := .lst []) hL).new (o := .tup [.ref u, .ref M, .ref L]) hT0)
    have Bu := sbB.free nus hu
    have BM := sbB.free nMs hM1
    have BL := sbB.free nLs hL2
    have Du := rg.free hu
    have DM := rg.free hM1
    have DL := rg.free hL2
    have eu := upd_old (o := .tup [.ref u, .ref M, .ref L]) (upd_old (o := .lst []) (upd_old (o := .lst []) (upd_same (H := H) (a := u) (o := .lst [])) hM) hL) hT0
    have eM := upd_old (o := .tup [.ref u, .ref M, .ref L]) (upd_old (o := .lst []) (upd_same (H := upd H u (.lst [])) (a := M) (o := .lst [])) hL) hT0
    have eL := upd_old (o := .tup [.ref u, .ref M, .ref L]) (upd_same (H := upd (upd H u (.lst [])) M (.lst [])) (a := L) (o := .lst [])) hT0
    walk_at "r"
    generalize upd (upd (upd (upd H u (.lst [])) M (.lst [])) L (.lst [])) T0 (.tup [.ref u, .ref M, .ref L]) = H0 at rg0 hR0 sb0 eu eM eL ⊢
    intro De hDe
    have nDs : De ≠ s := hR0.ne hDe
    have nDu : De ≠ u := (ne_of_none eu hDe).symm
    have nDM : De ≠ M := (ne_of_none eM hDe).symm
    have nDL : De ≠ L := (ne_of_none eL hDe).symm
    have DDe := rg0.free hDe
    have BDe := sb0.free nDs hDe
    refine lc_range (n := 5) (fun i H' => ∃ ns acc : List Str, Reg D H' s ∧ Sb s B H' ∧ Rng H' s ∧ H' u = some (.lst (ns.map V.str)) ∧ ns.length = i ∧ H' M = some (.lst []) ∧ H' L = some (.lst []) ∧ H' De = some (.lst (acc.map V.str)) ∧ acc.length = i)
      ⟨[], [], rg0.new hDe, sb0.new hDe, hR0.new hDe, upd_old eu hDe, rfl, upd_old eM hDe, upd_old eL hDe, upd_same, rfl⟩ ?_ ?_
    · rintro i H1 hi ⟨ns, acc, rg1, sb1, hR1, eu1, hns, eM1, eL1, eD1, hacc⟩
      walk_at "r"
      refine ⟨_, _, ns, rfl, hR1, eu1, nus, by omega, fun H2 wd keep hR2 eu2 _ => ?_⟩
      have rg2 : Reg D H2 s := ⟨fun b o e => keep b o (rg1.ne e) (ne_of_none e Du) (rg1.same _ _ e), rg1.out⟩
      have sb2 : Sb s B H2 := fun b o n e => keep b o n (ne_of_none e Bu) (sb1 b o n e)
      walk_at "r"
      refine ⟨_, keep _ _ nDs nDu eD1, sz4' (by rw [List.length_map]; omega), ?_⟩
      exact ⟨ns ++ [wd], acc ++ [wd], rg2.mut DDe, sb2.mut BDe, hR2.other nDs.symm, upd_oth nDu.symm eu2, by rw [List.length_append, hns]; rfl, upd_oth nDM.symm (keep _ _ nMs nMu eM1), upd_oth nDL.symm (keep _ _ nLs nLu eL1), by rw [upd_same, List.map_append]; rfl, by rw [List.length_append, hacc]; rfl⟩
    · rintro H1 ⟨ns, names, rg1, sb1, hR1, eu1, hns, eM1, eL1, eD1, hnames⟩
      have rgA := rg1.add eD1 DDe nDs
      have gDe : upd D De (.lst (names.map V.str)) De = some (.lst (names.map V.str)) := upd_same
      have gM : upd D De (.lst (names.map V.str)) M = none := by rw [upd_ne nDM.symm]; exact DM
      have gL : upd D De (.lst (names.map V.str)) L = none := by rw [upd_ne nDL.symm]; exact DL
      have gD : Same D (upd D De (.lst (names.map V.str))) := same_add DDe
      generalize upd D De (.lst (names.map V.str)) = G1 at rgA gDe gM gL gD
      walk_at "r"
      refine for_range (n := n) (fun i σ H' => ∃ (v7 v8 v9 v10 v11 v12 : Option V) (G : Hp) (mvs : List V) (ms : List (List Str)), σ = [some (.ref s), some (.int n), some (.int most), some (.ref u), some (.ref M), some (.ref L), some (.ref De), v7, v8, v9, v10, v11, v12] ∧
          Reg G H' s ∧ Sb s B H' ∧ Same G1 G ∧ Rng H' s ∧ G M = none ∧ G L = none ∧ H' M = some (.lst mvs) ∧ Paired (fr B rStrs G) mvs ms ∧ H' L = some (.lst []) ∧ ms.length = i ∧ ∀ m ∈ ms, m.length ≤ 3)
        ⟨_, _, _, _, _, _, G1, [], [], rfl, rgA, sb1, Same.refl _, hR1, gM, gL, eM1, .nil, eL1, rfl, fun _ h => nomatch h⟩ ?_ ?_
      · rintro i σ H2 hi ⟨v7, v8, v9, v10, v11, v12, G, mvs, ms, rfl, rg2, sbI, sG, hR2, gM2, gL2, eM2, pm, eL2, hml, hm3⟩
        walk_at "r"
        refine i_cut (fun v H' => ∃ j : Nat, v = .int (j : Int) ∧ j ≤ 3 ∧ Sb s H2 H' ∧ Rng H' s) ?_ ?_
        · walk_at "r"
          refine ite_b (fun _ => ?_) (fun _ => ?_)
          · walk_at "r"
            refine ⟨szb rfl, fun p hp => ?_⟩
            walk_at "r"
            refine ⟨_, _, _, rfl, hR2.new hp, upd_same, hR2.ne hp, by decide, by decide, fun H3 v3 sb3 hR3 hv3 => ?_⟩
            have sb := (Sb.refl s H2).new (o := .lst [.int 1, .int 2, .int 2, .int 2, .int 3, .int 3]) hp
            simp only [List.mem_cons, List.not_mem_nil, or_false] at hv3
            rcases hv3 with e | e | e | e | e | e <;> subst e <;> first | exact ⟨1, rfl, by decide, sb.trans sb3, hR3⟩ | exact ⟨2, rfl, by decide, sb.trans sb3, hR3⟩ | exact ⟨3, rfl, by decide, sb.trans sb3, hR3⟩
          · walk_at "r"
            refine ⟨szb rfl, fun p hp => ?_⟩
            walk_at "r"
            refine ⟨_, _, _, rfl, hR2.new hp, upd_same, hR2.ne hp, by decide, by decide, fun H3 v3 sb3 hR3 hv3 => ?_⟩
            have sb := (Sb.refl s H2).new (o := .lst [.int 1, .int 2, .int 2, .int 2]) hp
            simp only [List.mem_cons, List.not_mem_nil, or_false] at hv3
            rcases hv3 with e | e | e | e <;> subst e <;> first | exact ⟨1, rfl, by decide, sb.trans sb3, hR3⟩ | exact ⟨2, rfl, by decide, sb.trans sb3, hR3⟩
        · rintro v H3 ⟨j, rfl, hj, sb3, hR3⟩
          have rg3 := rg2.sb sb3
          have eM3 := sb3 _ _ nMs eM2
          have eL3 := sb3 _ _ nLs eL2
          have eD3 := rg3.same _ _ (sG _ _ gDe)
          walk_at "r"
          refine ⟨_, _, _, rfl, hR3, eD3, nDs, by rw [List.length_map]; omega, fun H4 q ys sb4 hR4 hq hq4 hperm => ?_⟩
          have nqs : q ≠ s := hR3.ne hq
          obtain ⟨zs, rfl, _⟩ := perm_strs fun y hy => hperm.subset hy
          walk_at "r"
          refine i_cut (fun v H' => ∃ j : Nat, v = .int (j : Int) ∧ j ≤ 3 ∧ Sb s H4 H' ∧ Rng H' s) ?_ ?_
          · walk_at "r"
            refine ⟨_, _, rfl, hR4, by decide, fun H5 r sb5 hR5 r0 r1 => ?_⟩
            walk_at "r"
            refine ite_b (fun _ => ?_) (fun _ => ?_)
            · walk_at "r"
              exact ⟨0, rfl, by decide, sb5, hR5⟩
            · walk_at "r"
              exact ⟨j, rfl, hj, sb5, hR5⟩
          · rintro v H5 ⟨j2, rfl, hj2, sb5, hR5⟩
            walk_at "r"
            have sb45 : Sb s H3 H5 := sb4.trans sb5
            have rg5 := rg3.sb sb45
            have eM5 := sb45 _ _ nMs eM3
            have eL5 := sb45 _ _ nLs eL3
            refine ⟨q, _, rfl, SqL.of (sb5 _ _ nqs hq4), fun p6 hp6 => ?_⟩
            obtain ⟨c, ec, hc⟩ := cut_strs zs j2
            rw [ec]
            have np6M : p6 ≠ M := (ne_of_none eM5 hp6).symm
            have np6L : p6 ≠ L := (ne_of_none eL5 hp6).symm
            have gp6 := rg5.free hp6
            have hmv := P2.len pm
            have sbI5 := (sbI.trans sb3).trans sb45
            have Bp6 := sbI5.free (hR5.ne hp6) hp6
            walk_at "r"
            refine i_app (upd_old eM5 hp6) (sz4' (by omega)) ?_
            walk_at "r"
            have rg6 := ((rg5.new (o := .lst (c.map V.str)) hp6).mut (o := .lst (mvs ++ [.ref p6])) gM2).add (o := .lst (c.map V.str)) (upd_oth np6M upd_same) gp6 (hR5.ne hp6)
            refine ⟨_, _, _, _, _, _, _, mvs ++ [.ref p6], ms ++ [c], rfl, rg6, (sbI5.new hp6).mut BM, fun b o e => same_add gp6 _ _ (sG _ _ e), (hR5.new hp6).other nMs.symm, by rw [upd_ne np6M.symm]; exact gM2, by rw [upd_ne np6L.symm]; exact gL2, upd_same, ?_, upd_oth nLM (upd_old eL5 hp6), by rw [List.length_append, hml]; rfl, ?_⟩
            · exact P2.snoc (P2.mono pm fun _ _ h => (mFr mStrs).up (same_add gp6) h) ⟨rStrs.of upd_same, p6, rfl, Bp6⟩
            · intro m hm
              rcases List.mem_append.mp hm with hm | hm
              · exact hm3 m hm
              · rw [List.mem_singleton] at hm
                subst hm
                omega
      · rintro σ H2 ⟨v7, v8, v9, v10, v11, v12, G, mvs, ms, rfl, rg2, sbI, sG, hR2, gM2, gL2, eM2, pm, eL2, hml, hm3⟩
        have rgM := rg2.add eM2 gM2 nMs
        have sM : Same G (upd G M (.lst mvs)) := same_add gM2
        have gL3 : upd G M (.lst mvs) L = none := by rw [upd_ne nLM]; exact gL2
        have hMen : rL (fr B rStrs) (mask s L H2) (.ref M) ms := (mL (mFr mStrs)).up (Same.masked rgM.same rgM.out gL3) ⟨M, mvs, rfl, upd_same, P2.mono pm fun _ _ h => (mFr mStrs).up sM h⟩
        have hNam : rStrs (mask s L H2) (.ref De) names := rStrs.of (Same.masked rg2.same rg2.out gL2 _ _ (sG _ _ gDe))
        have sDm : Same D (mask s L H2) := fun b o e => Same.masked rg2.same rg2.out gL2 _ _ (sG _ _ (gD _ _ e))
        clear rgM sM gL3 pm eM2 rg2 gM2 gL2 sG
        walk_at "r"
        refine ⟨_, _, rfl, hR2, by omega, fun H3 r sb3 hR3 r0 r1 => ?_⟩
        walk_at "r"
        have eL3 := sb3 _ _ nLs eL2
        have k3 : Kp s L H2 H3 := Kp.refl.sb sb3
        have hMen3 := (mL (mFr mStrs)).up k3.up hMen
        have sbI3 := sbI.trans sb3
        have hNam3 := mStrs.up k3.up hNam
        have sDm3 := sDm.trans k3.up
        refine for_range (n := r.toNat) (fun i σ H' => ∃ (v7 v8 v9 v10 v11 v12 : Option V) (dvs : List V) (ds : List Dem), σ = [some (.ref s), some (.int n), some (.int most), some (.ref u), some (.ref M), some (.ref L), some (.ref De), v7, v8, v9, v10, v11, v12] ∧
            Rng H' s ∧ Sb s B H' ∧ H' L = some (.lst dvs) ∧ rL (fr B rStrs) (mask s L H') (.ref M) ms ∧ rStrs (mask s L H') (.ref De) names ∧ Same D (mask s L H') ∧ Paired (rDemF B (mask s L H')) dvs ds ∧ ds.length = i ∧ (∀ d ∈ ds, d.1.length ≤ 3 ∧ d.2.length ≤ 100 ∧ ∀ r ∈ d.2, r.length ≤ 3) ∧ WF n ds)
          ⟨_, _, _, _, _, _, [], [], rfl, hR3, sbI3, eL3, hMen3, hNam3, sDm3, .nil, rfl, (fun _ h => by cases h), (fun _ h => by cases h)⟩ ?_ ?_
        · clear sbI3 hMen3 hNam3 sDm3 eL3 hR3 sb3 k3 hMen hNam sDm eL2 hR2 sbI v7 v8 v9 v10 v11 v12
          rintro i σ H3 hi ⟨v7, v8, v9, v10, v11, v12, dvs, ds, rfl, hR3, sbI, eL3, hMen, hNam, sDm, pd, hdl, hdz, hwf⟩
          walk_at "r"
          refine i_cut (fun v H' => ∃ c : Nat, v = .int (c : Int) ∧ c ≤ 3 ∧ (0 < n ∨ c = 0) ∧ Sb s H3 H' ∧ Rng H' s) ?_ ?_
          · walk_at "r"
            refine ite_b (fun h0 => ?_) (fun h0 => ?_)
            · have h0 := of_decide_eq_true h0
              walk_at "r"
              refine ⟨_, _, rfl, hR3, by decide, fun H4 r4 sb4 hR4 _ _ => ?_⟩
              walk_at "r"
              refine ite_b (fun _ => ?_) (fun _ => ?_)
              · walk_at "r"
                refine ⟨szb rfl, fun p hp => ?_⟩
                walk_at "r"
                refine ⟨_, _, _, rfl, hR4.new hp, upd_same, hR4.ne hp, by decide, by decide, fun H5 v5 sb5 hR5 hv5 => ?_⟩
                have sb := sb4.new (o := .lst [.int 1, .int 2, .int 2, .int 2, .int 3]) hp
                simp only [List.mem_cons, List.not_mem_nil, or_false] at hv5
                rcases hv5 with e | e | e | e | e <;> subst e <;> first | exact ⟨1, rfl, by decide, .inl (by omega), sb.trans sb5, hR5⟩ | exact ⟨2, rfl, by decide, .inl (by omega), sb.trans sb5, hR5⟩ | exact ⟨3, rfl, by decide, .inl (by omega), sb.trans sb5, hR5⟩
              · walk_at "r"
                exact ⟨0, rfl, by decide, .inr rfl, sb4, hR4⟩
            · walk_at "r"
              exact ⟨0, rfl, by decide, .inr rfl, Sb.refl _ _, hR3⟩
          · rintro v H4 ⟨c, rfl, hc, hcn, sb4, hR4⟩
            have k4 : Kp s L H3 H4 := Kp.refl.sb sb4
            have eL4 := sb4 _ _ nLs eL3
            walk_at "r"
            intro D4 hD4
            have nD4s : D4 ≠ s := hR4.ne hD4
            have nD4L : D4 ≠ L := (ne_of_none eL4 hD4).symm
            have BD4 := (sbI.trans sb4).free nD4s hD4
            refine lc_range (n := c) (fun i H' => ∃ ps : List Nat, Kp s L H3 H' ∧ Rng H' s ∧ H' L = some (.lst dvs) ∧ H' D4 = some (.lst (ps.map fun n : Nat => V.int (n : Int))) ∧ ps.length = i ∧ ∀ p ∈ ps, p < n)
              ⟨[], k4.new hD4, hR4.new hD4, upd_old eL4 hD4, upd_same, rfl, fun _ h => nomatch h⟩ ?_ ?_
            · rintro i2 H5 hi2 ⟨ps, k5, hR5, eL5, eD5, hps, hpn⟩
              walk_at "r"
              refine ⟨_, _, rfl, hR5, by omega, fun H6 r6 sb6 hR6 r60 r61 => ?_⟩
              have k6 := k5.sb sb6
              walk_at "r"
              refine ⟨_, sb6 _ _ nD4s eD5, sz4' (by rw [List.length_map]; omega), ps ++ [r6.toNat], ?_, hR6.other nD4s.symm, upd_oth nD4L.symm (sb6 _ _ nLs eL5), ?_, by rw [List.length_append, hps]; rfl, ?_⟩
              · intro b o h1 h2 e
                have nb : b ≠ D4 := by
                  rintro rfl
                  rw [sb4 _ _ h1 e] at hD4
                  cases hD4
                rw [upd_ne nb]
                exact k6 b o h1 h2 e
              · rw [upd_same, List.map_append, List.map_cons, List.map_nil, Int.toNat_of_nonneg r60]
              · intro p hp
                rcases List.mem_append.mp hp with hp | hp
                · exact hpn p hp
                · rw [List.mem_singleton] at hp
                  subst hp
                  omega
            · rintro H5 ⟨ps, k5, hR5, eL5, eD5, hps, hpn⟩
              have hPl : rNats (mask s L H5) (.ref D4) ps := rNats.of (by rw [mask_at nD4s nD4L]; exact eD5)
              have hMen5 := (mL (mFr mStrs)).up k5.up hMen
              obtain ⟨M', mvs5, e, hM5, pm5⟩ := hMen5
              cases e
              have hM5' := mask_le _ _ hM5
              have hmvl := P2.len pm5
              walk_at "r"
              intro D5 hD5
              refine lc_mapL (S := rStrs) (ys' := ps.map fun p => ms.getD p []) mStrs (mask_le (s := s) (L := L) (H := H5)) eD5 (by simp) (by simp; omega) hD5 ?_ ?_
              · intro j v y G H6 hv hy g k2 hk2
                rw [List.getElem?_map] at hv hy
                obtain ⟨p, hp, rfl⟩ := Option.map_eq_some_iff.mp hv
                rw [hp] at hy
                cases hy
                have hpn' := hpn p (List.mem_of_getElem? hp)
                have hmp : ms[p]? = some (ms.getD p []) := by rw [List.getD_eq_getElem?_getD, List.getElem?_eq_getElem (by omega)]; rfl
                obtain ⟨mx, hmx, hmr⟩ := P2.at pm5 hmp
                obtain ⟨lm, rfl, hlm⟩ := hmr.1.at
                have hM6 := g.hh _ _ hM5'
                walk_at "r"
                refine i_ixL hM6 (atI_nat hmx) ?_
                exact hk2 _ G H6 (Grow.refl g.gh) (mStrs.up g.gg hmr.1)
              · intro H6 G acc g gd ed pa
                have hR6 : Rng H6 s := by
                  obtain ⟨a1, a2, a3, e⟩ := hR5
                  exact ⟨a1, a2, a3, g.hh _ _ e⟩
                have k6 : Kp s L H3 H6 := k5.same g.hh
                have eL6 := g.hh _ _ eL5
                have hp3 : ∀ m ∈ ps.map (fun p => ms.getD p []), m.length ≤ 3 := by
                  intro m hm
                  obtain ⟨p, hp, rfl⟩ := List.mem_map.mp hm
                  have hpn' := hpn p hp
                  rw [List.getD_eq_getElem?_getD, List.getElem?_eq_getElem (by omega)]
                  exact hm3 _ (List.getElem_mem _)
                have hpb : ∀ k, (prodL ((ps.map fun p => ms.getD p []).take k)).length ≤ 27 := fun k => prodL_all (n := 3) hp3 (by rw [List.length_map]; omega) k
                walk_at "r"
                refine ⟨_, _, rfl, ⟨D5, acc, rfl, ed, P2.mono pa fun _ _ h => mStrs.up g.gh h⟩, by rw [List.length_map]; omega, fun k => Nat.le_trans (hpb k) (by decide), fun H7 q s7 hq hrows => ?_⟩
                have hrl : (prodL (ps.map fun p => ms.getD p [])).length ≤ 27 := by
                  have := hpb (ps.map fun p => ms.getD p []).length
                  rw [List.take_length] at this
                  exact this
                have hrl3 : ∀ r ∈ prodL (ps.map fun p => ms.getD p []), r.length ≤ 3 := fun r hr => by rw [prodL_len _ _ hr, List.length_map]; omega
                generalize prodL (ps.map fun p => ms.getD p []) = prow at hrows hrl hrl3
                obtain ⟨q', rvs, e, hq7, pr⟩ := hrows
                cases e
                have hrvl := P2.len pr
                have hR7 : Rng H7 s := by
                  obtain ⟨a1, a2, a3, e⟩ := hR6
                  exact ⟨a1, a2, a3, s7 _ _ e⟩
                have nqs : q ≠ s := hR6.ne hq
                have nqL : q ≠ L := (ne_of_none eL6 hq).symm
                have eL7 := s7 _ _ eL6
                have k7 := k6.same s7
                walk_at "r"
                refine ⟨szb rfl, fun p8 hp8 => ?_⟩
                walk_at "r"
                refine ⟨_, _, _, rfl, hR7.new hp8, upd_same, hR7.ne hp8, by decide, by decide, fun H9 v9 sb9 hR9 hv9 => ?_⟩
                have sb79 : Sb s H7 H9 := ((Sb.refl s H7).new hp8).trans sb9
                obtain ⟨od, rfl⟩ : ∃ od : Int, v9 = .int od := by
                  simp only [List.mem_cons, List.not_mem_nil, or_false] at hv9
                  rcases hv9 with e | e | e <;> exact ⟨_, e⟩
                walk_at "r"
                refine ⟨_, q, rvs, _, _, rfl, hR9, sb79 _ _ nqs hq7, nqs, by omega, by decide, fun H10 q2 ys sb10 hR10 hq2 eq2 hsub => ?_⟩
                have sb710 := sb79.trans sb10
                have k710 : Kp s L H7 H10 := Kp.refl.sb sb710
                have k10 := k7.sb sb710
                have eL10 := sb710 _ _ nLs eL7
                have nq2s : q2 ≠ s := hR9.ne hq2
                have nq2L : q2 ≠ L := (ne_of_none (sb79 _ _ nLs eL7) hq2).symm
                have hysl := hsub.length_le
                have hys : ∀ y ∈ ys, ∃ x, rRow (mask s L H10) y x ∧ x.length ≤ 3 := by
                  intro y hy
                  obtain ⟨r7, hm7, hr7⟩ := P2.mem pr (hsub.subset hy)
                  obtain ⟨a1, a2, a3, e⟩ := hR7
                  exact ⟨r7, mRow.up k710.up (rRow.masked e eL7 hr7), hrl3 _ hm7⟩
                have eD10 : H10 D4 = some (.lst (ps.map fun n : Nat => V.int (n : Int))) := k710 _ _ nD4s nD4L (s7 _ _ (g.hh _ _ eD5))
                have hNam10 := mStrs.up k10.up hNam
                have eDe10 : H10 De = some (.lst (names.map V.str)) := by
                  obtain ⟨De', e, h⟩ := hNam10.at
                  cases e
                  exact mask_le _ _ h
                have nDeL : De ≠ L := nDL
                walk_at "r"
                refine i_mid (fun σ' H' => ∃ (q3 : Addr) (ys3 : List V) (v7 v8 v11 v12 : Option V), σ' = [some (.ref s), some (.int n), some (.int most), some (.ref u), some (.ref M), some (.ref L), some (.ref De), v7, v8, some (.ref D4), some (.ref q3), v11, v12] ∧
                  Kp s L H10 H' ∧ Rng H' s ∧ H' L = some (.lst dvs) ∧ H' q3 = some (.lst ys3) ∧ q3 ≠ s ∧ q3 ≠ L ∧ ys3.length ≤ 28 ∧ ∀ y ∈ ys3, ∃ x, rRow (mask s L H') y x ∧ x.length ≤ 3) ?_ ?_
                · walk_at "r"
                  refine ⟨_, _, rfl, hR10, by decide, fun H11 r11 sb11 hR11 _ _ => ?_⟩
                  have k11 : Kp s L H10 H11 := Kp.refl.sb sb11
                  have eL11 := sb11 _ _ nLs eL10
                  have eD11 := k11 _ _ nD4s nD4L eD10
                  have eDe11 := k11 _ _ nDs nDeL eDe10
                  have eq11 := k11 _ _ nq2s nq2L eq2
                  walk_at "r"
                  refine ite_b (fun _ => ?_) (fun _ => ?_)
                  · walk_at "r"
                    intro D6 hD6
                    have nD6s : D6 ≠ s := hR11.ne hD6
                    have nD6L : D6 ≠ L := (ne_of_none eL11 hD6).symm
                    refine lc_list (xs := ps.map fun n : Nat => V.int (n : Int)) (fun i H' => ∃ acc : List Str, Kp s L H11 H' ∧ Rng H' s ∧ H' L = some (.lst dvs) ∧ H' D6 = some (.lst (acc.map V.str)) ∧ acc.length = i)
                      ⟨[], Kp.refl.new hD6, hR11.new hD6, upd_old eL11 hD6, upd_same, rfl⟩ (fun i H' _ ⟨_, k12, _⟩ => SqL.of (k12 _ _ nD4s nD4L eD11)) ?_ ?_
                    · rintro i2 x H12 hx ⟨acc2, k12, hR12, eL12, eD12, hacc2⟩
                      have hi2 := (List.getElem?_eq_some_iff.mp hx).1
                      rw [List.length_map] at hi2
                      have eDe12 := k12 _ _ nDs nDeL eDe11
                      walk_at "r"
                      refine ⟨szb rfl, fun p13 hp13 => ?_⟩
                      refine i_cat (upd_old eDe12 hp13) upd_same (by rw [List.length_map]; show _ + 1 ≤ _; omega) fun p14 hp14 => ?_
                      walk_at "r"
                      refine ⟨_, _, _, rfl, (hR12.new hp13).new hp14, upd_same, (hR12.new hp13).ne hp14, by rw [List.length_append]; show 0 < _ + 1; omega, by rw [List.length_append, List.length_map]; show _ + 1 < _; omega, fun H15 v15 sb15 hR15 hv15 => ?_⟩
                      obtain ⟨x15, rfl⟩ : ∃ x15, v15 = V.str x15 := by
                        rcases List.mem_append.mp hv15 with h | h
                        · obtain ⟨z, _, e⟩ := List.mem_map.mp h
                          exact ⟨z, e.symm⟩
                        · rw [List.mem_singleton] at h
                          exact ⟨_, h⟩
                      have sb1215 : Sb s H12 H15 := (((Sb.refl s H12).new hp13).new hp14).trans sb15
                      have k15 := k12.sb sb1215
                      walk_at "r"
                      refine ⟨_, sb1215 _ _ nD6s eD12, sz4' (by rw [List.length_map]; omega), acc2 ++ [x15], ?_, hR15.other nD6s.symm, upd_oth nD6L.symm (sb1215 _ _ nLs eL12), ?_, by rw [List.length_append, hacc2]; rfl⟩
                      · intro b o h1 h2 e
                        rw [upd_ne (ne_of_none e hD6)]
                        exact k15 b o h1 h2 e
                      · rw [upd_same, List.map_append]
                        rfl
                    · rintro H14 ⟨acc2, k14, hR14, eL14, eD14, hacc2⟩
                      have eq14 := k14 _ _ nq2s nq2L eq11
                      walk_at "r"
                      intro tp htp
                      walk_at "r"
                      refine ⟨szb rfl, fun p9 hp9 => ?_⟩
                      have et9 := upd_old (o := .lst [.ref tp]) (upd_same (H := H14) (a := tp) (o := .tup (acc2.map V.str))) hp9
                      have eq9 := upd_old (o := .lst [.ref tp]) (upd_old (o := .tup (acc2.map V.str)) eq14 htp) hp9
                      refine i_cat eq9 upd_same (by show _ + 1 ≤ _; omega) fun q4 hq4 => ?_
                      have kN : Kp s L H14 (upd (upd (upd H14 tp (.tup (acc2.map V.str))) p9 (.lst [.ref tp])) q4 (.lst (ys ++ [.ref tp]))) := ((Kp.refl.new htp).new hp9).new hq4
                      have hRN := ((hR14.new (o := .tup (acc2.map V.str)) htp).new (o := .lst [.ref tp]) hp9).new (o := .lst (ys ++ [.ref tp])) hq4
                      have eLN := upd_old (o := .lst (ys ++ [.ref tp])) (upd_old (o := .lst [.ref tp]) (upd_old (o := .tup (acc2.map V.str)) eL14 htp) hp9) hq4
                      have etN := upd_old (o := .lst (ys ++ [.ref tp])) et9 hq4
                      walk_at "r"
                      refine ⟨q4, _, _, _, _, _, rfl, (k11.trans k14).trans kN, hRN, eLN, upd_same, ((hR14.new htp).new hp9).ne hq4, (ne_of_none (upd_old (upd_old eL14 htp) hp9) hq4).symm, by rw [List.length_append]; show _ + 1 ≤ _; omega, ?_⟩
                      intro y hy
                      rcases List.mem_append.mp hy with hy | hy
                      · obtain ⟨x, hx, hx3⟩ := hys y hy
                        exact ⟨x, mRow.up ((k11.trans k14).trans kN).up hx, hx3⟩
                      · rw [List.mem_singleton] at hy
                        subst hy
                        obtain ⟨a1, a2, a3, e⟩ := hRN
                        exact ⟨acc2, rRow.masked e eLN (rRow.of etN), by rw [hacc2, List.length_map]; omega⟩
                  · walk_at "r"
                    exact ⟨q2, ys, _, _, _, _, rfl, k11, hR11, eL11, eq11, nq2s, nq2L, by omega, fun y hy => by
                      obtain ⟨x, hx, hx3⟩ := hys y hy
                      exact ⟨x, mRow.up k11.up hx, hx3⟩⟩
                · rintro σ H15 ⟨q3, ys3, v7, v8, v11, v12, rfl, k15, hR15, eL15, eq15, nq3s, nq3L, hyl3, hys3⟩
                  walk_at "r"
                  refine ⟨_, q3, ys3, rfl, hR15, eq15, nq3s, by omega, fun H16 q5 ys5 sb16 hR16 hq5 eq5 hperm => ?_⟩
                  have k16 : Kp s L H15 H16 := Kp.refl.sb sb16
                  have eL16 := sb16 _ _ nLs eL15
                  have nq5s : q5 ≠ s := hR15.ne hq5
                  have nq5L : q5 ≠ L := (ne_of_none eL15 hq5).symm
                  have hdvl := P2.len pd
                  have sb15 : Sb s B H15 := (k10.trans k15).sbB sbI BL
                  have Bq5 := sb15.free nq5s hq5
                  walk_at "r"
                  refine ⟨szb rfl, fun T5 hT5 => ?_⟩
                  have nT5s : T5 ≠ s := hR16.ne hT5
                  have nT5L : T5 ≠ L := (ne_of_none eL16 hT5).symm
                  walk_at "r"
                  refine i_app (upd_old eL16 hT5) (sz4' (by omega)) ?_
                  walk_at "r"
                  have k17 : Kp s L H16 (upd (upd H16 T5 (.tup [.ref D4, .ref q5])) L (.lst (dvs ++ [.ref T5]))) := (Kp.refl.new hT5).mut
                  have k317 : Kp s L H3 (upd (upd H16 T5 (.tup [.ref D4, .ref q5])) L (.lst (dvs ++ [.ref T5]))) := ((k10.trans k15).trans k16).trans k17
                  have k1017 := (k15.trans k16).trans k17
                  obtain ⟨rows5, p5s⟩ := P2.of_mem (R := fun y x => rRow (mask s L (upd (upd H16 T5 (.tup [.ref D4, .ref q5])) L (.lst (dvs ++ [.ref T5])))) y x ∧ x.length ≤ 3) (ys := ys5) fun y hy => by
                    obtain ⟨x, hx, hx3⟩ := hys3 y (hperm.subset hy)
                    exact ⟨x, mRow.up (k16.trans k17).up hx, hx3⟩
                  have p5 := P2.mono (S := rRow (mask s L (upd (upd H16 T5 (.tup [.ref D4, .ref q5])) L (.lst (dvs ++ [.ref T5]))))) p5s fun _ _ h => h.1
                  have hl5 := P2.len p5
                  have hpl5 := hperm.length_eq
                  refine ⟨_, _, _, _, _, _, dvs ++ [.ref T5], ds ++ [(ps, rows5)], rfl, (hR16.new hT5).other nLs.symm, k317.sbB sbI BL, upd_same, (mL (mFr mStrs)).up k317.up hMen, mStrs.up k317.up hNam, sDm.trans k317.up, P2.snoc (P2.mono pd fun _ _ h => mDemF.up k317.up h) ?_, by rw [List.length_append, hdl]; rfl, ?_, ?_⟩
                  · refine ⟨T5, D4, q5, rfl, ?_, rNats.of (p := D4) ?_, ⟨q5, ys5, rfl, ?_, p5⟩, BD4, Bq5⟩
                    · rw [mask_at nT5s nT5L]
                      exact upd_oth nT5L upd_same
                    · rw [mask_at nD4s nD4L]
                      exact k1017 _ _ nD4s nD4L eD10
                    · rw [mask_at nq5s nq5L]
                      exact k17 _ _ nq5s nq5L eq5
                  · intro d hd
                    rcases List.mem_append.mp hd with hd | hd
                    · exact hdz d hd
                    · rw [List.mem_singleton] at hd
                      subst hd
                      exact ⟨by show ps.length ≤ 3; omega, by show rows5.length ≤ 100; omega, P2.snd p5s⟩
                  · intro d hd
                    rcases List.mem_append.mp hd with hd | hd
                    · exact hwf d hd
                    · rw [List.mem_singleton] at hd
                      subst hd
                      exact hpn
        · rintro σ H4 ⟨v7, v8, v9, v10, v11, v12, dvs, ds, rfl, hR4, sbI4, eL4, hMen4, hNam4, sDm4, pd, hdl, hdz, hwf⟩
          walk_at "r"
          refine ⟨szb rfl, fun T9 hT9 => ?_⟩
          have rgm : Reg (mask s L H4) H4 s := ⟨mask_le, mask_s⟩
          have rgL := rgm.add eL4 mask_L nLs
          have rgT := (rgL.new (o := .tup [.ref M, .ref L]) hT9).add upd_same (rgL.free hT9) (hR4.ne hT9)
          have sL : Same (mask s L H4) (upd (mask s L H4) L (.lst dvs)) := same_add mask_L
          have sT : Same (upd (mask s L H4) L (.lst dvs)) (upd (upd (mask s L H4) L (.lst dvs)) T9 (.tup [.ref M, .ref L])) := same_add (rgL.free hT9)
          refine k _ _ _ ms ds rgT (fun b o e => sT _ _ (sL _ _ (sDm4 _ _ e))) (hR4.new hT9) (sbI4.new hT9) ⟨hml, hm3, by omega, hdz, hwf⟩ (by omega) ⟨T9, _, _, rfl, upd_same, ⟨(mL (mFr mStrs)).up (sL.trans sT) hMen4, M, rfl, BM⟩, ⟨⟨L, dvs, rfl, sT _ _ upd_same, P2.mono pd fun _ _ h => mDemF.up (sL.trans sT) h⟩, L, rfl, BL⟩⟩
end
end K9
end
section
set_option Elab.async false
set_option maxRecDepth 100000
set_option maxHeartbeats 8000000
namespace K9
open PySem PySem.Spec L2 EV
/-- the way to a part: (variable, value) .. -/
def rPath (G : Hp) (v : V) (told : Tl) : Prop := ∃ (p : Addr) (as : List Addr), v = .ref p ∧ G p = some (.lst (as.map V.ref)) ∧ Paired (fun a (x : Int × Str) => G a = some (.tup [.int x.1, .str x.2])) as told
theorem rPath.up {G G' : Hp} {v : V} {told : Tl} (e : Same G G') (h : rPath G v told) : rPath G' v told := by
  obtain ⟨p, as, h1, h2, h3⟩ := h
  exact ⟨p, as, h1, e _ _ h2, P2.mono h3 fun _ _ h => e _ _ h⟩
def rWj (H0 : Hp) : Rep (Tz × Tl) := fun G v x => ∃ a t r, v = .ref a ∧ G a = some (.tup [t, r]) ∧ rTz H0 t x.1 ∧ rPath G r x.2
theorem mWj (H0 : Hp) : Mono (rWj H0) := fun _ _ _ _ e ⟨a, t, r, h1, h2, h3, h4⟩ => ⟨a, t, r, h1, e _ _ h2, h3, h4.up e⟩
theorem P2.mapR {α β γ : Type} {R : α → β → Prop} {S : α → γ → Prop} {f : β → γ} {xs : List α} {ys : List β} (h : Paired R xs ys) (k : ∀ a b, R a b → S a (f b)) : Paired S xs (ys.map f) := by
  induction h with
  | nil => exact .nil
  | cons r _ ih => exact .cons (k _ _ r) ih
def kvT (x : Int × Str) : Key × V := (.inl x.1, .str x.2)
def Nd (told : Tl) : Prop := (told.map (·.1)).Nodup
theorem lk_none {told : Tl} {k : Int} (h : k ∉ told.map (·.1)) : told.lookup k = none := by
  induction told with
  | nil => rfl
  | cons p r ih =>
    obtain ⟨a, x⟩ := p
    rw [List.map_cons, List.mem_cons, not_or] at h
    show (match k == a with | true => some x | false => r.lookup k) = none
    rw [beq_false_of_ne h.1]
    exact ih h.2
theorem lk_mem {told : Tl} {k : Int} (h : told.lookup k = none) : k ∉ told.map (·.1) := by
  induction told with
  | nil => intro hh; cases hh
  | cons p r ih =>
    obtain ⟨a, x⟩ := p
    have h' : (match k == a with | true => some x | false => r.lookup k) = none := h
    cases e : k == a with
    | true => rw [e] at h'; cases h'
    | false =>
      rw [e] at h'
      rw [List.map_cons, List.mem_cons, not_or]
      refine ⟨fun hh => ?_, ih h'⟩
      rw [hh, beq_self_eq_true] at e
      cases e
theorem Nd.snoc {told : Tl} {d : Int} {x : Str} (h : Nd told) (hn : told.lookup d = none) : Nd (told ++ [(d, x)]) := by
  unfold Nd
  rw [List.map_append, List.nodup_append]
  refine ⟨h, by simp, fun a ha b hb => ?_⟩
  have : b = d := by simpa using hb
  subst this
  rintro rfl
  exact lk_mem hn ha
theorem merge_lk : ∀ (l : Tl) (acc : List (Key × V)) (k : Int), Nd l → valV (mergeK acc (l.map kvT)) (.inl k) = match l.lookup k with | some x => some (.str x) | none => valV acc (.inl k)
  | [], acc, k, _ => rfl
  | (a, x) :: l, acc, k, h => by
    unfold Nd at h
    rw [List.map_cons, List.nodup_cons] at h
    rw [List.map_cons]
    show valV (mergeK (putK acc (.inl a) (.str x)) (l.map kvT)) _ = match (match k == a with | true => some x | false => l.lookup k) with | some x => some (V.str x) | none => valV acc (.inl k)
    rw [merge_lk l _ k h.2, valV_put]
    cases e : k == a with
    | true =>
      have e := eq_of_beq e
      subst e
      rw [lk_none h.1, if_pos rfl]
    | false =>
      have e : k ≠ a := by rintro rfl; rw [beq_self_eq_true] at e; cases e
      cases l.lookup k with
      | some y => rfl
      | none =>
        show (if (Sum.inl k : Key) = Sum.inl a then _ else _) = _
        rw [if_neg (by intro hh; injection hh with hh; exact e hh)]
theorem merge_len : ∀ (l acc : List (Key × V)), (mergeK acc l).length ≤ acc.length + l.length
  | [], acc => Nat.le_refl _
  | x :: l, acc => by
    have h1 := merge_len l (putK acc x.1 x.2)
    have h2 := putK_len acc x.1 x.2
    have e : mergeK acc (x :: l) = mergeK (putK acc x.1 x.2) l := rfl
    rw [e, List.length_cons]
    omega
theorem rTl.merge {G : Hp} {p : Addr} {told : Tl} (hp : G p = some (.dK (mergeK [] (told.map kvT)))) (h : Nd told) : rTl G (.ref p) told := by
  refine ⟨p, _, rfl, hp, ?_, fun k => ?_⟩
  · have := merge_len (told.map kvT) []
    rw [List.length_map] at this
    simpa using this
  · rw [merge_lk told [] k h]
    cases told.lookup k <;> rfl
local macro_rules | `(tactic| walk_at "hp") => `(tactic| first | assumption | exact upd_same | (refine upd_old ?_ (by assumption); walk_at "hp") | (refine upd_oth (by first | assumption | (apply Ne.symm; assumption)) ?_; walk_at "hp"))
local macro_rules | `(tactic| walk_at "kb") => `(tactic| first | exact kb_NoneType_bool | exact kb_NoneType_int | exact kb_NoneType_str | exact kb_NoneType_dict | exact kb_NoneType_list | exact kb_NoneType_tuple | exact kb_bool_bool | exact kb_bool_int | exact kb_bool_str | exact kb_bool_dict | exact kb_bool_list | exact kb_bool_tuple | exact kb_int_bool | exact kb_int_int | exact kb_int_str | exact kb_int_dict | exact kb_int_list | exact kb_int_tuple | exact kb_str_bool | exact kb_str_int | exact kb_str_str | exact kb_str_dict | exact kb_str_list | exact kb_str_tuple | exact kb_list_bool | exact kb_list_int | exact kb_list_str | exact kb_list_dict | exact kb_list_list | exact kb_list_tuple | exact kb_tuple_bool | exact kb_tuple_int | exact kb_tuple_str | exact kb_tuple_dict | exact kb_tuple_list | exact kb_tuple_tuple)
local macro_rules | `(tactic| walk_at "ty") => `(tactic| first | exact tx_int | exact tx_str | exact tx_non | exact tx_bl | exact tx_lst (by walk_at "hp") | exact tx_tup (by walk_at "hp"))
local macro_rules | `(tactic| walk_at "r1") => `(tactic| first
  | ((with_reducible refine' i_var ?e1 ?_); (case e1 => rfl)) | with_reducible refine i_seq ?_ | with_reducible refine i_c ?_ | with_reducible refine i_op ?_ | with_reducible refine i_I0 ?_
  | with_reducible refine i_asg ?_ | with_reducible refine i_gname ?_ | with_reducible refine i_nil ?_ | with_reducible refine i_cons ?_ | with_reducible refine i_cb ?_ | with_reducible refine i_call ?_
  | with_reducible refine i_test ?_ | with_reducible refine i_tB ?_ | with_reducible refine i_bl ?_ | with_reducible refine i_int ?_ | with_reducible refine i_if ?_ | with_reducible refine i_ifx ?_
  | with_reducible refine i_ret ?_ | with_reducible refine i_retN ?_ | with_reducible refine i_drop ?_ | with_reducible refine i_next ?_ | with_reducible refine i_break ?_ | with_reducible refine i_cont ?_
  | with_reducible refine i_par ?_ | with_reducible refine i_par1 ?_ | with_reducible refine i_and ?_ | with_reducible refine i_or ?_ | with_reducible refine i_not ?_ | with_reducible refine i_truth ?_
  | with_reducible refine i_andV ?_ | with_reducible refine i_orV ?_ | with_reducible refine i_tup ?_ | with_reducible refine i_lst ?_ | with_reducible refine i_un ?_ | with_reducible refine i_U ?_
  | with_reducible refine i_bm ?_ | with_reducible refine i_bm0 ?_ | with_reducible refine i_sl ?_ | with_reducible refine i_nopart ?_ | with_reducible refine i_part ?_ | with_reducible refine i_fld ?_
  | with_reducible refine i_gsub ?_ | with_reducible refine i_gcons ?_ | with_reducible refine i_gnil ?_
  | ((with_reducible refine' i_eq ?e1 ?_); (case e1 => rfl)) | ((with_reducible refine' i_ne ?e1 ?_); (case e1 => rfl))
  | ((with_reducible refine' i_I ?e1 ?_); (case e1 => first | decide | exact .inr ⟨by decide, by decide⟩ | exact ⟨by decide, by decide⟩ | assumption))
  | ((with_reducible refine' i_ixL ?e1 ?e2 ?_); (case e1 => walk_at "hp"); (case e2 => first | rfl | assumption))
  | ((with_reducible refine' i_ixT ?e1 ?e2 ?_); (case e1 => walk_at "hp"); (case e2 => first | rfl | assumption))
  | ((with_reducible refine' i_len ?e1 ?_); (case e1 => walk_at "hp")) | ((with_reducible refine' i_lenT ?e1 ?_); (case e1 => walk_at "hp"))
  | ((with_reducible refine' i_gtup ?e1 ?e2 ?_); (case e1 => walk_at "hp"); (case e2 => rfl))
  | ((with_reducible refine' i_set ?e1 ?e2 ?_); (case e1 => walk_at "hp"); (case e2 => rfl))
  | with_reducible refine i_int1 ?_ | with_reducible refine i_abs1 ?_ | with_reducible refine i_max2 ?_ | with_reducible refine i_min2 ?_ | with_reducible refine i_non ?_ | with_reducible refine i_nnon ?_
  | with_reducible refine i_for ?_ | with_reducible refine i_irng1 ?_ | with_reducible refine i_ilist ?_ | with_reducible refine i_itup ?_ | with_reducible refine i_ienum ?_ | with_reducible refine i_irev ?_ | with_reducible refine i_izip ?_ | with_reducible refine i_lc ?_ | with_reducible refine i_yes ?_ | with_reducible refine i_notV ?_ | ((with_reducible refine' i_isi ?e1 ?e2 ?_); (case e1 => walk_at "ty"); (case e2 => walk_at "kb")) | with_reducible refine i_meth ?_ | with_reducible refine i_make ?_ | with_reducible refine i_din ?_ | with_reducible refine i_dni ?_ | with_reducible refine i_dget ?_ | with_reducible refine i_dcT ?_ | with_reducible refine i_sfld ?_ | with_reducible refine i_chain ?_ | ((with_reducible refine' i_tuple ?e1 ?_); (case e1 => walk_at "hp")) | ((with_reducible refine' i_list ?e1 ?_); (case e1 => walk_at "hp")) | with_reducible refine iteT ?_ | with_reducible refine iteF ?_ | with_reducible refine iteNF ?_ | with_reducible refine iteNT ?_
  | ((with_reducible refine' i_ilistE ?e1 ?_); (case e1 => walk_at "hp")) | ((with_reducible refine' i_itupE ?e1 ?_); (case e1 => walk_at "hp")) | ((with_reducible refine' i_ienumE ?e1 ?_); (case e1 => walk_at "hp")) | ((with_reducible refine' i_irevE ?e1 ?_); (case e1 => walk_at "hp"))
  | ((with_reducible refine' i_rng1 ?e1 ?_); (case e1 => first | omega | decide); (try with_reducible rw [Int.toNat_natCast]))
  | ((with_reducible refine' And.intro ?e1 ?_); (case e1 => first | exact i_ty (by walk_at "hp") | rfl)))
local macro_rules | `(tactic| walk_at "r") => `(tactic| repeat walk_at "r1")

section
variable {P : Program} {w : World} {K : PySem.W.Frag} {mg : Str → Option Value} {base : Heap}
def spJudge (C : Addr) : Sp := fun vs H Q _ => ∃ (D : Hp) (pv tv : V) (ms : List (List Str)) (ds : List Dem) (t : Tz), vs = [pv, tv] ∧ Same D H ∧ rProb C D pv (ms, ds) ∧ SizeOk ms ds ∧ rTz H tv t ∧ t.nn < 100000 ∧ ∀ H', Same H H' → Q (optW (res ds ms [(t, [])])) H'
theorem ok_judge_tree (T : Txt K mg) : FnOk P w K mg base CX0 2 T.a_judge_tree T.fd_judge_tree ["problem", "tree"] (spJudge T.c_Problem) := by
  refine T.F_judge_tree.ok sc_judge_tree (fun vs H Q E h => ?_) (fun cdv A outer s H vs Q E hr h => ?_)
  · obtain ⟨_, _, _, _, _, _, rfl, _⟩ := h; rfl
  · obtain ⟨D, pv, tv, ms, ds, t, rfl, sD, hpr, hz, ht, hN, k⟩ := h
    obtain ⟨z1, z2, z3, z4⟩ := id hz
    have hr1 : Room 1 _ := hr.mono (by decide)
    have hu := hu_of hr
    obtain ⟨a, dx, c0, d0, rfl, ha, hdx, _, _⟩ := id hpr
    have ha1 := sD _ _ ha
    refine ⟨_, (pss_cons (ps_set (i := 2) sc_judge_tree.nd rfl (Or.inl rfl) (pe_meth0 (pv 0) T.cl_Problem T.mt_Problem_choices (ok_Problem_choices T) hr1 (bd_Problem_choices T) .nil pass0))
    (pss_cons (ps_set (i := 3) sc_judge_tree.nd rfl (Or.inl rfl) (pe_meth0 (pv 0) T.cl_Problem T.mt_Problem_demands (ok_Problem_demands T) hr1 (bd_Problem_demands T) .nil pass0))
    (pss_cons (ps_set (i := 4) sc_judge_tree.nd rfl (Or.inl rfl) (pe_lst (pa_cons (pe_tup (pa_cons (pv 1) (pa_cons (pe_lst pa_nil) pa_nil))) pa_nil)))
    (pss_cons (ps_while PassesOwn.never (EV.ptTruth (K := K) rfl (pv 4))
      (pss_cons (ps_asg (EV.peBm0 (K := K) rfl PySem.F.plainAttrs_list PySem.F.slot_list_pop PySem.F.type_list_pop mt_pop (pv 4)) (EV.pgT (K := K) (n := 2) rfl rfl (pgs_cons (pg_name (i := 5) sc_judge_tree.nd rfl (Or.inr rfl)) (pgs_cons (pg_name (i := 6) sc_judge_tree.nd rfl (Or.inr rfl)) pgs_nil))))
      (pss_cons (ps_set (i := 7) sc_judge_tree.nd rfl (Or.inl rfl) (pe_callTy (EV.cDictP (K := K) rfl rfl) (by rfl) T.b_dict (by decide +kernel) (pa_cons (pv 6) pa_nil)))
      (EV.pssCut (ps_if (pt_cmpR op_eq (pe_ix (EV.ixT (K := K) rfl) (pv 5) pe_int (fun _ _ => rfl)) pe_str (nomark _))
        (pss_one (ps_set (i := 8) sc_judge_tree.nd rfl (Or.inl rfl) (pe_call (ok_leaf_fault T) hr1 rfl T.m_leaf_fault T.F_leaf_fault.kp (bd_leaf_fault T) .nil pass0 (pa_cons (pv 5) (pa_cons (pv 3) (pa_cons (pv 7) pa_nil))))))
        (pss_one (ps_set (i := 8) sc_judge_tree.nd rfl (Or.inl rfl) (pe_call (ok_knot_fault T) hr1 rfl T.m_knot_fault T.F_knot_fault.kp (bd_knot_fault T) .nil pass0 (pa_cons (pv 5) (pa_cons (pv 2) (pa_cons (pv 7) pa_nil)))))))
      (pss_cons (ps_if (pt_cmpR EV.opNotN (pv 8) pe_non (nomark _))
        (pss_one (ps_ret (pv 8)))
        pss_nil)
      (pss_one (ps_if (pt_cmpR op_ne (pe_ix (EV.ixT (K := K) rfl) (pv 5) pe_int (fun _ _ => rfl)) pe_str (nomark _))
        (pss_cons (ps_setLc (i := 9) (own := [("branch", 10)]) rfl sc_judge_tree.nd rfl rfl (sw_true rfl rfl rfl (by decide +kernel)) (EV.piL (K := K) rfl (pe_ix (EV.ixT (K := K) rfl) (pv 5) pe_int (fun _ _ => rfl))) (blkOk_by (own := [("branch", 10)]) (N := ["problem", "tree", "choices", "demands", "waiting", "part", "path", "told", "fault", "below", "branch"]) (sc := defScope s_judge_tree) (by decide +kernel)) (fun _ _ _ _ _ => (pg_name (i := 10) sc_judge_tree.nd rfl (Or.inl rfl))) (fun _ _ _ _ _ => pts_nil) (fun _ _ _ _ _ => (pe_tup (pa_cons (pe_ix (EV.ixT (K := K) rfl) (pv 10) pe_int (fun _ _ => rfl)) (pa_cons (pe_op op_cat (pv 6) (pe_lst (pa_cons (pe_tup (pa_cons (pe_ix (EV.ixT (K := K) rfl) (pv 5) pe_int (fun _ _ => rfl)) (pa_cons (pe_ix (EV.ixT (K := K) rfl) (pv 10) pe_int (fun _ _ => rfl)) pa_nil))) pa_nil))) pa_nil)))))
        (pss_cons (ps_expr (EV.peBm0 (K := K) rfl PySem.F.plainAttrs_list PySem.F.slot_list_reverse PySem.F.type_list_reverse mt_reverse (pv 9)))
        (pss_one (ps_expr (EV.peBm (K := K) rfl PySem.F.plainAttrs_list PySem.F.slot_list_extend PySem.F.type_list_extend mt_extend (pv 4) (pa_cons (pv 9) pa_nil))))))
        pss_nil)))))))
    (pss_one (ps_ret pe_non)))))), ?_⟩
    walk_at "r"
    refine ⟨_, _, _, rfl, ha1, pf_no (by decide +kernel) (by decide +kernel), ?_⟩
    refine ⟨D, _, _, rfl, sD, hpr, hz, fun H1 mv D1 g1 hm => ?_⟩
    walk_at "r"
    refine ⟨_, _, _, rfl, g1.hh _ _ ha1, pf_no (by decide +kernel) (by decide +kernel), ?_⟩
    refine ⟨D1, _, _, rfl, g1.gh, mProb.up g1.gg hpr, hz, fun H2 dv D2 g2 hd => ?_⟩
    have hm2 : rMenus H2 mv ms := by
      obtain ⟨h, _⟩ := hm
      exact mMenus.up (g2.gg.trans g2.gh) (mono2 (fun _ _ _ h => h.1) h)
    have hd2 : rDems H2 dv ds := by
      obtain ⟨h, _⟩ := hd
      exact mDems.up g2.gh (mono2 (fun _ _ _ ⟨p, b, c, h1, h2, h3, h4, _⟩ => ⟨p, _, _, h1, h2, h3, h4⟩) h)
    have s02 : Same H H2 := g1.hh.trans g2.hh
    have ht2 := mTz.up s02 ht
    clear hm hd ht
    obtain ⟨ml, mvs, rfl, hml, pm⟩ := id hm2
    obtain ⟨dl, dvs, rfl, hdl, pd⟩ := id hd2
    have hmvl := P2.len pm
    walk_at "r"
    refine ⟨szb rfl, fun e0 he0 => ?_⟩
    walk_at "r"
    refine ⟨szb rfl, fun t0 ht0 => ?_⟩
    walk_at "r"
    refine ⟨szb rfl, fun wl hwl => ?_⟩
    obtain ⟨hwl1, nwt⟩ := upd_non hwl
    obtain ⟨hwl0, nwe⟩ := upd_non hwl1
    have f0 := upd_old (o := .lst [.ref t0]) (upd_old (o := .tup [tv, .ref e0]) (upd_same (H := H2) (a := e0) (o := .lst [])) ht0) hwl
    have f1 := upd_old (o := .lst [.ref t0]) (upd_same (H := upd H2 e0 (.lst [])) (a := t0) (o := .tup [tv, .ref e0])) hwl
    have f2 := upd_same (H := upd (upd H2 e0 (.lst [])) t0 (.tup [tv, .ref e0])) (a := wl) (o := .lst [.ref t0])
    have s3 : Same H2 (upd (upd (upd H2 e0 (.lst [])) t0 (.tup [tv, .ref e0])) wl (.lst [.ref t0])) := Same.new (Same.new (Same.new (Same.refl _) he0) ht0) hwl
    walk_at "r"
    generalize upd (upd (upd H2 e0 (.lst [])) t0 (.tup [tv, .ref e0])) wl (.lst [.ref t0]) = H3 at f0 f1 f2 s3 ⊢
    refine i_while (fun mm σ H' => ∃ (vs : List V) (W : List (Tz × Tl)) (v5 v6 v7 v8 v9 v10 : Option V), mm = tot W ∧ σ = [some (.ref a), some tv, some (.ref ml), some (.ref dl), some (.ref wl), v5, v6, v7, v8, v9, v10] ∧
        Same H2 H' ∧ H' wl = some (.lst vs) ∧ Paired (rWj H2 (mask wl wl H')) vs W ∧ (∀ x ∈ W, Nd x.2 ∧ x.2.length + x.1.nn ≤ t.nn) ∧ tot W ≤ t.nn ∧ res ds ms W = res ds ms [(t, [])])
      t.nn ⟨_, [(t, [])], _, _, _, _, _, _, (tot_one (t, [])).symm, rfl, s3, f2, .cons ⟨t0, tv, .ref e0, rfl, ?_, ht2, e0, [], rfl, ?_, .nil⟩ .nil, fun x hx => by rw [List.mem_singleton] at hx; subst hx; exact ⟨List.nodup_nil, by simp⟩, by rw [tot_one]; exact Nat.le_refl _, rfl⟩ ?_
    · rw [mask_at nwt.symm nwt.symm]
      exact f1
    · rw [mask_at nwe.symm nwe.symm]
      exact f0
    · clear f0 f1 f2 s3
      rintro mm σ H4 ⟨vs, W, v5, v6, v7, v8, v9, v10, rfl, rfl, s4, ew, pw, hI, hs, hres⟩
      walk_at "r"
      refine ⟨!vs.isEmpty, .inl ⟨vs, SqL.of ew, rfl⟩, ?_⟩
      refine ite_b (fun h => ?_) (fun h => ?_)
      · have hvs : vs ≠ [] := by
          intro e
          subst e
          simp at h
        obtain ⟨vs', x, rfl⟩ : ∃ vs' x, vs = vs' ++ [x] := ⟨vs.dropLast, vs.getLast hvs, (List.dropLast_concat_getLast hvs).symm⟩
        have hWl := P2.len pw
        rw [List.length_append] at hWl
        have h1x : [x].length = 1 := rfl
        obtain ⟨W', p, rfl⟩ : ∃ W' p, W = W' ++ [p] := by
          have hW : W ≠ [] := by
            intro e
            subst e
            simp at hWl
          exact ⟨W.dropLast, W.getLast hW, (List.dropLast_concat_getLast hW).symm⟩
        have hWl' : vs'.length = W'.length := by simpa using hWl
        have pw' : Paired (rWj H2 (mask wl wl H4)) vs' W' := by
          have := P2.take pw vs'.length
          rw [List.take_left, hWl', List.take_left] at this
          exact this
        have px : rWj H2 (mask wl wl H4) x p := by
          obtain ⟨p', hp', hh⟩ := P2.at' pw (i := vs'.length) (x := x) (by simp)
          have : p' = p := by
            rw [hWl'] at hp'
            simpa using hp'.symm
          rw [← this]
          exact hh
        obtain ⟨hnd, htl⟩ := hI p (by simp)
        have hI' : ∀ x ∈ W', Nd x.2 ∧ x.2.length + x.1.nn ≤ t.nn := fun y hy => hI y (List.mem_append_left _ hy)
        obtain ⟨tr, told⟩ := p
        obtain ⟨ta, wv, r, rfl, hta, hwt, hpath⟩ := px
        obtain ⟨pp, as, rfl, hpp, pas⟩ := hpath
        have eW := tot_step W' (tr, told)
        replace eW : tot (W' ++ [(tr, told)]) = tot (W' ++ (kids told tr).reverse) + 1 := eW
        rw [res_snoc] at hres
        replace hnd : Nd told := hnd
        replace htl : told.length + tr.nn ≤ t.nn := htl
        refine ⟨_, fun σ' H' h => h, ?_⟩
        have hta4 := mask_le _ _ hta
        have naw : ta ≠ wl := ne_of hta4 ew (fun z => nomatch z)
        have npw : pp ≠ wl := by
          rintro rfl
          rw [mask_s] at hpp
          cases hpp
        walk_at "r"
        refine i_pop (y := .ref ta) ew (by simp) ?_
        rw [List.dropLast_concat]
        have k5 : Kp wl wl H4 (upd H4 wl (.lst vs')) := Kp.refl.mut
        have s5 : Same H2 (upd H4 wl (.lst vs')) := Same.mut s4 hwl0
        have ew5 : upd H4 wl (.lst vs') wl = some (.lst vs') := upd_same
        have hta5 : upd H4 wl (.lst vs') ta = some (.tup [wv, .ref pp]) := upd_oth naw hta4
        generalize upd H4 wl (.lst vs') = H5 at k5 s5 ew5 hta5 ⊢
        have hpp5 := mask_le _ _ (k5.up _ _ hpp)
        have pas5 := P2.mono pas fun _ _ h => mask_le _ _ (k5.up _ _ h)
        have pasK := P2.mono pas fun _ _ h => k5.up _ _ h
        have pw5 := P2.mono pw' fun _ _ h => (mWj H2).up k5.up h
        clear pw hta4 hta ew pas hpp pw' k5 s4
        walk_at "r"
        refine ⟨pp, as, told.map kvT, rfl, SqL.of hpp5, P2.mapR pas5 (fun a x h => SqT.of h), fun dp hdp => ?_⟩
        have hT : rTl (upd H5 dp (.dK (mergeK [] (told.map kvT)))) (.ref dp) told := rTl.merge upd_same hnd
        have s56 : Same H5 (upd H5 dp (.dK (mergeK [] (told.map kvT)))) := Same.new (Same.refl _) hdp
        have k56 : Kp wl wl H5 (upd H5 dp (.dK (mergeK [] (told.map kvT)))) := Kp.refl.new hdp
        generalize upd H5 dp (.dK (mergeK [] (told.map kvT))) = H6 at hT s56 k56 ⊢
        have s26 := s5.trans s56
        cases tr with
        | leaf k' =>
          obtain ⟨wp, rfl, hwp⟩ := hwt.leaf_at
          have hwp6 := s26 _ _ hwp
          walk_at "r"
          refine i_mid (fun σ' H' => ∃ v9 v10 : Option V, σ' = [some (.ref a), some tv, some (.ref ml), some (.ref dl), some (.ref wl), some (.ref wp), some (.ref pp), some (.ref dp), some (optW (flt ds ms told (.leaf k'))), v9, v10] ∧ Same H6 H') ?_ ?_
          · walk_at "r"
            refine ite_t (by first | rfl | decide +kernel) ?_
            walk_at "r"
            refine ⟨wp, _, _, ms, ds, told, k', rfl, hwp6, mDems.up s26 hd2, hT, fun d hd => (z4 d hd).1, fun H7 s7 => ?_⟩
            walk_at "r"
            exact ⟨_, _, rfl, s7⟩
          · rintro σ H7 ⟨v9, v10, rfl, s7⟩
            have hwp7 := s7 _ _ hwp6
            walk_at "r"
            cases hf : flt ds ms told (.leaf k') with
            | some fw =>
              rw [show flt ds ms (Tz.leaf k', told).2 (Tz.leaf k', told).1 = some fw from hf] at hres
              refine ite_t (by rfl) ?_
              walk_at "r"
              have hres : some fw = res ds ms [(t, [])] := hres
              rw [← hres] at k
              exact k _ (s02.trans (s26.trans s7))
            | none =>
              rw [show flt ds ms (Tz.leaf k', told).2 (Tz.leaf k', told).1 = none from hf] at hres
              refine ite_f (by rfl) ?_
              walk_at "r"
              refine ite_f (by first | rfl | decide +kernel) ?_
              walk_at "r"
              have ek : W' ++ (kids told (Tz.leaf k')).reverse = W' := List.append_nil _
              have hres : res ds ms (W' ++ (kids told (Tz.leaf k')).reverse) = res ds ms [(t, [])] := hres
              rw [ek] at hres eW
              exact ⟨_, by rw [eW]; omega, vs', W', _, _, _, _, _, _, rfl, rfl, s26.trans s7, s7 _ _ (s56 _ _ ew5), P2.mono pw5 fun _ _ h => (mWj H2).up (k56.same s7).up h, hI', by omega, hres⟩
        | knot d brs =>
          obtain ⟨wp, wq, bvs, rfl, hwp, hwq, pb⟩ := hwt.knot_at
          have hwp6 := s26 _ _ hwp
          have hbvl : bvs.length = brs.length := P2.len pb
          have hbl : brs.length < 100000 := by
            have h1 := nnB_len brs
            rw [nn_knot] at htl
            omega
          walk_at "r"
          refine i_mid (fun σ' H' => ∃ v9 v10 : Option V, σ' = [some (.ref a), some tv, some (.ref ml), some (.ref dl), some (.ref wl), some (.ref wp), some (.ref pp), some (.ref dp), some (optW (flt ds ms told (.knot d brs))), v9, v10] ∧ Same H6 H') ?_ ?_
          · walk_at "r"
            refine ite_f (by first | rfl | decide +kernel) ?_
            walk_at "r"
            refine ⟨wp, wq, _, _, ms, ds, told, d, brs, bvs, rfl, hwp6, s26 _ _ hwq, P2.mono pb fun _ _ h => mBz.up s26 h, mMenus.up s26 hm2, hT, by omega, fun H7 s7 => ?_⟩
            walk_at "r"
            exact ⟨_, _, rfl, s7⟩
          · rintro σ H7 ⟨v9, v10, rfl, s7⟩
            have hwp7 := s7 _ _ hwp6
            have hwq7 := s7 _ _ (s26 _ _ hwq)
            have s27 := s26.trans s7
            have hpp7 := s7 _ _ (s56 _ _ hpp5)
            have ew7 := s7 _ _ (s56 _ _ ew5)
            have k57 : Kp wl wl H5 H7 := k56.same s7
            have pas7 := P2.mono pas5 fun _ _ h => s7 _ _ (s56 _ _ h)
            have hasl := P2.len pas7
            walk_at "r"
            cases hf : flt ds ms told (.knot d brs) with
            | some fw =>
              rw [show flt ds ms (Tz.knot d brs, told).2 (Tz.knot d brs, told).1 = some fw from hf] at hres
              refine ite_t (by rfl) ?_
              walk_at "r"
              have hres : some fw = res ds ms [(t, [])] := hres
              rw [← hres] at k
              exact k _ (s02.trans s27)
            | none =>
            rw [show flt ds ms (Tz.knot d brs, told).2 (Tz.knot d brs, told).1 = none from hf] at hres
            have hres : res ds ms (W' ++ (kids told (Tz.knot d brs)).reverse) = res ds ms [(t, [])] := hres
            have hlk : told.lookup d = none := by
              cases e : told.lookup d with
              | none => rfl
              | some z =>
                rw [flt_knot] at hf
                unfold knB at hf
                rw [e] at hf
                simp at hf
            refine ite_f (by rfl) ?_
            walk_at "r"
            refine ite_t (by first | rfl | decide +kernel) ?_
            walk_at "r"
            intro De hDe
            refine lc_mapL (S := rWj H2) (ys' := brs.map fun x => (x.2, told ++ [(d, x.1)])) (mWj H2) (mask_le (s := wl) (L := wl) (H := H7)) hwq7 (by rw [List.length_map]; exact hbvl) (by rw [List.length_map]; omega) hDe ?_ ?_
            · intro j v y G H8 hv hy g k2 hk2
              obtain ⟨x6, hx6, a6, w6, rfl, ha6, ht6⟩ := P2.at' pb hv
              rw [List.getElem?_map, hx6] at hy
              cases hy
              have ha8 := g.hh _ _ (s27 _ _ ha6)
              have hwp8 := g.hh _ _ hwp7
              have hpp8 := g.hh _ _ hpp7
              walk_at "r"
              refine ⟨szb rfl, fun t1 ht1 => ?_⟩
              walk_at "r"
              refine ⟨szb rfl, fun l1 hl1 => ?_⟩
              walk_at "r"
              refine i_cat (upd_old (upd_old hpp8 ht1) hl1) upd_same (by rw [List.length_map, hasl]; show told.length + 1 ≤ 1000000; omega) fun p2 hp2 => ?_
              walk_at "r"
              refine ⟨szb rfl, fun t2 ht2' => ?_⟩
              have sA : Same H8 (upd (upd (upd (upd H8 t1 (.tup [.int d, .str x6.1])) l1 (.lst [.ref t1])) p2 (.lst (as.map V.ref ++ [.ref t1]))) t2 (.tup [w6, .ref p2])) := Same.new (Same.new (Same.new (Same.new (Same.refl _) ht1) hl1) hp2) ht2'
              have u1 := upd_old (o := .tup [w6, .ref p2]) (upd_old (o := .lst (as.map V.ref ++ [.ref t1])) (upd_old (o := .lst [.ref t1]) (upd_same (H := H8) (a := t1) (o := .tup [.int d, .str x6.1])) hl1) hp2) ht2'
              have u2 := upd_old (o := .tup [w6, .ref p2]) (upd_same (H := upd (upd H8 t1 (.tup [.int d, .str x6.1])) l1 (.lst [.ref t1])) (a := p2) (o := .lst (as.map V.ref ++ [.ref t1]))) ht2'
              have u3 := upd_same (H := upd (upd (upd H8 t1 (.tup [.int d, .str x6.1])) l1 (.lst [.ref t1])) p2 (.lst (as.map V.ref ++ [.ref t1]))) (a := t2) (o := .tup [w6, .ref p2])
              have n2 : H8 p2 = none := (upd_non (upd_non hp2).1).1
              have n3 : H8 t2 = none := (upd_non (upd_non (upd_non ht2').1).1).1
              generalize upd (upd (upd (upd H8 t1 (.tup [.int d, .str x6.1])) l1 (.lst [.ref t1])) p2 (.lst (as.map V.ref ++ [.ref t1]))) t2 (.tup [w6, .ref p2]) = H9 at sA u1 u2 u3 ⊢
              have gA := Grow.all g.gh sA
              refine hk2 _ _ _ gA ⟨t2, w6, .ref p2, rfl, by rw [adopt_new n3]; exact u3, ht6, p2, as ++ [t1], rfl, by rw [adopt_new n2, u2, List.map_append]; rfl, ?_⟩
              refine P2.app (P2.mono pasK fun _ _ h => gA.gg _ _ (g.gg _ _ (k57.up _ _ h))) (.cons ?_ .nil)
              · rw [adopt_new ht1, u1]
            · intro H8 G acc g gd ed pa
              have ew8 := g.hh _ _ ew7
              have hal := P2.len pa
              rw [List.length_map] at hal
              walk_at "r"
              refine ⟨De, acc, rfl, rfl, ed, ?_⟩
              have s8 : Same H7 (upd H8 De (.lst acc.reverse)) := Same.mut g.hh hDe
              have nDw : wl ≠ De := ne_of_none ew7 hDe
              have ed9 : upd H8 De (.lst acc.reverse) De = some (.lst acc.reverse) := upd_same
              have ew9 : upd H8 De (.lst acc.reverse) wl = some (.lst vs') := upd_oth nDw ew8
              have sG : Same G (upd H8 De (.lst acc.reverse)) := Same.mut g.gh gd
              have gw : G wl = none := g.out ew7 mask_s
              generalize upd H8 De (.lst acc.reverse) = H9 at s8 ed9 ew9 sG ⊢
              walk_at "r"
              have hb2 := tot_len W'
              have hb3 : tot (W' ++ (kids told (Tz.knot d brs)).reverse) = tot W' + tot (kids told (Tz.knot d brs)).reverse := tot_app _ _
              refine ⟨wl, De, vs', acc.reverse, rfl, rfl, ew9, ed9, sz4 (by rw [List.length_reverse]; omega), ?_⟩
              walk_at "r"
              have k79 : Kp wl wl H7 (upd H9 wl (.lst (vs' ++ acc.reverse))) := (Kp.refl.same s8).mut
              refine ⟨_, by rw [eW]; omega, vs' ++ acc.reverse, W' ++ (kids told (Tz.knot d brs)).reverse, _, _, _, _, _, _, rfl, rfl, Same.mut (s27.trans s8) hwl0, upd_same, ?_, ?_, by omega, hres⟩
              · refine P2.app (P2.mono pw5 fun _ _ h => (mWj H2).up (k57.trans k79).up h) (P2.rev (P2.mono pa fun _ _ h => (mWj H2).up ?_ h))
                exact fun b o e => Kp.up (Kp.mut (Kp.refl (s := wl) (L := wl) (H := H9))) _ _ (Same.masked sG gw gw b o e)
              · intro x hx
                rcases List.mem_append.mp hx with hx | hx
                · exact hI' x hx
                · obtain ⟨y, hy, rfl⟩ := List.mem_map.mp (List.mem_reverse.mp hx)
                  exact ⟨hnd.snoc hlk, by rw [List.length_append, nn_knot] at *; have := nnB_mem hy; show told.length + 1 + y.2.nn ≤ _; omega⟩
      · walk_at "r"
        have hW : W = [] := by
          have h1 := P2.len pw
          have h2 : vs = [] := by simpa using h
          subst h2
          cases W with
          | nil => rfl
          | cons _ _ => cases h1
        subst hW
        rw [← hres, res_nil] at k
        exact k _ (s02.trans s4)
end
end K9
end
section
set_option Elab.async false
set_option maxRecDepth 100000
set_option pp.maxSteps 3000
set_option maxHeartbeats 8000000
namespace K9
open PySem PySem.Spec L2 EV
/-- a part that waits, and what was told above -/
def rWd (H0 : Hp) : Rep (Tz × Tl) := fun G v x => ∃ a t r, v = .ref a ∧ G a = some (.tup [t, r]) ∧ rTz H0 t x.1 ∧ rTl G r x.2
theorem mWd (H0 : Hp) : Mono (rWd H0) := fun _ _ _ _ e ⟨a, t, r, h1, h2, h3, h4⟩ => ⟨a, t, r, h1, e _ _ h2, h3, mTl.up e h4⟩
local macro_rules | `(tactic| walk_at "hp") => `(tactic| first | assumption | exact upd_same | (refine upd_old ?_ (by assumption); walk_at "hp") | (refine upd_oth (by first | assumption | (apply Ne.symm; assumption)) ?_; walk_at "hp"))
local macro_rules | `(tactic| walk_at "kb") => `(tactic| first | exact kb_NoneType_bool | exact kb_NoneType_int | exact kb_NoneType_str | exact kb_NoneType_dict | exact kb_NoneType_list | exact kb_NoneType_tuple | exact kb_bool_bool | exact kb_bool_int | exact kb_bool_str | exact kb_bool_dict | exact kb_bool_list | exact kb_bool_tuple | exact kb_int_bool | exact kb_int_int | exact kb_int_str | exact kb_int_dict | exact kb_int_list | exact kb_int_tuple | exact kb_str_bool | exact kb_str_int | exact kb_str_str | exact kb_str_dict | exact kb_str_list | exact kb_str_tuple | exact kb_list_bool | exact kb_list_int | exact kb_list_str | exact kb_list_dict | exact kb_list_list | exact kb_list_tuple | exact kb_tuple_bool | exact kb_tuple_int | exact kb_tuple_str | exact kb_tuple_dict | exact kb_tuple_list | exact kb_tuple_tuple)
local macro_rules | `(tactic| walk_at "ty") => `(tactic| first | exact tx_int | exact tx_str | exact tx_non | exact tx_bl | exact tx_lst (by walk_at "hp") | exact tx_tup (by walk_at "hp"))
local macro_rules | `(tactic| walk_at "r1") => `(tactic| first
  | ((with_reducible refine' i_var ?e1 ?_); (case e1 => rfl)) | with_reducible refine i_seq ?_ | with_reducible refine i_c ?_ | with_reducible refine i_op ?_ | with_reducible refine i_I0 ?_
  | with_reducible refine i_asg ?_ | with_reducible refine i_gname ?_ | with_reducible refine i_nil ?_ | with_reducible refine i_cons ?_ | with_reducible refine i_cb ?_ | with_reducible refine i_call ?_
  | with_reducible refine i_test ?_ | with_reducible refine i_tB ?_ | with_reducible refine i_bl ?_ | with_reducible refine i_int ?_ | with_reducible refine i_if ?_ | with_reducible refine i_ifx ?_
  | with_reducible refine i_ret ?_ | with_reducible refine i_retN ?_ | with_reducible refine i_drop ?_ | with_reducible refine i_next ?_ | with_reducible refine i_break ?_ | with_reducible refine i_cont ?_
  | with_reducible refine i_par ?_ | with_reducible refine i_par1 ?_ | with_reducible refine i_and ?_ | with_reducible refine i_or ?_ | with_reducible refine i_not ?_ | with_reducible refine i_truth ?_
  | with_reducible refine i_andV ?_ | with_reducible refine i_orV ?_ | with_reducible refine i_tup ?_ | with_reducible refine i_lst ?_ | with_reducible refine i_un ?_ | with_reducible refine i_U ?_
  | with_reducible refine i_bm ?_ | with_reducible refine i_bm0 ?_ | with_reducible refine i_sl ?_ | with_reducible refine i_nopart ?_ | with_reducible refine i_part ?_ | with_reducible refine i_fld ?_
  | with_reducible refine i_gsub ?_ | with_reducible refine i_gcons ?_ | with_reducible refine i_gnil ?_
  | ((with_reducible refine' i_eq ?e1 ?_); (case e1 => rfl)) | ((with_reducible refine' i_ne ?e1 ?_); (case e1 => rfl))
  | ((with_reducible refine' i_I ?e1 ?_); (case e1 => first | decide | exact .inr ⟨by decide, by decide⟩ | exact ⟨by decide, by decide⟩ | assumption))
  | ((with_reducible refine' i_ixL ?e1 ?e2 ?_); (case e1 => walk_at "hp"); (case e2 => first | rfl | assumption))
  | ((with_reducible refine' i_ixT ?e1 ?e2 ?_); (case e1 => walk_at "hp"); (case e2 => first | rfl | assumption))
  | ((with_reducible refine' i_len ?e1 ?_); (case e1 => walk_at "hp")) | ((with_reducible refine' i_lenT ?e1 ?_); (case e1 => walk_at "hp"))
  | ((with_reducible refine' i_gtup ?e1 ?e2 ?_); (case e1 => walk_at "hp"); (case e2 => rfl))
  | ((with_reducible refine' i_set ?e1 ?e2 ?_); (case e1 => walk_at "hp"); (case e2 => rfl))
  | with_reducible refine i_int1 ?_ | with_reducible refine i_abs1 ?_ | with_reducible refine i_max2 ?_ | with_reducible refine i_min2 ?_ | with_reducible refine i_non ?_ | with_reducible refine i_nnon ?_
  | with_reducible refine i_for ?_ | with_reducible refine i_irng1 ?_ | with_reducible refine i_ilist ?_ | with_reducible refine i_itup ?_ | with_reducible refine i_ienum ?_ | with_reducible refine i_irev ?_ | with_reducible refine i_izip ?_ | with_reducible refine i_lc ?_ | with_reducible refine i_yes ?_ | with_reducible refine i_notV ?_ | ((with_reducible refine' i_isi ?e1 ?e2 ?_); (case e1 => walk_at "ty"); (case e2 => walk_at "kb")) | with_reducible refine i_meth ?_ | with_reducible refine i_make ?_ | with_reducible refine i_din ?_ | with_reducible refine i_dni ?_ | with_reducible refine i_dget ?_ | with_reducible refine i_dcT ?_ | with_reducible refine i_sfld ?_ | with_reducible refine i_chain ?_ | ((with_reducible refine' i_tuple ?e1 ?_); (case e1 => walk_at "hp")) | ((with_reducible refine' i_list ?e1 ?_); (case e1 => walk_at "hp")) | with_reducible refine iteT ?_ | with_reducible refine iteF ?_ | with_reducible refine iteNF ?_ | with_reducible refine iteNT ?_
  | ((with_reducible refine' i_ilistE ?e1 ?_); (case e1 => walk_at "hp")) | ((with_reducible refine' i_itupE ?e1 ?_); (case e1 => walk_at "hp")) | ((with_reducible refine' i_ienumE ?e1 ?_); (case e1 => walk_at "hp")) | ((with_reducible refine' i_irevE ?e1 ?_); (case e1 => walk_at "hp"))
  | ((with_reducible refine' i_rng1 ?e1 ?_); (case e1 => first | omega | decide); (try with_reducible rw [Int.toNat_natCast]))
  | ((with_reducible refine' And.intro ?e1 ?_); (case e1 => first | exact i_ty (by walk_at "hp") | rfl)))
local macro_rules | `(tactic| walk_at "r") => `(tactic| repeat walk_at "r1")

section
variable {P : Program} {w : World} {K : PySem.W.Frag} {mg : Str → Option Value} {base : Heap}
def spJudged : Sp := fun vs H Q _ => ∃ (mv dv tv : V) (ms : List (List Str)) (ds : List Dem) (t : Tz), vs = [mv, dv, tv] ∧ rMenus H mv ms ∧ rDems H dv ds ∧ SizeOk ms ds ∧ rTz H tv t ∧ t.nn < 100000 ∧ ∀ H', Same H H' → Q (optW (res ds ms [(t, [])])) H'
theorem ok_c_judged (T : Txt K mg) : FnOk P w K mg base CX0 1 T.a_c_judged T.fd_c_judged ["menus", "demands", "tree"] spJudged := by
  refine T.F_c_judged.ok sc_c_judged (fun vs H Q E h => ?_) (fun cdv A outer s H vs Q E hr h => ?_)
  · obtain ⟨_, _, _, _, _, _, rfl, _⟩ := h; rfl
  · obtain ⟨mv, dv, tv, ms, ds, t, rfl, ⟨ml, mvs, rfl, hml, pm⟩, ⟨dl, dvs, rfl, hdl, pd⟩, hz, ht, hN, k⟩ := h
    obtain ⟨z1, z2, z3, z4⟩ := hz
    have hu := hu_of hr
    have hmvl := P2.len pm
    have hdvl := P2.len pd
    refine ⟨_, (pss_cons (ps_set (i := 3) sc_c_judged.nd rfl (Or.inl rfl) (pe_lst (pa_cons (pe_tup (pa_cons (pv 2) (pa_cons pe_dnewK pa_nil))) pa_nil)))
    (pss_cons (ps_for PassesOwn.never rfl (pi_range1 rfl T.b_range (pa_cons pe_int pa_nil)) (pg_name (i := 4) sc_c_judged.nd rfl (Or.inl rfl))
      (pss_cons (ps_if (pt_not (EV.ptTruth (K := K) rfl (pv 3)))
        (pss_one (ps_ret pe_non))
        pss_nil)
      (pss_cons (ps_asg (EV.peBm0 (K := K) rfl PySem.F.plainAttrs_list PySem.F.slot_list_pop PySem.F.type_list_pop mt_pop (pv 3)) (EV.pgT (K := K) (n := 2) rfl rfl (pgs_cons (pg_name (i := 5) sc_c_judged.nd rfl (Or.inl rfl)) (pgs_cons (pg_name (i := 6) sc_c_judged.nd rfl (Or.inr rfl)) pgs_nil))))
      (pss_cons (ps_if (pt_cmpR op_eq (pe_ix (EV.ixT (K := K) rfl) (pv 5) pe_int (fun _ _ => rfl)) pe_str (nomark _))
        (pss_cons (EV.psIfM (PW.pt (pw_or (pt_not (pt_chain op_le op_lt pe_int (pe_ix (EV.ixT (K := K) rfl) (pv 5) pe_int (fun _ _ => rfl)) (pe_callB (EV.cLen (K := K) rfl) (by rfl) T.b_len (by decide +kernel) (pa_cons (pv 1) pa_nil)))) (pw_or1 (pt_not (pt_val (pe_callB (EV.cAll (K := K) rfl rfl) (by rfl) T.b_all (by decide +kernel) (pa_cons (pe_lc (own := [("p", 9)]) rfl sc_c_judged.nd (EV.piL (K := K) rfl (pe_ix (EV.ixT (K := K) rfl) (pe_ix (EV.ixL (K := K) rfl) (pv 1) (pe_ix (EV.ixT (K := K) rfl) (pv 5) pe_int (fun _ _ => rfl)) (fun _ _ => rfl)) pe_int (fun _ _ => rfl))) (blkOk_by (own := [("p", 9)]) (N := ["menus", "demands", "tree", "waiting", "turn", "part", "told", "x", "deeper", "p"]) (sc := defScope s_c_judged) (by decide +kernel)) (fun _ _ _ _ _ => (pg_name (i := 9) sc_c_judged.nd rfl (Or.inl rfl))) (fun _ _ _ _ _ => pts_nil) (fun _ _ _ _ _ => (pe_cmp (pc_din hu (pv 9) (pv 6)) (by rfl)))) pa_nil)))))))
          (pss_one (ps_ret pe_str))
          pss_nil)
        (pss_cons (ps_if (pt_cmpR (EV.opInP (K := K) rfl hr.units) (pe_callTy (EV.cTuple (K := K) rfl) (by rfl) T.b_tuple (by decide +kernel) (pa_cons (pe_lc (own := [("p", 9)]) rfl sc_c_judged.nd (EV.piL (K := K) rfl (pe_ix (EV.ixT (K := K) rfl) (pe_ix (EV.ixL (K := K) rfl) (pv 1) (pe_ix (EV.ixT (K := K) rfl) (pv 5) pe_int (fun _ _ => rfl)) (fun _ _ => rfl)) pe_int (fun _ _ => rfl))) (blkOk_by (own := [("p", 9)]) (N := ["menus", "demands", "tree", "waiting", "turn", "part", "told", "x", "deeper", "p"]) (sc := defScope s_c_judged) (by decide +kernel)) (fun _ _ _ _ _ => (pg_name (i := 9) sc_c_judged.nd rfl (Or.inl rfl))) (fun _ _ _ _ _ => pts_nil) (fun _ _ _ _ _ => (pe_dget hu (pv 6) (pv 9) (fun _ _ => rfl)))) pa_nil)) (pe_ix (EV.ixT (K := K) rfl) (pe_ix (EV.ixL (K := K) rfl) (pv 1) (pe_ix (EV.ixT (K := K) rfl) (pv 5) pe_int (fun _ _ => rfl)) (fun _ _ => rfl)) pe_int (fun _ _ => rfl)) (by rfl))
          (pss_one (ps_ret pe_str))
          pss_nil)
        (pss_one (ps_continue))))
        pss_nil)
      (pss_cons (EV.psIfM (PW.pt (pw_or (pt_not (pt_chain op_le op_lt pe_int (pe_ix (EV.ixT (K := K) rfl) (pv 5) pe_int (fun _ _ => rfl)) (pe_callB (EV.cLen (K := K) rfl) (by rfl) T.b_len (by decide +kernel) (pa_cons (pv 0) pa_nil)))) (pw_or1 (pt_cmp (pc_din hu (pe_ix (EV.ixT (K := K) rfl) (pv 5) pe_int (fun _ _ => rfl)) (pv 6)) (by rfl)))))
        (pss_one (ps_ret pe_str))
        pss_nil)
      (pss_cons (ps_if (pt_cmpR (EV.opNeP (K := K) rfl hr.units) (pe_lc (own := [("x", 7)]) rfl sc_c_judged.nd (EV.piL (K := K) rfl (pe_ix (EV.ixT (K := K) rfl) (pv 5) pe_int (fun _ _ => rfl))) (blkOk_by (own := [("x", 7)]) (N := ["menus", "demands", "tree", "waiting", "turn", "part", "told", "x", "deeper", "p"]) (sc := defScope s_c_judged) (by decide +kernel)) (fun _ _ _ _ _ => (pg_name (i := 7) sc_c_judged.nd rfl (Or.inl rfl))) (fun _ _ _ _ _ => pts_nil) (fun _ _ _ _ _ => (pe_ix (EV.ixT (K := K) rfl) (pv 7) pe_int (fun _ _ => rfl)))) (pe_ix (EV.ixL (K := K) rfl) (pv 0) (pe_ix (EV.ixT (K := K) rfl) (pv 5) pe_int (fun _ _ => rfl)) (fun _ _ => rfl)) (nomark _))
        (pss_one (ps_ret pe_str))
        pss_nil)
      (pss_one (ps_for PassesOwn.never rfl (EV.piRev (K := K) rfl (by rfl) T.b_reversed (pe_ix (EV.ixT (K := K) rfl) (pv 5) pe_int (fun _ _ => rfl))) (pg_name (i := 7) sc_c_judged.nd rfl (Or.inl rfl))
        (pss_cons (ps_set (i := 8) sc_c_judged.nd rfl (Or.inl rfl) (pe_callTy EV.cDictD (by rfl) T.b_dict (by decide +kernel) (pa_cons (pv 6) pa_nil)))
        (pss_cons (ps_dput hu (pv 8) (pe_ix (EV.ixT (K := K) rfl) (pv 5) pe_int (fun _ _ => rfl)) (pe_ix (EV.ixT (K := K) rfl) (pv 7) pe_int (fun _ _ => rfl)) rfl)
        (pss_one (ps_expr (EV.peBm (K := K) rfl PySem.F.plainAttrs_list PySem.F.slot_list_append PySem.F.type_list_append mt_append (pv 3) (pa_cons (pe_tup (pa_cons (pe_ix (EV.ixT (K := K) rfl) (pv 7) pe_int (fun _ _ => rfl)) (pa_cons (pv 8) pa_nil))) pa_nil))))))))))))))
    (pss_one (ps_ret pe_non)))), ?_⟩
    walk_at "r"
    intro d0 hd0
    refine ⟨szb rfl, fun t0 ht0 => ?_⟩
    walk_at "r"
    refine ⟨szb rfl, fun wl hwl => ?_⟩
    obtain ⟨hwl1, nwt⟩ := upd_non hwl
    obtain ⟨hwl0, nwd⟩ := upd_non hwl1
    have f0 := upd_old (o := .lst [.ref t0]) (upd_old (o := .tup [tv, .ref d0]) (upd_same (H := H) (a := d0) (o := .dK [])) ht0) hwl
    have f1 := upd_old (o := .lst [.ref t0]) (upd_same (H := upd H d0 (.dK [])) (a := t0) (o := .tup [tv, .ref d0])) hwl
    have f2 := upd_same (H := upd (upd H d0 (.dK [])) t0 (.tup [tv, .ref d0])) (a := wl) (o := .lst [.ref t0])
    have s3 : Same H (upd (upd (upd H d0 (.dK [])) t0 (.tup [tv, .ref d0])) wl (.lst [.ref t0])) := Same.new (Same.new (Same.new (Same.refl _) hd0) ht0) hwl
    walk_at "r"
    generalize upd (upd (upd H d0 (.dK [])) t0 (.tup [tv, .ref d0])) wl (.lst [.ref t0]) = H3 at f0 f1 f2 s3 ⊢
    refine for_range (n := 100000) (fun i σ H' => ∃ (vs : List V) (W : List (Tz × Tl)) (v4 v5 v6 v7 v8 v9 : Option V), σ = [some (.ref ml), some (.ref dl), some tv, some (.ref wl), v4, v5, v6, v7, v8, v9] ∧
        Same H H' ∧ H' wl = some (.lst vs) ∧ Paired (rWd H (mask wl wl H')) vs W ∧ (∀ x ∈ W, x.2.length + x.1.nn ≤ t.nn) ∧ i + tot W ≤ t.nn ∧ res ds ms W = res ds ms [(t, [])])
      ⟨_, [(t, [])], _, _, _, _, _, _, rfl, s3, f2, .cons ⟨t0, tv, .ref d0, rfl, ?_, ht, d0, [], rfl, ?_, Nat.le_refl _, fun _ => rfl⟩ .nil, fun x hx => by rw [List.mem_singleton] at hx; subst hx; simp, by rw [tot_one]; simp, rfl⟩ ?_ ?_
    · rw [mask_at nwt.symm nwt.symm]
      exact f1
    · rw [mask_at nwd.symm nwd.symm]
      exact f0
    · clear f0 f1 f2 s3
      rintro i σ H4 hi ⟨vs, W, v4, v5, v6, v7, v8, v9, rfl, s4, ew, pw, hI, hs, hres⟩
      walk_at "r"
      refine ⟨!vs.isEmpty, .inl ⟨vs, SqL.of ew, rfl⟩, ?_⟩
      refine ite_b (fun h => ?_) (fun h => ?_)
      · have hW : W = [] := by
          have h1 := P2.len pw
          have h2 : vs = [] := by simpa using h
          subst h2
          cases W with
          | nil => rfl
          | cons _ _ => cases h1
        subst hW
        walk_at "r"
        rw [← hres, res_nil] at k
        exact k _ s4
      · have hvs : vs ≠ [] := by
          intro e
          subst e
          simp at h
        obtain ⟨vs', x, rfl⟩ : ∃ vs' x, vs = vs' ++ [x] := ⟨vs.dropLast, vs.getLast hvs, (List.dropLast_concat_getLast hvs).symm⟩
        have hWl := P2.len pw
        rw [List.length_append] at hWl
        have h1x : [x].length = 1 := rfl
        obtain ⟨W', p, rfl⟩ : ∃ W' p, W = W' ++ [p] := by
          have hW : W ≠ [] := by
            intro e
            subst e
            simp at hWl
          exact ⟨W.dropLast, W.getLast hW, (List.dropLast_concat_getLast hW).symm⟩
        have hWl' : vs'.length = W'.length := by simpa using hWl
        have pw' : Paired (rWd H (mask wl wl H4)) vs' W' := by
          have := P2.take pw vs'.length
          rw [List.take_left, hWl', List.take_left] at this
          exact this
        have px : rWd H (mask wl wl H4) x p := by
          obtain ⟨p', hp', hh⟩ := P2.at' pw (i := vs'.length) (x := x) (by simp)
          have : p' = p := by
            rw [hWl'] at hp'
            simpa using hp'.symm
          rw [← this]
          exact hh
        have htl := hI p (by simp)
        have hI' : ∀ x ∈ W', x.2.length + x.1.nn ≤ t.nn := fun y hy => hI y (List.mem_append_left _ hy)
        obtain ⟨tr, told⟩ := p
        obtain ⟨ta, wv, r, rfl, hta, hwt, hT⟩ := px
        obtain ⟨dp, kvs, rfl, hdp, hkl, hkv⟩ := hT
        have eW := tot_step W' (tr, told)
        replace eW : tot (W' ++ [(tr, told)]) = tot (W' ++ (kids told tr).reverse) + 1 := eW
        rw [res_snoc] at hres
        replace htl : told.length + tr.nn ≤ t.nn := htl
        replace hkl : kvs.length ≤ told.length := hkl
        have hta4 := mask_le _ _ hta
        have hdp4 := mask_le _ _ hdp
        have naw : ta ≠ wl := ne_of hta4 ew (fun z => nomatch z)
        have ndw : dp ≠ wl := ne_of hdp4 ew (fun z => nomatch z)
        walk_at "r"
        refine i_pop (y := .ref ta) ew (by simp) ?_
        rw [List.dropLast_concat]
        have k5 : Kp wl wl H4 (upd H4 wl (.lst vs')) := Kp.refl.mut
        have s5 : Same H (upd H4 wl (.lst vs')) := Same.mut s4 hwl0
        have ew5 : upd H4 wl (.lst vs') wl = some (.lst vs') := upd_same
        have hta5 : upd H4 wl (.lst vs') ta = some (.tup [wv, .ref dp]) := upd_oth naw hta4
        have hT5 : rTl (upd H4 wl (.lst vs')) (.ref dp) told := ⟨dp, kvs, rfl, upd_oth ndw hdp4, hkl, hkv⟩
        have hdp5 : upd H4 wl (.lst vs') dp = some (.dK kvs) := upd_oth ndw hdp4
        have pw5 := P2.mono pw' fun _ _ h => (mWd H).up k5.up h
        generalize upd H4 wl (.lst vs') = H5 at k5 s5 ew5 hta5 hT5 pw5 hdp5 ⊢
        clear pw hta4 hta ew hdp pw' k5 s4 hdp4
        walk_at "r"
        cases tr with
        | leaf k' =>
          obtain ⟨wp, rfl, hwp⟩ := hwt.leaf_at
          have hwp5 := s5 _ _ hwp
          walk_at "r"
          refine ite_t (by rfl) ?_
          have hdl5 := s5 _ _ hdl
          have hres : (match flt ds ms told (.leaf k') with | some w => some w | none => res ds ms (W' ++ (kids told (Tz.leaf k')).reverse)) = res ds ms [(t, [])] := hres
          rw [flt_leaf] at hres
          walk_at "r"
          by_cases hk : 0 ≤ k' ∧ k' < (ds.length : Int)
          · obtain ⟨j, rfl⟩ : ∃ j : Nat, k' = (j : Int) := ⟨k'.toNat, by omega⟩
            have hjl : j < ds.length := by omega
            obtain ⟨d, hdk⟩ : ∃ d, ds[j]? = some d := ⟨_, List.getElem?_eq_getElem hjl⟩
            have e1 : lfB ds told (j : Int) = (!(allT told d.1) || decide (rowT told d.1 ∈ d.2)) := by
              unfold lfB
              rw [if_pos hk.1, Int.toNat_natCast, hdk]
            rw [e1] at hres
            obtain ⟨dx, hdx, dq, da, db, rfl, hdq, hps, hrv⟩ := P2.at pd hdk
            obtain ⟨pl, rfl, hpl1⟩ := rNats.at hps
            have hdz := (z4 d (List.mem_of_getElem? hdk)).1
            have hdq5 := s5 _ _ hdq
            have hpl5 := s5 _ _ hpl1
            refine i_ifM (fun b H' => b = (!allT told d.1) ∧ Same H5 H') ?_ ?_
            · walk_at "r"
              refine ite_t (decide_eq_true hk.1) ?_
              walk_at "r"
              refine ite_f (by rw [decide_eq_true (by omega)]; rfl) ?_
              walk_at "r"
              refine i_ixL hdl5 (atI_nat hdx) ?_
              walk_at "r"
              intro De hDe
              refine lc_mapL (S := rB) (ys' := d.1.map fun p : Nat => (told.lookup (p : Int)).isSome) mB (Same.refl _) hpl5 (by simp) (by rw [List.length_map]; omega) hDe ?_ ?_
              · intro j v y G H6 hv hy g k2 hk2
                rw [List.getElem?_map] at hv hy
                obtain ⟨pp, hpp, rfl⟩ := Option.map_eq_some_iff.mp hv
                rw [hpp] at hy
                cases hy
                walk_at "r"
                refine ⟨dp, _, rfl, (mTl.up g.hh hT5).get, ?_⟩
                refine hk2 _ G H6 (Grow.refl g.gh) ?_
                rw [Option.isSome_map]
                rfl
              · intro H6 G acc g gd ed pa
                rw [bls_eq pa] at ed
                walk_at "r"
                refine i_all ed ?_
                walk_at "r"
                refine ⟨?_, g.hh⟩
                unfold allT
                rw [List.all_map]
                rfl
            · rintro b H6 ⟨rfl, s6⟩
              cases ha : allT told d.1 with
              | false =>
                rw [ha] at hres
                refine ite_t (by rfl) ?_
                walk_at "r"
                have hres : some wLeaf = res ds ms [(t, [])] := hres
                rw [← hres] at k
                exact k _ (s5.trans s6)
              | true =>
                rw [ha] at hres
                refine ite_f (by rfl) ?_
                have hsm := fun (p : Nat) (hp : p ∈ d.1) => (List.all_eq_true.mp ha p hp)
                have hdl6 := s6 _ _ hdl5
                have hdq6 := s6 _ _ hdq5
                have hpl6 := s6 _ _ hpl5
                have hwp6 := s6 _ _ hwp5
                have hT6 := mTl.up s6 hT5
                walk_at "r"
                refine i_ixL hdl6 (atI_nat hdx) ?_
                walk_at "r"
                intro De hDe
                refine lc_mapL (S := rS) (ys' := rowT told d.1) mS (Same.refl _) hpl6 (by simp [rowT]) (by simp [rowT]; omega) hDe ?_ ?_
                · intro j v y G H7 hv hy g k2 hk2
                  rw [List.getElem?_map] at hv
                  obtain ⟨pp, hpp, rfl⟩ := Option.map_eq_some_iff.mp hv
                  unfold rowT at hy
                  rw [List.getElem?_map, hpp] at hy
                  cases hy
                  have hT7 := mTl.up g.hh hT6
                  walk_at "r"
                  refine ⟨dp, .str ((told.lookup (pp : Int)).getD Str.empty), rfl, ?_, ?_⟩
                  · have := hT7.get (k := (pp : Int))
                    obtain ⟨x6, hx6⟩ := Option.isSome_iff_exists.mp (hsm pp (List.mem_of_getElem? hpp))
                    rw [hx6] at this ⊢
                    exact this
                  · exact hk2 _ G H7 (Grow.refl g.gh) rfl
                · intro H7 G acc g gd ed pa
                  rw [strs_eq pa] at ed
                  have hwp7 := g.hh _ _ hwp6
                  have hdl7 := g.hh _ _ hdl6
                  have hdq7 := g.hh _ _ hdq6
                  walk_at "r"
                  intro tq htq
                  walk_at "r"
                  refine i_ixL (upd_old hdl7 htq) (atI_nat hdx) ?_
                  walk_at "r"
                  have s58 : Same H5 (upd H7 tq (.tup ((rowT told d.1).map V.str))) := fun b o e => upd_old (g.hh _ _ (s6 _ _ e)) htq
                  refine w_in eRow (rRow.of upd_same) (mRows.up (s5.trans s58) hrv) ?_
                  walk_at "r"
                  refine ite_b (fun h => ?_) (fun h => ?_)
                  · walk_at "r"
                    have h : rowT told d.1 ∈ d.2 := by simpa using h
                    rw [if_pos (by simpa using h)] at hres
                    have hres : some wLeaf = res ds ms [(t, [])] := hres
                    rw [← hres] at k
                    exact k _ (s5.trans s58)
                  · walk_at "r"
                    have h : ¬ rowT told d.1 ∈ d.2 := by simpa using h
                    rw [if_neg (by simpa using h)] at hres
                    have hres : res ds ms (W' ++ (kids told (Tz.leaf (j : Int))).reverse) = res ds ms [(t, [])] := hres
                    have ek : W' ++ (kids told (Tz.leaf (j : Int))).reverse = W' := List.append_nil _
                    rw [ek] at hres eW
                    exact ⟨vs', W', _, _, _, _, _, _, rfl, s5.trans s58, s58 _ _ ew5, P2.mono pw5 fun _ _ h => (mWd H).up (Kp.up (Kp.refl.same s58)) h, hI', by omega, hres⟩
          · have e1 : lfB ds told k' = true := by
              unfold lfB
              by_cases h0 : 0 ≤ k'
              · rw [if_pos h0, List.getElem?_eq_none (by omega)]
              · rw [if_neg h0]
            rw [e1] at hres
            have hres : some wLeaf = res ds ms [(t, [])] := hres
            rw [← hres] at k
            refine i_ifM (fun b H' => b = true ∧ H' = H5) ?_ ?_
            · walk_at "r"
              refine ite_b (fun h => ?_) (fun h => ?_)
              · have h := of_decide_eq_true h
                walk_at "r"
                refine ite_t (by rw [decide_eq_false (by omega)]; rfl) ?_
                exact ⟨rfl, rfl⟩
              · walk_at "r"
                first | exact rfl | exact ⟨rfl, rfl⟩
            · rintro b H1 ⟨rfl, rfl⟩
              refine ite_t rfl ?_
              walk_at "r"
              exact k _ s5
        | knot d brs =>
          obtain ⟨wp, wq, bvs, rfl, hwp, hwq, pb⟩ := hwt.knot_at
          have hwp5 := s5 _ _ hwp
          have hwq5 := s5 _ _ hwq
          have hml5 := s5 _ _ hml
          have hbvl : bvs.length = brs.length := P2.len pb
          have hbl : brs.length < 100000 := by
            have h1 := nnB_len brs
            rw [nn_knot] at htl
            omega
          walk_at "r"
          refine ite_f (by rfl) ?_
          have hres : (match flt ds ms told (.knot d brs) with | some w => some w | none => res ds ms (W' ++ (kids told (Tz.knot d brs)).reverse)) = res ds ms [(t, [])] := hres
          rw [flt_knot] at hres
          walk_at "r"
          refine i_ifM (fun b H' => b = knB ms told d ∧ H' = H5) ?_ ?_
          · walk_at "r"
            refine ite_b (fun h => ?_) (fun h => ?_)
            · have h := of_decide_eq_true h
              walk_at "r"
              refine ite_b (fun h2 => ?_) (fun h2 => ?_)
              · have h2 : ¬ d < (ms.length : Int) := by simpa [hmvl] using h2
                walk_at "r"
                refine ⟨?_, rfl⟩
                unfold knB
                rw [decide_eq_true (p := (ms.length : Int) ≤ d) (by omega), Bool.or_true]
                rfl
              · have h2 : d < (ms.length : Int) := by simpa [hmvl] using h2
                walk_at "r"
                refine ⟨dp, _, rfl, hT5.get, ?_⟩
                walk_at "r"
                refine ⟨?_, rfl⟩
                unfold knB
                rw [decide_eq_false (p := d < 0) (by omega), decide_eq_false (p := (ms.length : Int) ≤ d) (by omega), Option.isSome_map]
                rfl
            · have h := of_decide_eq_false h
              walk_at "r"
              refine ⟨?_, rfl⟩
              unfold knB
              rw [decide_eq_true (p := d < 0) (by omega)]
              rfl
          · rintro b H6 ⟨rfl, rfl⟩
            cases hkb : knB ms told d with
            | true =>
              rw [hkb] at hres
              have hres : some wKnot = res ds ms [(t, [])] := hres
              rw [← hres] at k
              refine ite_t (by rfl) ?_
              walk_at "r"
              exact k _ s5
            | false =>
              rw [hkb, if_neg (by decide)] at hres
              refine ite_f (by rfl) ?_
              unfold knB at hkb
              simp only [Bool.or_eq_false_iff, decide_eq_false_iff_not] at hkb
              obtain ⟨⟨ha, hb⟩, hn⟩ := hkb
              have hlk : told.lookup d = none := by simpa using hn
              obtain ⟨i5, rfl⟩ : ∃ i : Nat, d = (i : Int) := ⟨d.toNat, by omega⟩
              have hil : i5 < ms.length := by omega
              have hm : ms[i5]? = some (ms.getD i5 []) := by rw [List.getD_eq_getElem?_getD, List.getElem?_eq_getElem hil]; rfl
              rw [Int.toNat_natCast] at hres
              generalize ms.getD i5 [] = m at hm hres
              obtain ⟨mx, hmx, hmr⟩ := P2.at pm hm
              walk_at "r"
              intro De hDe
              refine lc_mapL (S := rS) (ys' := brs.map (·.1)) mS (Same.refl _) hwq5 (by rw [List.length_map]; exact hbvl) (by rw [List.length_map]; omega) hDe ?_ ?_
              · intro j v y G H7 hv hy g k2 hk2
                obtain ⟨x, hx, a, ww, rfl, ha, _⟩ := P2.at' pb hv
                rw [List.getElem?_map, hx] at hy
                cases hy
                have ha3 := g.hh _ _ (s5 _ _ ha)
                walk_at "r"
                exact hk2 _ G H7 (Grow.refl g.gh) rfl
              · intro H7 G acc g gd ed pa
                have hml7 := g.hh _ _ hml5
                have hwp7 := g.hh _ _ hwp5
                have hwq7 := g.hh _ _ hwq5
                walk_at "r"
                refine i_ixL hml7 (atI_nat hmx) ?_
                refine w_ne eStrs ⟨De, acc, rfl, ed, P2.mono pa fun _ _ h => mS.up g.gh h⟩ (mStrs.up (s5.trans g.hh) hmr) ?_
                walk_at "r"
                refine ite_b (fun h => ?_) (fun h => ?_)
                · have h : ¬ brs.map (·.1) = m := by simpa using h
                  rw [if_neg h] at hres
                  have hres : some wValue = res ds ms [(t, [])] := hres
                  rw [← hres] at k
                  walk_at "r"
                  exact k _ (s5.trans g.hh)
                · have h : brs.map (·.1) = m := by simpa using h
                  rw [if_pos h] at hres
                  have hres : res ds ms (W' ++ (kids told (Tz.knot (i5 : Int) brs)).reverse) = res ds ms [(t, [])] := hres
                  walk_at "r"
                  have ew7 := g.hh _ _ ew5
                  have hT7 := mTl.up g.hh hT5
                  have hdp7 := g.hh _ _ hdp5
                  have pw7 := P2.mono pw5 fun _ _ h => (mWd H).up (Kp.up (Kp.refl.same g.hh)) h
                  have pb7 := P2.mono pb fun _ _ h => mBz.up (s5.trans g.hh) h
                  have hWd : H7 wl = some (.lst vs') := ew7
                  refine RT.for_Itv (xs := bvs) (fun i8 σ H' => ∃ (vs2 : List V) (v7 v8 v9 : Option V), σ = [some (.ref ml), some (.ref dl), some tv, some (.ref wl), some (.int (0 + (i : Int))), some (.ref wp), some (.ref dp), v7, v8, v9] ∧
                      Same H H' ∧ Kp wl wl H7 H' ∧ H' wl = some (.lst vs2) ∧ Paired (rWd H (mask wl wl H')) vs2 (W' ++ (kids told (Tz.knot (i5 : Int) brs)).reverse.take i8))
                    ⟨vs', _, _, _, rfl, s5.trans g.hh, Kp.refl, ew7, by rw [List.take_zero, List.append_nil]; exact pw7⟩ (fun i σ H' ⟨_, _, _, _, _, s8, _⟩ => SqL.of (s8 _ _ hwq)) ?_ ?_
                  · rintro i8 x σ H8 hi8 hx ⟨vs2, v7, v8, v9, rfl, s8, k8, ew8, pw8⟩
                    obtain ⟨xb, hxb, a6, w6, rfl, ha6, ht6⟩ := P2.at' pb hx
                    have ha8 := s8 _ _ ha6
                    have hdp8 := k8 _ _ ndw ndw hdp7
                    have hpwl := P2.len pw8
                    have hwp8 := s8 _ _ hwp
                    walk_at "r"
                    refine i_dictD hdp8 fun p9 hp9 => ?_
                    walk_at "r"
                    refine i_sdput ?_
                    have n9w : p9 ≠ wl := (ne_of_none ew8 hp9).symm
                    have e9 : upd H8 p9 (.dK kvs) p9 = some (.dK kvs) := upd_same
                    have s9 : Same H8 (upd H8 p9 (.dK kvs)) := Same.new (Same.refl _) hp9
                    have ha9 := s9 _ _ ha8
                    have hwp9 := s9 _ _ hwp8
                    walk_at "r"
                    refine ⟨p9, _, rfl, DPut.k (k := .inl (i5 : Int)) e9 (sz4' (by omega)), ?_⟩
                    have T9 : rTl (upd (upd H8 p9 (.dK kvs)) p9 (.dK (putK kvs (.inl (i5 : Int)) (.str xb.1)))) (.ref p9) (told ++ [((i5 : Int), xb.1)]) := rTl.put upd_same hkl hkv hlk
                    have s10 : Same H8 (upd (upd H8 p9 (.dK kvs)) p9 (.dK (putK kvs (.inl (i5 : Int)) (.str xb.1)))) := Same.mut s9 hp9
                    have ew10 := s10 _ _ ew8
                    have ha10 := s10 _ _ ha8
                    generalize upd (upd H8 p9 (.dK kvs)) p9 (.dK (putK kvs (.inl (i5 : Int)) (.str xb.1))) = H10 at T9 s10 ew10 ha10 ⊢
                    clear e9 s9 ha9 hwp9
                    walk_at "r"
                    refine ⟨szb rfl, fun t11 ht11 => ?_⟩
                    walk_at "r"
                    have ew11 := upd_old (o := .tup [w6, .ref p9]) ew10 ht11
                    have n11 : t11 ≠ wl := (ne_of_none ew10 ht11).symm
                    have hklen : (kids told (Tz.knot (i5 : Int) brs)).length = brs.length := by
                      show (brs.map fun x => (x.2, told ++ [((i5 : Int), x.1)])).length = _
                      rw [List.length_map]
                    have htb := tot_len W'
                    have htot : tot (W' ++ (kids told (Tz.knot (i5 : Int) brs)).reverse) = tot W' + tot (kids told (Tz.knot (i5 : Int) brs)).reverse := tot_app _ _
                    rw [List.length_append, List.length_take, List.length_reverse, hklen] at hpwl
                    refine i_app ew11 (sz4' (by omega)) ?_
                    walk_at "r"
                    have s12 : Same H8 (upd H10 t11 (.tup [w6, .ref p9])) := Same.new s10 ht11
                    have k12 : Kp wl wl H8 (upd (upd H10 t11 (.tup [w6, .ref p9])) wl (.lst (vs2 ++ [.ref t11]))) := (Kp.refl.same s12).mut
                    refine ⟨_, _, _, _, rfl, Same.mut (s8.trans s12) hwl0, k8.trans k12, upd_same, ?_⟩
                    rw [List.take_add_one, List.getElem?_reverse (by rw [hklen]; omega), hklen, ← List.append_assoc]
                    have ekid : (kids told (Tz.knot (i5 : Int) brs))[brs.length - 1 - i8]? = some (xb.2, told ++ [((i5 : Int), xb.1)]) := by
                      show (brs.map fun x => (x.2, told ++ [((i5 : Int), x.1)]))[brs.length - 1 - i8]? = _
                      rw [List.getElem?_map, ← hbvl, hxb]
                      rfl
                    rw [ekid, Option.toList_some]
                    refine P2.snoc (P2.mono pw8 fun _ _ h => (mWd H).up k12.up h) ⟨t11, w6, .ref p9, rfl, ?_, ht6, ?_⟩
                    · rw [mask_at n11 n11]
                      exact upd_oth n11 upd_same
                    · obtain ⟨p', kv', e, h1, h2⟩ := T9
                      cases e
                      refine ⟨p9, kv', rfl, ?_, h2⟩
                      rw [mask_at n9w n9w]
                      exact upd_oth n9w (upd_old h1 ht11)
                  · rintro σ H8 ⟨vs2, v7, v8, v9, rfl, s8, k8, ew8, pw8⟩
                    rw [hbvl, List.take_of_length_le (by rw [List.length_reverse]; show (brs.map fun x => (x.2, told ++ [((i5 : Int), x.1)])).length ≤ _; rw [List.length_map]; exact Nat.le_refl _)] at pw8
                    walk_at "r"
                    refine ⟨vs2, _, _, _, _, _, _, _, rfl, s8, ew8, pw8, ?_, by omega, hres⟩
                    intro x hx
                    rcases List.mem_append.mp hx with hx | hx
                    · exact hI' x hx
                    · obtain ⟨y, hy, rfl⟩ := List.mem_map.mp (List.mem_reverse.mp hx)
                      rw [nn_knot] at htl
                      have := nnB_mem hy
                      rw [List.length_append]
                      show told.length + 1 + y.2.nn ≤ _
                      omega
    · rintro σ H4 ⟨vs, W, v4, v5, v6, v7, v8, v9, rfl, s4, ew, pw, hI, hs, hres⟩
      omega
end
end K9
end
section
set_option Elab.async false
/-! What a drawing def keeps: things for good grow, all but the drawing list stays, what is new is new. -/
namespace EV
open PySem PySem.Spec L2
structure GrS (s : Addr) (D H D' H' : Hp) : Prop where
  gg : Same D D'
  hh : Sb s H H'
  rg : Reg D' H' s
  rn : Rng H' s
  nw : ∀ b o, D' b = some o → D b = some o ∨ H b = none
section
variable {s p : Addr} {D H D1 H1 D2 H2 : Hp} {o : HO}
theorem GrS.refl (rg : Reg D H s) (rn : Rng H s) : GrS s D H D H := ⟨Same.refl _, Sb.refl _ _, rg, rn, fun _ _ e => .inl e⟩
theorem GrS.trans (a : GrS s D H D1 H1) (b : GrS s D1 H1 D2 H2) : GrS s D H D2 H2 where
  gg := fun c o e => b.gg _ _ (a.gg _ _ e)
  hh := a.hh.trans b.hh
  rg := b.rg
  rn := b.rn
  nw := fun c o e => by
    rcases b.nw c o e with h | h
    · exact a.nw c o h
    · cases q : H c with
      | none => exact .inr rfl
      | some u =>
        have nc : c ≠ s := b.rg.ne e
        rw [a.hh c u nc q] at h
        cases h
theorem GrS.new (a : GrS s D H D1 H1) (hp : H1 p = none) : GrS s D H (upd D1 p o) (upd H1 p o) where
  gg := fun c u e => Same.new (Same.refl _) (a.rg.free hp) _ _ (a.gg _ _ e)
  hh := a.hh.new hp
  rg := (a.rg.new hp).add upd_same (a.rg.free hp) (a.rn.ne hp)
  rn := a.rn.new hp
  nw := fun b u e => by
    by_cases q : b = p
    · subst q
      cases z : H b with
      | none => exact .inr rfl
      | some w =>
        rw [a.hh b w (a.rn.ne hp) z] at hp
        cases hp
    · rw [upd_ne q] at e
      exact a.nw b u e
theorem GrS.tmp (a : GrS s D H D1 H1) (hp : H1 p = none) : GrS s D H D1 (upd H1 p o) := ⟨a.gg, a.hh.new hp, a.rg.new hp, a.rn.new hp, a.nw⟩
theorem GrS.sb (a : GrS s D H D1 H1) (b : Sb s H1 H2) (rn : Rng H2 s) : GrS s D H D1 H2 := ⟨a.gg, a.hh.trans b, a.rg.sb b, rn, a.nw⟩
theorem GrS.mut (a : GrS s D H D1 H1) (hp : H p = none) (gp : D1 p = none) (n : s ≠ p) : GrS s D H D1 (upd H1 p o) := ⟨a.gg, a.hh.mut hp, a.rg.mut gp, a.rn.other n, a.nw⟩
theorem GrS.add (a : GrS s D H D1 H1) (hp : H p = none) (gp : D1 p = none) (h1 : H1 p = some o) (n : s ≠ p) : GrS s D H (upd D1 p o) H1 where
  gg := fun c u e => Same.new (Same.refl _) gp _ _ (a.gg _ _ e)
  hh := a.hh
  rg := a.rg.add h1 gp n.symm
  rn := a.rn
  nw := fun b u e => by
    by_cases q : b = p
    · subst q; exact .inr hp
    · rw [upd_ne q] at e; exact a.nw b u e
theorem GrS.out (a : GrS s D H D1 H1) (hp : H p = some o) (gp : D p = none) : D1 p = none := by
  cases q : D1 p with
  | none => rfl
  | some u =>
    rcases a.nw p u q with h | h
    · rw [gp] at h; cases h
    · rw [hp] at h; cases h
theorem GrS.same (a : GrS s D H D1 H1) : Same D H1 := fun b o e => a.rg.same _ _ (a.gg _ _ e)
/-- new things of a call that draws nothing -/
theorem Grow.toS {G' : Hp} (g : Grow D H G' H1) (rg : Reg D H s) (rn : Rng H s) : GrS s D H G' H1 := by
  obtain ⟨x, y, z, e⟩ := id rn
  exact ⟨g.gg, fun b o _ h => g.hh b o h, ⟨g.gh, g.out e rg.out⟩, ⟨x, y, z, g.hh _ _ e⟩, g.nw⟩
end
/-! ### trees of a problem without a solution -/
structure TOk (ms : List (List Str)) (told : Tl) : Prop where
  nd : (told.map (·.1)).Nodup
  ok : ∀ x ∈ told, 0 ≤ x.1 ∧ x.1 < (ms.length : Int) ∧ x.2 ∈ ms.getD x.1.toNat []
theorem lk_in {told : Tl} {k : Int} {x : Str} (h : told.lookup k = some x) : (k, x) ∈ told := by
  induction told with
  | nil => cases h
  | cons p r ih =>
    obtain ⟨a, y⟩ := p
    have h' : (match k == a with | true => some y | false => r.lookup k) = some x := h
    cases e : k == a with
    | true =>
      rw [e] at h'
      cases h'
      rw [eq_of_beq e]
      exact List.mem_cons_self
    | false =>
      rw [e] at h'
      exact List.mem_cons_of_mem _ (ih h')
theorem lk_free {told : Tl} {k : Int} (h : told.lookup k = none) : k ∉ told.map (·.1) := by
  induction told with
  | nil => intro hh; cases hh
  | cons p r ih =>
    obtain ⟨a, x⟩ := p
    have h' : (match k == a with | true => some x | false => r.lookup k) = none := h
    cases e : k == a with
    | true => rw [e] at h'; cases h'
    | false =>
      rw [e] at h'
      rw [List.map_cons, List.mem_cons, not_or]
      refine ⟨fun hh => ?_, ih h'⟩
      rw [hh, beq_self_eq_true] at e
      cases e
theorem TOk.more {ms : List (List Str)} {told : Tl} (h : TOk ms told) {p : Nat} {x : Str} (hp : p < ms.length) (hn : told.lookup (p : Int) = none) (hx : x ∈ ms.getD p []) : TOk ms (told ++ [((p : Int), x)]) where
  nd := by
    rw [List.map_append, List.nodup_append]
    refine ⟨h.nd, by simp, fun a ha b hb => ?_⟩
    have : b = (p : Int) := by simpa using hb
    subst this
    rintro rfl
    exact lk_free hn ha
  ok := fun y hy => by
    rcases List.mem_append.mp hy with hy | hy
    · exact h.ok y hy
    · rw [List.mem_singleton] at hy
      subst hy
      exact ⟨by show (0 : Int) ≤ (p : Int); omega, by show (p : Int) < _; omega, by show x ∈ ms.getD ((p : Int)).toNat []; rw [Int.toNat_natCast]; exact hx⟩
/-- where a variable is free, fewer are told than there are -/
theorem TOk.lt {ms : List (List Str)} {told : Tl} (h : TOk ms told) {p : Nat} (hp : p < ms.length) (hn : told.lookup (p : Int) = none) : told.length < ms.length := by
  rcases Nat.lt_or_ge told.length ms.length with e | e
  · exact e
  · exfalso
    have nd : (told.map (·.1) ++ [(p : Int)]).Nodup := by
      rw [List.nodup_append]
      refine ⟨h.nd, by simp, fun a ha b hb => ?_⟩
      rw [List.mem_singleton] at hb
      subst hb
      rintro rfl
      exact lk_free hn ha
    obtain ⟨x, hx, hno⟩ := pigeon (told.map (·.1) ++ [(p : Int)]) ((List.range ms.length).map fun n : Nat => (n : Int)) nd (by rw [List.length_append, List.length_map, List.length_map, List.length_range]; show _ < _ + 1; omega)
    apply hno
    rw [List.mem_map]
    rcases List.mem_append.mp hx with hx | hx
    · obtain ⟨y, hy, rfl⟩ := List.mem_map.mp hx
      have := h.ok y hy
      exact ⟨y.1.toNat, List.mem_range.mpr (by omega), by omega⟩
    · rw [List.mem_singleton] at hx
      subst hx
      exact ⟨p, List.mem_range.mpr hp, rfl⟩
/-- all told: a demand fails -/
theorem TOk.bad {ms : List (List Str)} {ds : List Dem} {told : Tl} (h : TOk ms told) (wf : WF ms.length ds) (hs : sol ds [] ms = none) (hall : ∀ p : Nat, p < ms.length → told.lookup (p : Int) ≠ none) : ∃ k : Nat, k < ds.length ∧ lfB ds told (k : Int) = false := by
  let c : Row := (List.range ms.length).map fun p : Nat => (told.lookup (p : Int)).getD Str.empty
  have hc : ∀ p : Nat, p < ms.length → ∃ x, told.lookup (p : Int) = some x ∧ c[p]? = some x := by
    intro p hp
    cases e : told.lookup (p : Int) with
    | none => exact absurd e (hall p hp)
    | some x => exact ⟨x, rfl, by show ((List.range ms.length).map _)[p]? = _; rw [List.getElem?_map, List.getElem?_range hp]; show some ((told.lookup (p : Int)).getD Str.empty) = _; rw [e]; rfl⟩
  have hcl : c.length = ms.length := by show ((List.range ms.length).map _).length = _; rw [List.length_map, List.length_range]
  have hm : c ∈ prodL ms := by
    have := mem_prod (ms := ms) (r := c) (fun i hi => ?_) ms.length (Nat.le_refl _)
    · rw [List.take_length, List.take_of_length_le (by rw [hcl]; exact Nat.le_refl _)] at this
      exact this
    · obtain ⟨x, hx, hcx⟩ := hc i hi
      refine ⟨x, ms[i], hcx, List.getElem?_eq_getElem hi, ?_⟩
      have := (h.ok _ (lk_in hx)).2.2
      rw [Int.toNat_natCast, List.getD_eq_getElem?_getD, List.getElem?_eq_getElem hi] at this
      exact this
  have hns : sat ds c = false := by
    rw [← find_prod] at hs
    have := List.find?_eq_none.mp hs c hm
    simpa using this
  unfold sat at hns
  rw [List.all_eq_false] at hns
  obtain ⟨d, hd, hno⟩ := hns
  obtain ⟨k, hk, ek⟩ := List.mem_iff_getElem.mp hd
  refine ⟨k, hk, ?_⟩
  have ha : allT told d.1 = true := by
    unfold allT
    rw [List.all_eq_true]
    intro p hp
    obtain ⟨x, hx, _⟩ := hc p (wf d hd p hp)
    rw [hx]
    rfl
  have hf : Fits told c := fun j x hx => by
    have h1 := h.ok _ (lk_in hx)
    have h2 : j.toNat < ms.length := by have := h1.1; have := h1.2.1; omega
    obtain ⟨y, hy, hcy⟩ := hc j.toNat h2
    rw [show ((j.toNat : Nat) : Int) = j by have := h1.1; omega, hx] at hy
    cases hy
    exact ⟨h1.1, hcy⟩
  unfold lfB
  rw [if_pos (by omega), Int.toNat_natCast, List.getElem?_eq_getElem hk, ek]
  show (!allT told d.1 || decide (rowT told d.1 ∈ d.2)) = false
  rw [ha, rowT_eq hf ha]
  simpa using hno
def nb : Nat → Nat
  | 0 => 1
  | k + 1 => 1 + 3 * nb k
end EV
end
section
set_option Elab.async false
set_option maxRecDepth 100000
set_option maxHeartbeats 4000000
namespace K9
open PySem PySem.Spec L2 EV
local macro_rules | `(tactic| walk_at "hp") => `(tactic| first | assumption | exact upd_same | (refine upd_old ?_ (by assumption); walk_at "hp") | (refine upd_oth (by first | assumption | (apply Ne.symm; assumption)) ?_; walk_at "hp"))
local macro_rules | `(tactic| walk_at "kb") => `(tactic| first | exact kb_NoneType_bool | exact kb_NoneType_int | exact kb_NoneType_str | exact kb_NoneType_dict | exact kb_NoneType_list | exact kb_NoneType_tuple | exact kb_bool_bool | exact kb_bool_int | exact kb_bool_str | exact kb_bool_dict | exact kb_bool_list | exact kb_bool_tuple | exact kb_int_bool | exact kb_int_int | exact kb_int_str | exact kb_int_dict | exact kb_int_list | exact kb_int_tuple | exact kb_str_bool | exact kb_str_int | exact kb_str_str | exact kb_str_dict | exact kb_str_list | exact kb_str_tuple | exact kb_list_bool | exact kb_list_int | exact kb_list_str | exact kb_list_dict | exact kb_list_list | exact kb_list_tuple | exact kb_tuple_bool | exact kb_tuple_int | exact kb_tuple_str | exact kb_tuple_dict | exact kb_tuple_list | exact kb_tuple_tuple)
local macro_rules | `(tactic| walk_at "ty") => `(tactic| first | exact tx_int | exact tx_str | exact tx_non | exact tx_bl | exact tx_lst (by walk_at "hp") | exact tx_tup (by walk_at "hp"))
local macro_rules | `(tactic| walk_at "r1") => `(tactic| first
  | ((with_reducible refine' i_var ?e1 ?_); (case e1 => rfl)) | with_reducible refine i_seq ?_ | with_reducible refine i_c ?_ | with_reducible refine i_op ?_ | with_reducible refine i_I0 ?_
  | with_reducible refine i_asg ?_ | with_reducible refine i_gname ?_ | with_reducible refine i_nil ?_ | with_reducible refine i_cons ?_ | with_reducible refine i_cb ?_ | with_reducible refine i_call ?_
  | with_reducible refine i_test ?_ | with_reducible refine i_tB ?_ | with_reducible refine i_bl ?_ | with_reducible refine i_int ?_ | with_reducible refine i_if ?_ | with_reducible refine i_ifx ?_
  | with_reducible refine i_ret ?_ | with_reducible refine i_retN ?_ | with_reducible refine i_drop ?_ | with_reducible refine i_next ?_ | with_reducible refine i_break ?_ | with_reducible refine i_cont ?_
  | with_reducible refine i_par ?_ | with_reducible refine i_par1 ?_ | with_reducible refine i_and ?_ | with_reducible refine i_or ?_ | with_reducible refine i_not ?_ | with_reducible refine i_truth ?_
  | with_reducible refine i_andV ?_ | with_reducible refine i_orV ?_ | with_reducible refine i_tup ?_ | with_reducible refine i_lst ?_ | with_reducible refine i_un ?_ | with_reducible refine i_U ?_
  | with_reducible refine i_bm ?_ | with_reducible refine i_bm0 ?_ | with_reducible refine i_sl ?_ | with_reducible refine i_nopart ?_ | with_reducible refine i_part ?_ | with_reducible refine i_fld ?_
  | with_reducible refine i_gsub ?_ | with_reducible refine i_gcons ?_ | with_reducible refine i_gnil ?_
  | ((with_reducible refine' i_eq ?e1 ?_); (case e1 => rfl)) | ((with_reducible refine' i_ne ?e1 ?_); (case e1 => rfl))
  | ((with_reducible refine' i_I ?e1 ?_); (case e1 => first | decide | exact .inr ⟨by decide, by decide⟩ | exact ⟨by decide, by decide⟩ | assumption))
  | ((with_reducible refine' i_ixL ?e1 ?e2 ?_); (case e1 => walk_at "hp"); (case e2 => first | rfl | assumption))
  | ((with_reducible refine' i_ixT ?e1 ?e2 ?_); (case e1 => walk_at "hp"); (case e2 => first | rfl | assumption))
  | ((with_reducible refine' i_len ?e1 ?_); (case e1 => walk_at "hp")) | ((with_reducible refine' i_lenT ?e1 ?_); (case e1 => walk_at "hp"))
  | ((with_reducible refine' i_gtup ?e1 ?e2 ?_); (case e1 => walk_at "hp"); (case e2 => rfl))
  | ((with_reducible refine' i_set ?e1 ?e2 ?_); (case e1 => walk_at "hp"); (case e2 => rfl))
  | with_reducible refine i_int1 ?_ | with_reducible refine i_abs1 ?_ | with_reducible refine i_max2 ?_ | with_reducible refine i_min2 ?_ | with_reducible refine i_non ?_ | with_reducible refine i_nnon ?_
  | with_reducible refine i_for ?_ | with_reducible refine i_irng1 ?_ | with_reducible refine i_ilist ?_ | with_reducible refine i_itup ?_ | with_reducible refine i_ienum ?_ | with_reducible refine i_irev ?_ | with_reducible refine i_izip ?_ | with_reducible refine i_lc ?_ | with_reducible refine i_yes ?_ | with_reducible refine i_notV ?_ | ((with_reducible refine' i_isi ?e1 ?e2 ?_); (case e1 => walk_at "ty"); (case e2 => walk_at "kb")) | with_reducible refine i_meth ?_ | with_reducible refine i_make ?_ | with_reducible refine i_din ?_ | with_reducible refine i_dni ?_ | with_reducible refine i_dget ?_ | with_reducible refine i_dcT ?_ | with_reducible refine i_sfld ?_ | with_reducible refine i_chain ?_ | ((with_reducible refine' i_tuple ?e1 ?_); (case e1 => walk_at "hp")) | ((with_reducible refine' i_list ?e1 ?_); (case e1 => walk_at "hp")) | with_reducible refine iteT ?_ | with_reducible refine iteF ?_ | with_reducible refine iteNF ?_ | with_reducible refine iteNT ?_
  | ((with_reducible refine' i_ilistE ?e1 ?_); (case e1 => walk_at "hp")) | ((with_reducible refine' i_itupE ?e1 ?_); (case e1 => walk_at "hp")) | ((with_reducible refine' i_ienumE ?e1 ?_); (case e1 => walk_at "hp")) | ((with_reducible refine' i_irevE ?e1 ?_); (case e1 => walk_at "hp"))
  | ((with_reducible refine' i_rng1 ?e1 ?_); (case e1 => first | omega | decide); (try with_reducible rw [Int.toNat_natCast]))
  | ((with_reducible refine' And.intro ?e1 ?_); (case e1 => first | exact i_ty (by walk_at "hp") | rfl)))
local macro_rules | `(tactic| walk_at "r") => `(tactic| repeat walk_at "r1")

section
variable {P : Program} {w : World} {K : PySem.W.Frag} {mg : Str → Option Value} {base : Heap}
def optN : Option Nat → V
  | none => .non
  | some k => .int k
/-- the first half of a hit -/
def hitA (told : List Str) (d : Dem) : Bool := (decide (0 < told.length ∧ told.length - 1 ∈ d.1) || decide (told.length = 0)) && d.1.all (fun p => decide (p < told.length)) && !decide (rowOf told d.1 ∈ d.2)
def spFirst : Sp := fun vs H Q _ => ∃ (dv tv : V) (ds : List Dem) (told : List Str), vs = [dv, tv, .int told.length] ∧ rDems H dv ds ∧ rStrs H tv told ∧ ds.length ≤ 100000 ∧ told.length ≤ 100000 ∧ (∀ d ∈ ds, d.1.length ≤ 100000) ∧
  ∀ H', Same H H' → Q (optN (brk ds told)) H'
theorem ok_c_first (T : Txt K mg) : FnOk P w K mg base CX0 1 T.a_c_first T.fd_c_first ["demands", "told", "many"] spFirst := by
  refine T.F_c_first.ok sc_c_first (fun vs H Q E h => ?_) (fun cdv A outer s H vs Q E hr h => ?_)
  · obtain ⟨_, _, _, _, rfl, _⟩ := h; rfl
  · obtain ⟨dv, tv, ds, told, rfl, ⟨dl, dvs, rfl, hdl, pd⟩, ht, hdn, htn, hpl, k⟩ := h
    obtain ⟨tl, rfl, htl⟩ := ht.at
    have hdlen := P2.len pd
    refine ⟨_, (pss_cons (ps_for PassesOwn.never rfl (pi_range1 rfl T.b_range (pa_cons (pe_callB (EV.cLen (K := K) rfl) (by rfl) T.b_len (by decide +kernel) (pa_cons (pv 0) pa_nil)) pa_nil)) (pg_name (i := 3) sc_c_first.nd rfl (Or.inl rfl))
      (pss_cons (ps_set (i := 4) sc_c_first.nd rfl (Or.inl rfl) (pe_ix (EV.ixT (K := K) rfl) (pe_ix (EV.ixL (K := K) rfl) (pv 0) (pv 3) (fun _ _ => rfl)) pe_int (fun _ _ => rfl)))
      (pss_cons (EV.psIfM (PW.pt (EV.pwAndM (PW.pt (pw_or (pt_cmpR (EV.opInS (K := K) rfl) (pe_op op_sub (pv 2) pe_int) (pv 4) (by rfl)) (pw_or1 (pt_cmpR op_eq (pv 2) pe_int (nomark _))))) (pw_and (pt_val (pe_callB (EV.cAll (K := K) rfl rfl) (by rfl) T.b_all (by decide +kernel) (pa_cons (pe_lc (own := [("p", 5)]) rfl sc_c_first.nd (EV.piL (K := K) rfl (pv 4)) (blkOk_by (own := [("p", 5)]) (N := ["demands", "told", "many", "k", "places", "p"]) (sc := defScope s_c_first) (by decide +kernel)) (fun _ _ _ _ _ => (pg_name (i := 5) sc_c_first.nd rfl (Or.inl rfl))) (fun _ _ _ _ _ => pts_nil) (fun _ _ _ _ _ => (pe_chain op_le op_lt pe_int (pv 5) (pv 2)))) pa_nil))) (pw_and1 (pt_cmpR (EV.opNiP (K := K) rfl hr.units) (pe_callTy (EV.cTuple (K := K) rfl) (by rfl) T.b_tuple (by decide +kernel) (pa_cons (pe_lc (own := [("p", 5)]) rfl sc_c_first.nd (EV.piL (K := K) rfl (pv 4)) (blkOk_by (own := [("p", 5)]) (N := ["demands", "told", "many", "k", "places", "p"]) (sc := defScope s_c_first) (by decide +kernel)) (fun _ _ _ _ _ => (pg_name (i := 5) sc_c_first.nd rfl (Or.inl rfl))) (fun _ _ _ _ _ => pts_nil) (fun _ _ _ _ _ => (pe_ix (EV.ixL (K := K) rfl) (pv 1) (pv 5) (fun _ _ => rfl)))) pa_nil)) (pe_ix (EV.ixT (K := K) rfl) (pe_ix (EV.ixL (K := K) rfl) (pv 0) (pv 3) (fun _ _ => rfl)) pe_int (fun _ _ => rfl)) (by rfl))))))
        (pss_one (ps_ret (pv 3)))
        pss_nil)
      (pss_one (EV.psIfM (PW.pt (pw_and (pt_cmpR (EV.opEqP (K := K) rfl hr.units) (pv 4) (pe_lst pa_nil) (nomark _)) (pw_and1 (pt_cmpR (EV.opNiP (K := K) rfl hr.units) (pe_tup pa_nil) (pe_ix (EV.ixT (K := K) rfl) (pe_ix (EV.ixL (K := K) rfl) (pv 0) (pv 3) (fun _ _ => rfl)) pe_int (fun _ _ => rfl)) (by rfl)))))
        (pss_one (ps_ret (pv 3)))
        pss_nil)))))
    (pss_one (ps_ret pe_non))), ?_⟩
    walk_at "r"
    refine for_range (n := dvs.length) (fun i σ H' => ∃ v3 v4 v5 : Option V, σ = [some (.ref dl), some (.ref tl), some (.int told.length), v3, v4, v5] ∧ Same H H' ∧ ∀ j d, j < i → ds[j]? = some d → hit told d = false)
      ⟨_, _, _, rfl, Same.refl _, fun j d hj => absurd hj (Nat.not_lt_zero _)⟩ ?_ ?_
    · rintro i σ H1 hi ⟨v3, v4, v5, rfl, s1, hall⟩
      have hd1 := s1 _ _ hdl
      have ht1 := s1 _ _ htl
      obtain ⟨x, hx⟩ : ∃ x, dvs[i]? = some x := ⟨dvs[i], List.getElem?_eq_getElem hi⟩
      obtain ⟨d, hd, dp, pv, rv, rfl, hdp, hpv, hrv⟩ := P2.at' pd hx
      have hbrk : hit told d = true → brk ds told = some i := by
        intro e
        refine List.findIdx?_eq_some_iff_getElem.mpr ⟨(List.getElem?_eq_some_iff.mp hd).1, ?_, fun j hj => ?_⟩
        · rw [(List.getElem?_eq_some_iff.mp hd).2]; exact e
        · rw [hall j _ hj (List.getElem?_eq_getElem _)]; decide
      obtain ⟨pl, rfl, hpl1⟩ := hpv.at
      have hplen := hpl d (List.mem_of_getElem? hd)
      have hdp1 := s1 _ _ hdp
      have hpp1 := s1 _ _ hpl1
      rw [Int.zero_add]
      walk_at "r"
      refine i_ixL hd1 (atI_nat hx) ?_
      walk_at "r"
      refine i_ifM (fun b H' => b = hitA told d ∧ Same H H') ?_ ?_
      · walk_at "r"
        refine i_andM (fun b H' => b = (decide (0 < told.length ∧ told.length - 1 ∈ d.1) || decide (told.length = 0)) ∧ H' = H1) ?_ ?_
        · walk_at "r"
          refine i_inN hpp1 ?_
          have e1 : (d.1.any fun n => decide ((n : Int) = (told.length : Int) - 1)) = decide (0 < told.length ∧ told.length - 1 ∈ d.1) := by
            rw [Bool.eq_iff_iff, List.any_eq_true, decide_eq_true_eq]
            constructor
            · rintro ⟨n, hn, e⟩
              have e := of_decide_eq_true e
              have : n = told.length - 1 := by omega
              exact ⟨by omega, this ▸ hn⟩
            · rintro ⟨h0, hn⟩
              exact ⟨_, hn, by simp; omega⟩
          rw [e1]
          walk_at "r"
          refine ite_b (fun h => ?_) (fun h => ?_)
          · exact ⟨by rw [h]; rfl, rfl⟩
          · walk_at "r"
            refine ⟨?_, rfl⟩
            rw [h]
            simp
        · rintro c H2 ⟨rfl, rfl⟩
          refine ite_b (fun h => ?_) (fun h => ?_)
          · walk_at "r"
            intro D hD
            refine lc_mapL (S := rB) (ys' := d.1.map fun p => decide (p < told.length)) mB (Same.refl _) hpp1 (by simp) (by simp; omega) hD ?_ ?_
            · intro i v y G H' hv hy g1 k2 hk2
              rw [List.getElem?_map] at hv hy
              obtain ⟨p, hp, rfl⟩ := Option.map_eq_some_iff.mp hv
              rw [hp] at hy
              cases hy
              walk_at "r"
              refine ite_t (by simp) ?_
              walk_at "r"
              exact hk2 _ G H' (Grow.refl g1.gh) (by show V.bl _ = V.bl _; simp)
            · intro H2 G acc g1 gd ed pa
              rw [bls_eq pa] at ed
              walk_at "r"
              refine i_all ed ?_
              walk_at "r"
              have e3 : ((d.1.map fun p => decide (p < told.length)).all id) = d.1.all fun p => decide (p < told.length) := by rw [List.all_map]; rfl
              rw [e3]
              have s2 : Same H H2 := fun b o e => g1.hh _ _ (s1 _ _ e)
              refine ite_b (fun h2 => ?_) (fun h2 => ?_)
              · have hps : ∀ p ∈ d.1, p < told.length := fun p hp => of_decide_eq_true (List.all_eq_true.mp h2 p hp)
                have hpp2 := s2 _ _ hpl1
                have ht2 := s2 _ _ htl
                walk_at "r"
                intro D2 hD2
                refine lc_mapL (S := rS) (ys' := rowOf told d.1) mS (Same.refl _) hpp2 (by simp [rowOf]) (by simp [rowOf]; omega) hD2 ?_ ?_
                · intro i v y G2 H' hv hy g2 k2 hk2
                  rw [List.getElem?_map] at hv
                  obtain ⟨p, hp, rfl⟩ := Option.map_eq_some_iff.mp hv
                  unfold rowOf at hy
                  rw [List.getElem?_map, hp] at hy
                  cases hy
                  have hpt := hps p (List.mem_of_getElem? hp)
                  have ht3 := g2.hh _ _ ht2
                  walk_at "r"
                  refine i_ixL ht3 (atI_nat (j := p) (v := .str (told.getD p Str.empty)) (by rw [List.getElem?_map, List.getD_eq_getElem?_getD, List.getElem?_eq_getElem hpt]; rfl)) ?_
                  exact hk2 _ G2 H' (Grow.refl g2.gh) rfl
                · intro H3 G3 acc3 g3 gd3 ed3 pa3
                  rw [strs_eq pa3] at ed3
                  have s3 : Same H H3 := fun b o e => g3.hh _ _ (s2 _ _ e)
                  have hd3 := s3 _ _ hdl
                  have hdp3 := s3 _ _ hdp
                  walk_at "r"
                  intro tp htp
                  walk_at "r"
                  refine i_ixL (upd_old hd3 htp) (atI_nat hx) ?_
                  walk_at "r"
                  refine w_ni eRow (rRow.of upd_same) (mRows.up (fun b o e => upd_old (s3 b o e) htp) hrv) ?_
                  walk_at "r"
                  exact ⟨by unfold hitA; rw [h, h2]; simp, Same.new s3 htp⟩
              · exact ⟨by unfold hitA; rw [h, h2]; rfl, s2⟩
          · exact ⟨by unfold hitA; rw [h]; rfl, s1⟩
      · rintro b H2 ⟨rfl, s2⟩
        have hd2 := s2 _ _ hdl
        have hdp2 := s2 _ _ hdp
        have hpp2 := s2 _ _ hpl1
        refine ite_b (fun h => ?_) (fun h => ?_)
        · walk_at "r"
          have := k H2 s2
          rw [hbrk (by unfold hit; unfold hitA at h; rw [h]; rfl)] at this
          exact this
        · walk_at "r"
          refine i_ifM (fun b H' => b = hit told d ∧ Same H H') ?_ ?_
          · walk_at "r"
            refine ⟨szb rfl, fun p5 hp5 => ?_⟩
            refine w_eq (R := rNats) (x := d.1) (y := []) eNats (rNats.of (upd_old hpp2 hp5)) (rNats.of upd_same) ?_
            walk_at "r"
            refine ite_b (fun h2 => ?_) (fun h2 => ?_)
            · walk_at "r"
              refine ⟨szb rfl, fun p6 hp6 => ?_⟩
              have hd6 := upd_old (o := .tup []) (upd_old (o := .lst []) hd2 hp5) hp6
              have s6 : Same H (upd (upd H2 p5 (.lst [])) p6 (.tup [])) := Same.new (Same.new s2 hp5) hp6
              have hdp6 := s6 _ _ hdp
              walk_at "r"
              refine i_ixL hd6 (atI_nat hx) ?_
              walk_at "r"
              refine w_ni (x := ([] : List Str)) eRow (rRow.of upd_same) (mRows.up s6 hrv) ?_
              walk_at "r"
              refine ⟨?_, s6⟩
              unfold hitA at h
              unfold hit
              rw [h, of_decide_eq_true h2]
              simp
            · refine ⟨?_, Same.new s2 hp5⟩
              unfold hitA at h
              unfold hit
              rw [h, h2]
              rfl
          · rintro b H3 ⟨rfl, s3⟩
            refine ite_b (fun h2 => ?_) (fun h2 => ?_)
            · walk_at "r"
              have := k H3 s3
              rw [hbrk h2] at this
              exact this
            · walk_at "r"
              refine ⟨_, _, _, rfl, s3, fun j d' hj hd' => ?_⟩
              rcases Nat.lt_succ_iff_lt_or_eq.mp hj with hj | hj
              · exact hall j d' hj hd'
              · subst hj
                rw [hd] at hd'
                cases hd'
                exact h2
    · rintro σ H1 ⟨v3, v4, v5, rfl, s1, hall⟩
      walk_at "r"
      have hb : brk ds told = none := by
        refine List.findIdx?_eq_none_iff.mpr fun d hd => ?_
        obtain ⟨j, hj⟩ := List.getElem?_of_mem hd
        have := hall j d (by have := (List.getElem?_eq_some_iff.mp hj).1; omega) hj
        rw [this]
      have := k H1 s1
      rw [hb] at this
      exact this
end
end K9
end
section
set_option Elab.async false
set_option maxRecDepth 100000
set_option maxHeartbeats 8000000
namespace K9
open PySem PySem.Spec L2 EV
local macro_rules | `(tactic| walk_at "hp") => `(tactic| first | assumption | exact upd_same | (refine upd_old ?_ (by assumption); walk_at "hp") | (refine upd_oth (by first | assumption | (apply Ne.symm; assumption)) ?_; walk_at "hp"))
local macro_rules | `(tactic| walk_at "kb") => `(tactic| first | exact kb_NoneType_bool | exact kb_NoneType_int | exact kb_NoneType_str | exact kb_NoneType_dict | exact kb_NoneType_list | exact kb_NoneType_tuple | exact kb_bool_bool | exact kb_bool_int | exact kb_bool_str | exact kb_bool_dict | exact kb_bool_list | exact kb_bool_tuple | exact kb_int_bool | exact kb_int_int | exact kb_int_str | exact kb_int_dict | exact kb_int_list | exact kb_int_tuple | exact kb_str_bool | exact kb_str_int | exact kb_str_str | exact kb_str_dict | exact kb_str_list | exact kb_str_tuple | exact kb_list_bool | exact kb_list_int | exact kb_list_str | exact kb_list_dict | exact kb_list_list | exact kb_list_tuple | exact kb_tuple_bool | exact kb_tuple_int | exact kb_tuple_str | exact kb_tuple_dict | exact kb_tuple_list | exact kb_tuple_tuple)
local macro_rules | `(tactic| walk_at "ty") => `(tactic| first | exact tx_int | exact tx_str | exact tx_non | exact tx_bl | exact tx_lst (by walk_at "hp") | exact tx_tup (by walk_at "hp"))
local macro_rules | `(tactic| walk_at "r1") => `(tactic| first
  | ((with_reducible refine' i_var ?e1 ?_); (case e1 => rfl)) | with_reducible refine i_seq ?_ | with_reducible refine i_c ?_ | with_reducible refine i_op ?_ | with_reducible refine i_I0 ?_
  | with_reducible refine i_asg ?_ | with_reducible refine i_gname ?_ | with_reducible refine i_nil ?_ | with_reducible refine i_cons ?_ | with_reducible refine i_cb ?_ | with_reducible refine i_call ?_
  | with_reducible refine i_test ?_ | with_reducible refine i_tB ?_ | with_reducible refine i_bl ?_ | with_reducible refine i_int ?_ | with_reducible refine i_if ?_ | with_reducible refine i_ifx ?_
  | with_reducible refine i_ret ?_ | with_reducible refine i_retN ?_ | with_reducible refine i_drop ?_ | with_reducible refine i_next ?_ | with_reducible refine i_break ?_ | with_reducible refine i_cont ?_
  | with_reducible refine i_par ?_ | with_reducible refine i_par1 ?_ | with_reducible refine i_and ?_ | with_reducible refine i_or ?_ | with_reducible refine i_not ?_ | with_reducible refine i_truth ?_
  | with_reducible refine i_andV ?_ | with_reducible refine i_orV ?_ | with_reducible refine i_tup ?_ | with_reducible refine i_lst ?_ | with_reducible refine i_un ?_ | with_reducible refine i_U ?_
  | with_reducible refine i_bm ?_ | with_reducible refine i_bm0 ?_ | with_reducible refine i_sl ?_ | with_reducible refine i_nopart ?_ | with_reducible refine i_part ?_ | with_reducible refine i_fld ?_
  | with_reducible refine i_gsub ?_ | with_reducible refine i_gcons ?_ | with_reducible refine i_gnil ?_
  | ((with_reducible refine' i_eq ?e1 ?_); (case e1 => rfl)) | ((with_reducible refine' i_ne ?e1 ?_); (case e1 => rfl))
  | ((with_reducible refine' i_I ?e1 ?_); (case e1 => first | decide | exact .inr ⟨by decide, by decide⟩ | exact ⟨by decide, by decide⟩ | assumption))
  | ((with_reducible refine' i_ixL ?e1 ?e2 ?_); (case e1 => walk_at "hp"); (case e2 => first | rfl | assumption))
  | ((with_reducible refine' i_ixT ?e1 ?e2 ?_); (case e1 => walk_at "hp"); (case e2 => first | rfl | assumption))
  | ((with_reducible refine' i_len ?e1 ?_); (case e1 => walk_at "hp")) | ((with_reducible refine' i_lenT ?e1 ?_); (case e1 => walk_at "hp"))
  | ((with_reducible refine' i_gtup ?e1 ?e2 ?_); (case e1 => walk_at "hp"); (case e2 => rfl))
  | ((with_reducible refine' i_set ?e1 ?e2 ?_); (case e1 => walk_at "hp"); (case e2 => rfl))
  | with_reducible refine i_int1 ?_ | with_reducible refine i_abs1 ?_ | with_reducible refine i_max2 ?_ | with_reducible refine i_min2 ?_ | with_reducible refine i_non ?_ | with_reducible refine i_nnon ?_
  | with_reducible refine i_for ?_ | with_reducible refine i_irng1 ?_ | with_reducible refine i_ilist ?_ | with_reducible refine i_itup ?_ | with_reducible refine i_ienum ?_ | with_reducible refine i_irev ?_ | with_reducible refine i_izip ?_ | with_reducible refine i_lc ?_ | with_reducible refine i_yes ?_ | with_reducible refine i_notV ?_ | ((with_reducible refine' i_isi ?e1 ?e2 ?_); (case e1 => walk_at "ty"); (case e2 => walk_at "kb")) | with_reducible refine i_meth ?_ | with_reducible refine i_make ?_ | with_reducible refine i_din ?_ | with_reducible refine i_dni ?_ | with_reducible refine i_dget ?_ | with_reducible refine i_dcT ?_ | with_reducible refine i_sfld ?_ | with_reducible refine i_chain ?_ | ((with_reducible refine' i_tuple ?e1 ?_); (case e1 => walk_at "hp")) | ((with_reducible refine' i_list ?e1 ?_); (case e1 => walk_at "hp")) | with_reducible refine iteT ?_ | with_reducible refine iteF ?_ | with_reducible refine iteNF ?_ | with_reducible refine iteNT ?_
  | ((with_reducible refine' i_ilistE ?e1 ?_); (case e1 => walk_at "hp")) | ((with_reducible refine' i_itupE ?e1 ?_); (case e1 => walk_at "hp")) | ((with_reducible refine' i_ienumE ?e1 ?_); (case e1 => walk_at "hp")) | ((with_reducible refine' i_irevE ?e1 ?_); (case e1 => walk_at "hp"))
  | ((with_reducible refine' i_rng1 ?e1 ?_); (case e1 => first | omega | decide); (try with_reducible rw [Int.toNat_natCast]))
  | ((with_reducible refine' And.intro ?e1 ?_); (case e1 => first | exact i_ty (by walk_at "hp") | rfl)))
local macro_rules | `(tactic| walk_at "r") => `(tactic| repeat walk_at "r1")

section
variable {P : Program} {w : World} {K : PySem.W.Frag} {mg : Str → Option Value} {base : Heap}
def optS (H' : Hp) (v : V) : Option (List Str) → Prop
  | none => v = .non
  | some c => rStrs H' v c
def spLeast : Sp := fun vs H Q _ => ∃ (mv dv : V) (ms : List (List Str)) (ds : List Dem), vs = [mv, dv] ∧ rMenus H mv ms ∧ rDems H dv ds ∧ SizeOk ms ds ∧ WF ms.length ds ∧ fN ms < 100000 ∧ ∀ H' v, Same H H' → optS H' v (sol ds [] ms) → Q v H'
theorem ok_c_least (T : Txt K mg) : FnOk P w K mg base CX0 2 T.a_c_least T.fd_c_least ["menus", "demands"] spLeast := by
  refine T.F_c_least.ok sc_c_least (fun vs H Q E h => ?_) (fun cdv A outer s H vs Q E hr h => ?_)
  · obtain ⟨_, _, _, _, rfl, _⟩ := h; rfl
  · obtain ⟨mv, dv, ms, ds, rfl, ⟨ml, mvs, rfl, hml, pm⟩, hd, hz, wf, hN, k⟩ := h
    obtain ⟨z1, z2, z3, z4⟩ := hz
    have hr1 : Room 1 _ := hr.mono (by decide)
    refine ⟨_, (pss_cons (ps_set (i := 2) sc_c_least.nd rfl (Or.inl rfl) (pe_lst (pa_cons (pe_tup pa_nil) pa_nil)))
    (pss_cons (ps_for PassesOwn.never rfl (pi_range1 rfl T.b_range (pa_cons pe_int pa_nil)) (pg_name (i := 3) sc_c_least.nd rfl (Or.inl rfl))
      (pss_cons (ps_if (pt_not (EV.ptTruth (K := K) rfl (pv 2)))
        (pss_one (ps_break))
        pss_nil)
      (pss_cons (ps_set (i := 4) sc_c_least.nd rfl (Or.inr rfl) (EV.peBm0 (K := K) rfl PySem.F.plainAttrs_list PySem.F.slot_list_pop PySem.F.type_list_pop mt_pop (pv 2)))
      (pss_cons (ps_if (pt_cmpR EV.opNotN (pe_call (ok_c_first T) hr1 rfl T.m_c_first T.F_c_first.kp (bd_c_first T) .nil pass0 (pa_cons (pv 1) (pa_cons (pe_callTy (EV.cList (K := K) rfl) (by rfl) T.b_list (by decide +kernel) (pa_cons (pv 4) pa_nil)) (pa_cons (pe_callB (EV.cLen (K := K) rfl) (by rfl) T.b_len (by decide +kernel) (pa_cons (pv 4) pa_nil)) pa_nil)))) pe_non (nomark _))
        (pss_one (ps_continue))
        pss_nil)
      (pss_cons (ps_if (pt_cmpR op_eq (pe_callB (EV.cLen (K := K) rfl) (by rfl) T.b_len (by decide +kernel) (pa_cons (pv 4) pa_nil)) (pe_callB (EV.cLen (K := K) rfl) (by rfl) T.b_len (by decide +kernel) (pa_cons (pv 0) pa_nil)) (nomark _))
        (pss_one (ps_ret (pe_callTy (EV.cList (K := K) rfl) (by rfl) T.b_list (by decide +kernel) (pa_cons (pv 4) pa_nil))))
        pss_nil)
      (pss_one (ps_set (i := 2) sc_c_least.nd rfl (Or.inl rfl) (pe_op op_cat (pv 2) (pe_lc (own := [("x", 5)]) rfl sc_c_least.nd (EV.piRev (K := K) rfl (by rfl) T.b_reversed (pe_ix (EV.ixL (K := K) rfl) (pv 0) (pe_callB (EV.cLen (K := K) rfl) (by rfl) T.b_len (by decide +kernel) (pa_cons (pv 4) pa_nil)) (fun _ _ => rfl))) (blkOk_by (own := [("x", 5)]) (N := ["menus", "demands", "waiting", "turn", "part", "x"]) (sc := defScope s_c_least) (by decide +kernel)) (fun _ _ _ _ _ => (pg_name (i := 5) sc_c_least.nd rfl (Or.inl rfl))) (fun _ _ _ _ _ => pts_nil) (fun _ _ _ _ _ => (pe_op (EV.opCatT (K := K) rfl) (pv 4) (pe_tup (pa_cons (pv 5) pa_nil)))))))))))))
    (pss_one (ps_ret pe_non)))), ?_⟩
    walk_at "r"
    have hmlen := P2.len pm
    refine ⟨szb rfl, fun t0 ht0 => ?_⟩
    walk_at "r"
    refine ⟨szb rfl, fun w0 hw0 => ?_⟩
    obtain ⟨hw00, n0⟩ := upd_non hw0
    walk_at "r"
    refine for_range (n := 100000) (fun i σ H' => ∃ (wl : Addr) (vs : List V) (W : List (List Str)) (v3 v4 v5 : Option V), σ = [some (.ref ml), some dv, some (.ref wl), v3, v4, v5] ∧ Same H H' ∧ H wl = none ∧ H' wl = some (.lst vs) ∧ Paired (rRow H') vs W ∧ LInv ds ms W ∧ sumN ms W + i ≤ fN ms ∧ vs.length ≤ 100000)
      ⟨w0, _, [[]], _, _, _, rfl, Same.new (Same.new (Same.refl _) ht0) hw0, hw00, upd_same, .cons ⟨t0, [], rfl, upd_old upd_same hw0, .nil⟩ .nil, LInv.start, by simp [sumN], Nat.le_of_ble_eq_true rfl⟩ ?_ ?_
    · rintro i σ H1 hi ⟨wl, vs, W, v3, v4, v5, rfl, s1, hwn, hwl, pw, hI, hs, hvl⟩
      walk_at "r"
      refine ⟨!vs.isEmpty, .inl ⟨vs, SqL.of hwl, rfl⟩, ?_⟩
      refine ite_b (fun h => ?_) (fun h => ?_)
      · have hvs : vs = [] := by simpa using h
        subst hvs
        cases pw
        walk_at "r"
        have := k H1 .non s1
        rw [hI.nil] at this
        exact this rfl
      · have hvs : vs ≠ [] := by
          intro e
          subst e
          simp at h
        obtain ⟨vs', x, rfl⟩ : ∃ vs' x, vs = vs' ++ [x] := ⟨vs.dropLast, vs.getLast hvs, (List.dropLast_concat_getLast hvs).symm⟩
        have hWl := P2.len pw
        rw [List.length_append] at hWl
        have h1x : [x].length = 1 := rfl
        obtain ⟨W', p, rfl⟩ : ∃ W' p, W = W' ++ [p] := by
          have hW : W ≠ [] := by
            intro e
            subst e
            simp at hWl
          exact ⟨W.dropLast, W.getLast hW, (List.dropLast_concat_getLast hW).symm⟩
        have hWl' : vs'.length = W'.length := by simpa using hWl
        have pw' : Paired (rRow H1) vs' W' := by
          have := P2.take pw vs'.length
          rw [List.take_left, hWl', List.take_left] at this
          exact this
        have px : rRow H1 x p := by
          obtain ⟨p', hp', hh⟩ := P2.at' pw (i := vs'.length) (x := x) (by simp)
          have : p' = p := by
            rw [hWl'] at hp'
            simpa using hp'.symm
          rw [← this]
          exact hh
        obtain ⟨tp, rfl, htp⟩ := px.at
        have npw : tp ≠ wl := ne_of htp hwl (fun z => nomatch z)
        have hok := hI.ok p (by simp)
        walk_at "r"
        refine i_pop (y := .ref tp) hwl (by simp) ?_
        rw [List.dropLast_concat]
        have s2 : Same H (upd H1 wl (.lst vs')) := Same.mut s1 hwn
        have htp2 : upd H1 wl (.lst vs') tp = some (.tup (p.map V.str)) := upd_oth npw htp
        walk_at "r"
        refine ⟨tp, _, rfl, .inr (SqT.of htp2), fun l hl => ?_⟩
        have htp3 := upd_old (o := .lst (p.map V.str)) htp2 hl
        walk_at "r"
        rw [List.length_map]
        refine ⟨_, _, ds, p, rfl, mDems.up (Same.new s2 hl) hd, rStrs.of upd_same, z3, by omega, fun d hd => (z4 d hd).1, fun H4 s4 => ?_⟩
        have s5 : Same H H4 := fun b o e => s4 _ _ (Same.new s2 hl _ _ e)
        have hwl4 : H4 wl = some (.lst vs') := s4 _ _ (upd_old upd_same hl)
        have pw4 : Paired (rRow H4) vs' W' := P2.mono pw' fun v r h => mRow.up s4 (mRow.up (Same.new (Same.refl _) hl) (rRow.upL hwl h))
        walk_at "r"
        cases hbr : brk ds p with
        | some k' =>
          refine ite_t (by rfl) ?_
          walk_at "r"
          rw [sumN_snoc] at hs
          have := fN_pos (ms.drop p.length)
          exact ⟨wl, vs', W', _, _, _, rfl, s5, hwn, hwl4, pw4, hI.bad hbr, by omega, by rw [List.length_append] at hvl; omega⟩
        | none =>
          refine ite_f (by rfl) ?_
          have htp4 := s4 _ _ htp3
          have hml4 := s5 _ _ hml
          walk_at "r"
          have e1 : decide (V.int ((p.map V.str).length : Nat) = V.int (mvs.length : Nat)) = decide (p.length = ms.length) := by
            rw [List.length_map, hmlen]
            simp
            omega
          rw [e1]
          refine ite_b (fun h => ?_) (fun h => ?_)
          · walk_at "r"
            refine ⟨tp, _, rfl, .inr (SqT.of htp4), fun l2 hl2 => ?_⟩
            have := k (upd H4 l2 (.lst (p.map V.str))) (.ref l2) (Same.new s5 hl2)
            rw [hI.full hbr (of_decide_eq_true h) wf] at this
            exact this (rStrs.of upd_same)
          · have hpl : p.length < ms.length := by
              have := of_decide_eq_false h
              omega
            obtain ⟨m, hm⟩ : ∃ m, ms[p.length]? = some m := ⟨ms[p.length], List.getElem?_eq_getElem hpl⟩
            obtain ⟨mx, hmx, hmr⟩ := P2.at pm hm
            obtain ⟨lm, rfl, hlm⟩ := hmr.at
            have hlm4 := s5 _ _ hlm
            have hzm := z2 m (List.mem_of_getElem? hm)
            walk_at "r"
            refine i_ixL hml4 (atI_nat (by rw [List.length_map]; exact hmx)) ?_
            walk_at "r"
            intro De hDe
            refine lc_mapJ (S := rRow) (ys' := m.reverse.map fun x => p ++ [x]) (fun i v H'' => ∃ x, m.reverse[i]? = some x ∧ v = .str x) mRow (Same.refl _) (by simp; omega) hDe ?_ ?_ ?_ ?_ ?_
            · intro j H5 hj s6
              rw [List.length_map, List.length_reverse] at hj
              refine ⟨by rw [List.length_map]; exact hj, _, (m.map V.str)[(m.map V.str).length - 1 - j]'(by rw [List.length_map]; omega), SqL.of (s6 _ _ hlm4), List.getElem?_eq_getElem _⟩
            · intro H5 s6
              show (m.map V.str).length ≤ _
              simp
            · rintro j H5 x H6 hj s6 ⟨rfl, hy⟩
              rw [List.length_map, List.length_reverse] at hj
              have hx := hy _ (SqL.of (s6 _ _ hlm4))
              rw [List.getElem?_map] at hx
              obtain ⟨c, hc, rfl⟩ := Option.map_eq_some_iff.mp hx
              refine ⟨⟨0, .tup [], .inr rfl⟩, c, ?_, rfl⟩
              rw [List.getElem?_reverse hj, ← hc, List.length_map]
            · rintro j v y G H5 hy ⟨c, hc, rfl⟩ g k2 hk2
              rw [List.getElem?_map, hc] at hy
              cases hy
              have htp5 := g.hh _ _ htp4
              walk_at "r"
              refine ⟨szb rfl, fun p4 hp4 => ?_⟩
              refine i_catT (upd_old htp5 hp4) upd_same (by simp) (by simp; omega) fun p5 H6 s6 e6 f6 => ?_
              have s7 : Same H5 H6 := fun b o e => s6 _ _ (upd_old e hp4)
              refine hk2 _ _ _ (Grow.all g.gh s7) (rRow.of ?_)
              have n5 : H5 p5 = none := by
                rcases f6 with rfl | f6
                · exact hp4
                · exact (upd_non f6).1
              rw [adopt_new n5, e6, List.map_append]
              rfl
            · intro H5 G acc g gd ed pa
              have hwl5 := g.hh _ _ hwl4
              have hal := P2.len pa
              rw [List.length_map, List.length_reverse] at hal
              walk_at "r"
              refine i_cat hwl5 ed ?_ fun p6 hp6 => ?_
              · rw [List.length_append] at hvl
                omega
              · walk_at "r"
                have hs2 := sumN_more (W := W') (p := p) hm
                have s6 : Same H (upd H5 p6 (.lst (vs' ++ acc))) := Same.new (fun b o e => g.hh _ _ (s5 _ _ e)) hp6
                refine ⟨p6, _, W' ++ m.reverse.map fun x => p ++ [x], _, _, _, rfl, s6, ?_, upd_same, ?_, hI.more hbr hm, by omega, ?_⟩
                · exact s5.free (g.hh.free hp6)
                · refine P2.app (P2.mono pw4 fun v r h => mRow.up (Same.new g.hh hp6) h) (P2.mono pa fun v r h => mRow.up (Same.new g.gh hp6) h)
                · have hq : W'.length + m.reverse.length ≤ sumN ms (W' ++ m.reverse.map fun x => p ++ [x]) := by
                    have gen : ∀ W : List (List Str), W.length ≤ sumN ms W := by
                      intro W
                      induction W with
                      | nil => exact Nat.zero_le _
                      | cons a t ih =>
                        have e : sumN ms (a :: t) = fN (ms.drop a.length) + sumN ms t := by unfold sumN; rw [List.map_cons, List.sum_cons]
                        have := fN_pos (ms.drop a.length)
                        rw [List.length_cons]
                        omega
                    have := gen (W' ++ m.reverse.map fun x => p ++ [x])
                    rw [List.length_append, List.length_map] at this
                    exact this
                  rw [List.length_append, hal]
                  rw [List.length_reverse] at hq
                  omega
    · rintro σ H1 ⟨wl, vs, W, v3, v4, v5, rfl, s1, hwn, hwl, pw, hI, hs, hvl⟩
      omega
end
end K9
end
section
set_option Elab.async false
set_option maxRecDepth 100000
set_option maxHeartbeats 4000000
namespace K9
open PySem PySem.Spec L2 EV
local macro_rules | `(tactic| walk_at "hp") => `(tactic| first | assumption | exact upd_same | (refine upd_old ?_ (by assumption); walk_at "hp") | (refine upd_oth (by first | assumption | (apply Ne.symm; assumption)) ?_; walk_at "hp"))
local macro_rules | `(tactic| walk_at "kb") => `(tactic| first | exact kb_NoneType_bool | exact kb_NoneType_int | exact kb_NoneType_str | exact kb_NoneType_dict | exact kb_NoneType_list | exact kb_NoneType_tuple | exact kb_bool_bool | exact kb_bool_int | exact kb_bool_str | exact kb_bool_dict | exact kb_bool_list | exact kb_bool_tuple | exact kb_int_bool | exact kb_int_int | exact kb_int_str | exact kb_int_dict | exact kb_int_list | exact kb_int_tuple | exact kb_str_bool | exact kb_str_int | exact kb_str_str | exact kb_str_dict | exact kb_str_list | exact kb_str_tuple | exact kb_list_bool | exact kb_list_int | exact kb_list_str | exact kb_list_dict | exact kb_list_list | exact kb_list_tuple | exact kb_tuple_bool | exact kb_tuple_int | exact kb_tuple_str | exact kb_tuple_dict | exact kb_tuple_list | exact kb_tuple_tuple)
local macro_rules | `(tactic| walk_at "ty") => `(tactic| first | exact tx_int | exact tx_str | exact tx_non | exact tx_bl | exact tx_lst (by walk_at "hp") | exact tx_tup (by walk_at "hp"))
local macro_rules | `(tactic| walk_at "r1") => `(tactic| first
  | ((with_reducible refine' i_var ?e1 ?_); (case e1 => rfl)) | with_reducible refine i_seq ?_ | with_reducible refine i_c ?_ | with_reducible refine i_op ?_ | with_reducible refine i_I0 ?_
  | with_reducible refine i_asg ?_ | with_reducible refine i_gname ?_ | with_reducible refine i_nil ?_ | with_reducible refine i_cons ?_ | with_reducible refine i_cb ?_ | with_reducible refine i_call ?_
  | with_reducible refine i_test ?_ | with_reducible refine i_tB ?_ | with_reducible refine i_bl ?_ | with_reducible refine i_int ?_ | with_reducible refine i_if ?_ | with_reducible refine i_ifx ?_
  | with_reducible refine i_ret ?_ | with_reducible refine i_retN ?_ | with_reducible refine i_drop ?_ | with_reducible refine i_next ?_ | with_reducible refine i_break ?_ | with_reducible refine i_cont ?_
  | with_reducible refine i_par ?_ | with_reducible refine i_par1 ?_ | with_reducible refine i_and ?_ | with_reducible refine i_or ?_ | with_reducible refine i_not ?_ | with_reducible refine i_truth ?_
  | with_reducible refine i_andV ?_ | with_reducible refine i_orV ?_ | with_reducible refine i_tup ?_ | with_reducible refine i_lst ?_ | with_reducible refine i_un ?_ | with_reducible refine i_U ?_
  | with_reducible refine i_bm ?_ | with_reducible refine i_bm0 ?_ | with_reducible refine i_sl ?_ | with_reducible refine i_nopart ?_ | with_reducible refine i_part ?_ | with_reducible refine i_fld ?_
  | with_reducible refine i_gsub ?_ | with_reducible refine i_gcons ?_ | with_reducible refine i_gnil ?_
  | ((with_reducible refine' i_eq ?e1 ?_); (case e1 => rfl)) | ((with_reducible refine' i_ne ?e1 ?_); (case e1 => rfl))
  | ((with_reducible refine' i_I ?e1 ?_); (case e1 => first | decide | exact .inr ⟨by decide, by decide⟩ | exact ⟨by decide, by decide⟩ | assumption))
  | ((with_reducible refine' i_ixL ?e1 ?e2 ?_); (case e1 => walk_at "hp"); (case e2 => first | rfl | assumption))
  | ((with_reducible refine' i_ixT ?e1 ?e2 ?_); (case e1 => walk_at "hp"); (case e2 => first | rfl | assumption))
  | ((with_reducible refine' i_len ?e1 ?_); (case e1 => walk_at "hp")) | ((with_reducible refine' i_lenT ?e1 ?_); (case e1 => walk_at "hp"))
  | ((with_reducible refine' i_gtup ?e1 ?e2 ?_); (case e1 => walk_at "hp"); (case e2 => rfl))
  | ((with_reducible refine' i_set ?e1 ?e2 ?_); (case e1 => walk_at "hp"); (case e2 => rfl))
  | with_reducible refine i_int1 ?_ | with_reducible refine i_abs1 ?_ | with_reducible refine i_max2 ?_ | with_reducible refine i_min2 ?_ | with_reducible refine i_non ?_ | with_reducible refine i_nnon ?_
  | with_reducible refine i_for ?_ | with_reducible refine i_irng1 ?_ | with_reducible refine i_ilist ?_ | with_reducible refine i_itup ?_ | with_reducible refine i_ienum ?_ | with_reducible refine i_irev ?_ | with_reducible refine i_izip ?_ | with_reducible refine i_lc ?_ | with_reducible refine i_yes ?_ | with_reducible refine i_notV ?_ | ((with_reducible refine' i_isi ?e1 ?e2 ?_); (case e1 => walk_at "ty"); (case e2 => walk_at "kb")) | with_reducible refine i_meth ?_ | with_reducible refine i_make ?_ | with_reducible refine i_din ?_ | with_reducible refine i_dni ?_ | with_reducible refine i_dget ?_ | with_reducible refine i_dcT ?_ | with_reducible refine i_sfld ?_ | with_reducible refine i_chain ?_ | ((with_reducible refine' i_tuple ?e1 ?_); (case e1 => walk_at "hp")) | ((with_reducible refine' i_list ?e1 ?_); (case e1 => walk_at "hp")) | with_reducible refine iteT ?_ | with_reducible refine iteF ?_ | with_reducible refine iteNF ?_ | with_reducible refine iteNT ?_
  | ((with_reducible refine' i_ilistE ?e1 ?_); (case e1 => walk_at "hp")) | ((with_reducible refine' i_itupE ?e1 ?_); (case e1 => walk_at "hp")) | ((with_reducible refine' i_ienumE ?e1 ?_); (case e1 => walk_at "hp")) | ((with_reducible refine' i_irevE ?e1 ?_); (case e1 => walk_at "hp"))
  | ((with_reducible refine' i_rng1 ?e1 ?_); (case e1 => first | omega | decide); (try with_reducible rw [Int.toNat_natCast]))
  | ((with_reducible refine' And.intro ?e1 ?_); (case e1 => first | exact i_ty (by walk_at "hp") | rfl)))
local macro_rules | `(tactic| walk_at "r") => `(tactic| repeat walk_at "r1")

section
variable {P : Program} {w : World} {K : PySem.W.Frag} {mg : Str → Option Value} {base : Heap}
abbrev nv (ns : List Nat) : List V := ns.map fun n : Nat => V.int (n : Int)
def spDue : Sp := fun vs H Q _ => ∃ (D : Hp) (dv : V) (ds : List Dem) (n : Nat), vs = [.int n, dv] ∧ Same D H ∧ rDems H dv ds ∧ WF n ds ∧ n ≤ 100000 ∧ ds.length ≤ 100000 ∧ (∀ d ∈ ds, d.1.length ≤ 100000 ∧ d.2.length ≤ 100000) ∧
  ∀ H' v D', Grow D H D' H' → rP (rL rNats) rNats D' v ((List.range n).map (dueL ds ds.length), bareL ds ds.length) → Q v H'
theorem ok_due_demands (T : Txt K mg) : FnOk P w K mg base CX0 1 T.a_due_demands T.fd_due_demands ["many", "demands"] spDue := by
  refine T.F_due_demands.ok sc_due_demands (fun vs H Q E h => ?_) (fun cdv A outer s H vs Q E hr h => ?_)
  · obtain ⟨_, _, _, _, rfl, _⟩ := h; rfl
  · obtain ⟨D, dv, ds, n, rfl, sD, ⟨dl, dvs, rfl, hdl, pd⟩, wf, z1, z2, z3, k⟩ := h
    have hdlen := P2.len pd
    refine ⟨_, (pss_cons (ps_setLc (i := 2) (own := [("turn", 7)]) rfl sc_due_demands.nd rfl rfl (sw_true rfl rfl rfl (by decide +kernel)) (pi_range1 rfl T.b_range (pa_cons (pv 0) pa_nil)) (blkOk_by (own := [("turn", 7)]) (N := ["many", "demands", "due", "bare", "number", "places", "rows", "turn"]) (sc := defScope s_due_demands) (by decide +kernel)) (fun _ _ _ _ _ => (pg_name (i := 7) sc_due_demands.nd rfl (Or.inl rfl))) (fun _ _ _ _ _ => pts_nil) (fun _ _ _ _ _ => (pe_lst pa_nil)))
    (pss_cons (ps_set (i := 3) sc_due_demands.nd rfl (Or.inl rfl) (pe_lst pa_nil))
    (pss_cons (ps_for PassesOwn.never rfl (EV.piEnum (K := K) rfl (by rfl) T.b_enumerate (pa_cons (pv 1) pa_nil)) (EV.pgT (K := K) (n := 2) rfl rfl (pgs_cons (pg_name (i := 4) sc_due_demands.nd rfl (Or.inl rfl)) (pgs_cons (EV.pgT (K := K) (n := 2) rfl rfl (pgs_cons (pg_name (i := 5) sc_due_demands.nd rfl (Or.inl rfl)) (pgs_cons (pg_name (i := 6) sc_due_demands.nd rfl (Or.inl rfl)) pgs_nil))) pgs_nil)))
      (pss_one (ps_if (pt_cmpR op_eq (pe_callB (EV.cLen (K := K) rfl) (by rfl) T.b_len (by decide +kernel) (pa_cons (pv 5) pa_nil)) pe_int (nomark _))
        (pss_one (ps_expr (EV.peBm (K := K) rfl PySem.F.plainAttrs_list PySem.F.slot_list_append PySem.F.type_list_append mt_append (pv 3) (pa_cons (pv 4) pa_nil))))
        (pss_one (ps_expr (EV.peBm (K := K) rfl PySem.F.plainAttrs_list PySem.F.slot_list_append PySem.F.type_list_append mt_append (pe_ix (EV.ixL (K := K) rfl) (pv 2) (pe_callB (EV.cMax (K := K) rfl rfl) (by rfl) T.b_max (by decide +kernel) (pa_cons (pv 5) pa_nil)) (fun _ _ => rfl)) (pa_cons (pv 4) pa_nil)))))))
    (pss_one (ps_ret (pe_tup (pa_cons (pv 2) (pa_cons (pv 3) pa_nil)))))))), ?_⟩
    walk_at "r"
    intro p hp
    refine lc_range (n := n) (fun i H' => ∃ qs : List Addr, Same H H' ∧ H' p = some (.lst (qs.map V.ref)) ∧ qs.length = i ∧ qs.Nodup ∧ ∀ q ∈ qs, H q = none ∧ q ≠ p ∧ H' q = some (.lst []))
      ⟨[], Same.new (Same.refl _) hp, upd_same, rfl, List.nodup_nil, fun _ h => absurd h List.not_mem_nil⟩ ?_ ?_
    · rintro i H1 hi ⟨qs, s1, e1, ln, nd, hq⟩
      walk_at "r"
      refine ⟨szb rfl, fun q hqn => ?_⟩
      have npq : p ≠ q := ne_of_none e1 hqn
      refine ⟨_, upd_old e1 hqn, sz4' (by simp; omega), qs ++ [q], Same.mut (Same.new s1 hqn) hp, by rw [upd_same, List.map_append]; rfl, by simp [ln], ?_, ?_⟩
      · rw [List.nodup_append]
        refine ⟨nd, by simp, fun a ha b hb => ?_⟩
        rw [List.mem_singleton] at hb
        subst hb
        intro e
        subst e
        rw [(hq a ha).2.2] at hqn
        cases hqn
      · intro a ha
        rcases List.mem_append.mp ha with h | h
        · obtain ⟨h1, h2, h3⟩ := hq a h
          exact ⟨h1, h2, upd_oth h2 (upd_old h3 hqn)⟩
        · rw [List.mem_singleton] at h
          subst h
          exact ⟨s1.free hqn, npq.symm, upd_oth npq.symm upd_same⟩
    · rintro H1 ⟨qs, s1, e1, ln, nd, hq⟩
      walk_at "r"
      refine ⟨szb rfl, fun b hb => ?_⟩
      have npb : p ≠ b := ne_of_none e1 hb
      have hdl1 := upd_old (o := .lst []) (s1 _ _ hdl) hb
      walk_at "r"
      refine for_enum (xs := dvs) (n := dvs.length) rfl (fun j σ H' => ∃ v4 v5 v6 v7 : Option V, σ = [some (.int n), some (.ref dl), some (.ref p), some (.ref b), v4, v5, v6, v7] ∧ Same H H' ∧ H' p = some (.lst (qs.map V.ref)) ∧
          H' b = some (.lst (nv (bareL ds j))) ∧ ∀ i q, qs[i]? = some q → H' q = some (.lst (nv (dueL ds j i))))
        ⟨_, _, _, _, rfl, Same.new s1 hb, upd_old e1 hb, upd_same, fun i q hi => upd_old (hq q (List.mem_of_getElem? hi)).2.2 hb⟩ (fun j σ H' ⟨_, _, _, _, _, e, _⟩ => e _ _ hdl) ?_ ?_
      · rintro j x T σ H2 hx ⟨v4, v5, v6, v7, rfl, s2, ep, eb, eq⟩ hT
        obtain ⟨d, hd, dp, pv, rv, rfl, hdp, hpv, hrv⟩ := P2.at' pd hx
        obtain ⟨pl, rfl, hpl⟩ := hpv.at
        have hdp2 := s2 _ _ hdp
        have hpl2 := upd_old (o := .tup [.int (j : Nat), .ref dp]) (s2 _ _ hpl) hT
        have hdp3 := upd_old (o := .tup [.int (j : Nat), .ref dp]) hdp2 hT
        have hzd := z3 d (List.mem_of_getElem? hd)
        have hjn := (List.getElem?_eq_some_iff.mp hd).1
        have nbT : b ≠ T := ne_of_none eb hT
        walk_at "r"
        refine ite_b (fun h => ?_) (fun h => ?_)
        · have hlen : d.1 = [] := by
            have := of_decide_eq_true h
            simp at this
            exact this
          have eb3 := upd_old (o := .tup [.int (j : Nat), .ref dp]) eb hT
          walk_at "r"
          refine i_app eb3 (sz4' ?_) ?_
          · have := List.length_filter_le (fun k => bareIs ds k) (List.range j)
            rw [List.length_range] at this
            simp [bareL]
            omega
          walk_at "r"
          have ebr : bareIs ds j = true := by unfold bareIs; rw [hd]; simp [hlen]
          refine ⟨_, _, _, _, rfl, Same.mut (Same.new s2 hT) (s1.free hb), upd_oth npb (upd_old ep hT), ?_, fun i q hi => ?_⟩
          · rw [upd_same, bareL_succ, ebr]
            simp [nv]
          · have hqi := hq q (List.mem_of_getElem? hi)
            have nqb : q ≠ b := ne_of_none hqi.2.2 hb
            have el : lastIs ds j i = false := by unfold lastIs; rw [hd]; simp [hlen]
            rw [upd_ne nqb, dueL_succ, el]
            simp only [Bool.false_eq_true, if_false, List.append_nil]
            exact upd_old (eq i q hi) hT
        · have hlen : 0 < d.1.length := by
            have := of_decide_eq_false h
            simp at this
            exact List.length_pos_iff.mpr this
          walk_at "r"
          refine i_maxN hpl2 hlen fun m hm hle => ?_
          have hmn := wf d (List.mem_of_getElem? hd) m hm
          have hmq : m < qs.length := by omega
          have hqm : qs[m]? = some qs[m] := List.getElem?_eq_getElem hmq
          have eqm := upd_old (o := .tup [.int (j : Nat), .ref dp]) (eq m _ hqm) hT
          have epT := upd_old (o := .tup [.int (j : Nat), .ref dp]) ep hT
          refine i_ixL (v := .ref qs[m]) epT (atI_nat (by rw [List.getElem?_map, hqm]; rfl)) ?_
          walk_at "r"
          refine i_app eqm (sz4' ?_) ?_
          · have := List.length_filter_le (fun k => lastIs ds k m) (List.range j)
            rw [List.length_range] at this
            simp [dueL]
            omega
          walk_at "r"
          have hqm3 := hq _ (List.getElem_mem hmq)
          have ebr : bareIs ds j = false := by
            unfold bareIs
            rw [hd]
            simp
            exact List.length_pos_iff.mp hlen
          refine ⟨_, _, _, _, rfl, Same.mut (Same.new s2 hT) hqm3.1, upd_oth hqm3.2.1.symm (upd_old ep hT), ?_, fun i q hi => ?_⟩
          · rw [upd_ne (ne_of_none hqm3.2.2 hb).symm, bareL_succ, ebr]
            simp only [Bool.false_eq_true, if_false, List.append_nil]
            exact upd_old eb hT
          · by_cases him : i = m
            · subst him
              rw [hqm] at hi
              cases hi
              have el : lastIs ds j i = true := by unfold lastIs; rw [hd]; simp; exact ⟨hm, hle⟩
              rw [upd_same, dueL_succ, el]
              simp [nv]
            · have nq : q ≠ qs[m] := by
                intro e
                apply him
                have h1 := (List.getElem?_eq_some_iff.mp hi)
                exact (List.getElem_inj nd).mp (h1.2.trans e)
              have el : lastIs ds j i = false := by
                unfold lastIs
                rw [hd]
                simp
                intro hi2
                exact ⟨m, hm, by have := hle i hi2; omega⟩
              rw [upd_ne nq, dueL_succ, el]
              simp only [Bool.false_eq_true, if_false, List.append_nil]
              exact upd_old (eq i q hi) hT
      · rintro σ H2 ⟨v4, v5, v6, v7, rfl, s2, ep, eb, eq⟩
        walk_at "r"
        refine ⟨szb rfl, fun t ht => ?_⟩
        rw [hdlen] at eb eq
        have s3 : Same H (upd H2 t (.tup [.ref p, .ref b])) := Same.new s2 ht
        refine k _ _ _ (Grow.all sD s3) ⟨t, _, _, rfl, by rw [adopt_new (s2.free ht)]; exact upd_same, ⟨p, _, rfl, by rw [adopt_new hp]; exact upd_old ep ht, ?_⟩, rNats.of (by rw [adopt_new (s1.free hb)]; exact upd_old eb ht)⟩
        have hlist : ∀ (qs : List Addr) (o : Nat), (∀ i q, qs[i]? = some q → H q = none ∧ H2 q = some (.lst (nv (dueL ds ds.length (o + i))))) → Paired (rNats (adopt D H (upd H2 t (.tup [.ref p, .ref b])))) (qs.map V.ref) ((List.range' o qs.length).map (dueL ds ds.length)) := by
          intro qs
          induction qs with
          | nil => intro o _; exact .nil
          | cons q r ih =>
            intro o hh
            obtain ⟨h1, h2⟩ := hh 0 q rfl
            refine .cons (rNats.of ?_) (ih (o + 1) fun i q' hi => ?_)
            · rw [adopt_new h1]
              exact upd_old h2 ht
            · have := hh (i + 1) q' hi
              rw [show o + (i + 1) = o + 1 + i by omega] at this
              exact this
        have := hlist qs 0 fun i q hi => ⟨(hq q (List.mem_of_getElem? hi)).1, by rw [Nat.zero_add]; exact eq i q hi⟩
        rw [ln, ← List.range_eq_range'] at this
        exact this
end
end K9
end
section
set_option Elab.async false
set_option maxRecDepth 100000
set_option maxHeartbeats 4000000
namespace K9
open PySem PySem.Spec L2 EV
local macro_rules | `(tactic| walk_at "hp") => `(tactic| first | assumption | exact upd_same | (refine upd_old ?_ (by assumption); walk_at "hp") | (refine upd_oth (by first | assumption | (apply Ne.symm; assumption)) ?_; walk_at "hp"))
local macro_rules | `(tactic| walk_at "kb") => `(tactic| first | exact kb_NoneType_bool | exact kb_NoneType_int | exact kb_NoneType_str | exact kb_NoneType_dict | exact kb_NoneType_list | exact kb_NoneType_tuple | exact kb_bool_bool | exact kb_bool_int | exact kb_bool_str | exact kb_bool_dict | exact kb_bool_list | exact kb_bool_tuple | exact kb_int_bool | exact kb_int_int | exact kb_int_str | exact kb_int_dict | exact kb_int_list | exact kb_int_tuple | exact kb_str_bool | exact kb_str_int | exact kb_str_str | exact kb_str_dict | exact kb_str_list | exact kb_str_tuple | exact kb_list_bool | exact kb_list_int | exact kb_list_str | exact kb_list_dict | exact kb_list_list | exact kb_list_tuple | exact kb_tuple_bool | exact kb_tuple_int | exact kb_tuple_str | exact kb_tuple_dict | exact kb_tuple_list | exact kb_tuple_tuple)
local macro_rules | `(tactic| walk_at "ty") => `(tactic| first | exact tx_int | exact tx_str | exact tx_non | exact tx_bl | exact tx_lst (by walk_at "hp") | exact tx_tup (by walk_at "hp"))
local macro_rules | `(tactic| walk_at "r1") => `(tactic| first
  | ((with_reducible refine' i_var ?e1 ?_); (case e1 => rfl)) | with_reducible refine i_seq ?_ | with_reducible refine i_c ?_ | with_reducible refine i_op ?_ | with_reducible refine i_I0 ?_
  | with_reducible refine i_asg ?_ | with_reducible refine i_gname ?_ | with_reducible refine i_nil ?_ | with_reducible refine i_cons ?_ | with_reducible refine i_cb ?_ | with_reducible refine i_call ?_
  | with_reducible refine i_test ?_ | with_reducible refine i_tB ?_ | with_reducible refine i_bl ?_ | with_reducible refine i_int ?_ | with_reducible refine i_if ?_ | with_reducible refine i_ifx ?_
  | with_reducible refine i_ret ?_ | with_reducible refine i_retN ?_ | with_reducible refine i_drop ?_ | with_reducible refine i_next ?_ | with_reducible refine i_break ?_ | with_reducible refine i_cont ?_
  | with_reducible refine i_par ?_ | with_reducible refine i_par1 ?_ | with_reducible refine i_and ?_ | with_reducible refine i_or ?_ | with_reducible refine i_not ?_ | with_reducible refine i_truth ?_
  | with_reducible refine i_andV ?_ | with_reducible refine i_orV ?_ | with_reducible refine i_tup ?_ | with_reducible refine i_lst ?_ | with_reducible refine i_un ?_ | with_reducible refine i_U ?_
  | with_reducible refine i_bm ?_ | with_reducible refine i_bm0 ?_ | with_reducible refine i_sl ?_ | with_reducible refine i_nopart ?_ | with_reducible refine i_part ?_ | with_reducible refine i_fld ?_
  | with_reducible refine i_gsub ?_ | with_reducible refine i_gcons ?_ | with_reducible refine i_gnil ?_
  | ((with_reducible refine' i_eq ?e1 ?_); (case e1 => rfl)) | ((with_reducible refine' i_ne ?e1 ?_); (case e1 => rfl))
  | ((with_reducible refine' i_I ?e1 ?_); (case e1 => first | decide | exact .inr ⟨by decide, by decide⟩ | exact ⟨by decide, by decide⟩ | assumption))
  | ((with_reducible refine' i_ixL ?e1 ?e2 ?_); (case e1 => walk_at "hp"); (case e2 => first | rfl | assumption))
  | ((with_reducible refine' i_ixT ?e1 ?e2 ?_); (case e1 => walk_at "hp"); (case e2 => first | rfl | assumption))
  | ((with_reducible refine' i_len ?e1 ?_); (case e1 => walk_at "hp")) | ((with_reducible refine' i_lenT ?e1 ?_); (case e1 => walk_at "hp"))
  | ((with_reducible refine' i_gtup ?e1 ?e2 ?_); (case e1 => walk_at "hp"); (case e2 => rfl))
  | ((with_reducible refine' i_set ?e1 ?e2 ?_); (case e1 => walk_at "hp"); (case e2 => rfl))
  | with_reducible refine i_int1 ?_ | with_reducible refine i_abs1 ?_ | with_reducible refine i_max2 ?_ | with_reducible refine i_min2 ?_ | with_reducible refine i_non ?_ | with_reducible refine i_nnon ?_
  | with_reducible refine i_for ?_ | with_reducible refine i_irng1 ?_ | with_reducible refine i_ilist ?_ | with_reducible refine i_itup ?_ | with_reducible refine i_ienum ?_ | with_reducible refine i_irev ?_ | with_reducible refine i_izip ?_ | with_reducible refine i_lc ?_ | with_reducible refine i_yes ?_ | with_reducible refine i_notV ?_ | ((with_reducible refine' i_isi ?e1 ?e2 ?_); (case e1 => walk_at "ty"); (case e2 => walk_at "kb")) | with_reducible refine i_meth ?_ | with_reducible refine i_make ?_ | with_reducible refine i_din ?_ | with_reducible refine i_dni ?_ | with_reducible refine i_dget ?_ | with_reducible refine i_dcT ?_ | with_reducible refine i_sfld ?_ | with_reducible refine i_chain ?_ | ((with_reducible refine' i_tuple ?e1 ?_); (case e1 => walk_at "hp")) | ((with_reducible refine' i_list ?e1 ?_); (case e1 => walk_at "hp")) | with_reducible refine iteT ?_ | with_reducible refine iteF ?_ | with_reducible refine iteNF ?_ | with_reducible refine iteNT ?_
  | ((with_reducible refine' i_ilistE ?e1 ?_); (case e1 => walk_at "hp")) | ((with_reducible refine' i_itupE ?e1 ?_); (case e1 => walk_at "hp")) | ((with_reducible refine' i_ienumE ?e1 ?_); (case e1 => walk_at "hp")) | ((with_reducible refine' i_irevE ?e1 ?_); (case e1 => walk_at "hp"))
  | ((with_reducible refine' i_rng1 ?e1 ?_); (case e1 => first | omega | decide); (try with_reducible rw [Int.toNat_natCast]))
  | ((with_reducible refine' And.intro ?e1 ?_); (case e1 => first | exact i_ty (by walk_at "hp") | rfl)))
local macro_rules | `(tactic| walk_at "r") => `(tactic| repeat walk_at "r1")

def kR (r : List Str) : List Key := r.map Sum.inr
theorem kR_val (r : List Str) : (kR r).map kV = r.map V.str := by unfold kR; rw [List.map_map]; rfl
def rGood : Rep (List (List Str)) := fun G v rows => ∃ p kvs, v = .ref p ∧ G p = some (.dT kvs) ∧ ∀ r : List Str, (valV kvs (kR r)).isSome = decide (r ∈ rows)
theorem mGood : Mono rGood := fun _ _ _ _ e ⟨p, kvs, h1, h2, h3⟩ => ⟨p, kvs, h1, e _ _ h2, h3⟩
section
variable {P : Program} {w : World} {K : PySem.W.Frag} {mg : Str → Option Value} {base : Heap}
def optM : Option Nat → V
  | none => .non
  | some k => .int k
def spFB : Sp := fun vs H Q _ => ∃ (dv nvv gv cv : V) (ds : List Dem) (ns : List Nat) (c : List Str), vs = [nvv, dv, gv, cv] ∧ rDems H dv ds ∧ rNats H nvv ns ∧ rL rGood H gv (ds.map (·.2)) ∧ rStrs H cv c ∧
  (∀ k ∈ ns, ∃ d, ds[k]? = some d ∧ ∀ p ∈ d.1, p < c.length) ∧ (∀ d ∈ ds, d.1.length ≤ 100000) ∧ ∀ H', Same H H' → Q (optM (ns.find? (badAt ds c))) H'
theorem ok_first_broken (T : Txt K mg) : FnOk P w K mg base CX0 1 T.a_first_broken T.fd_first_broken ["numbers", "demands", "good", "chosen"] spFB := by
  refine T.F_first_broken.ok sc_first_broken (fun vs H Q E h => ?_) (fun cdv A outer s H vs Q E hr h => ?_)
  · obtain ⟨_, _, _, _, _, _, _, rfl, _⟩ := h; rfl
  · obtain ⟨dv, nvv, gv, cv, ds, ns, c, rfl, ⟨dl, dvs, rfl, hdl, pd⟩, hn, ⟨gl, gvs, rfl, hgl, pg⟩, hc, hk, hz, k⟩ := h
    obtain ⟨nl, rfl, hnl⟩ := hn.at
    obtain ⟨cl, rfl, hcl⟩ := hc.at
    have hu := hu_of hr
    refine ⟨_, (pss_cons (ps_for PassesOwn.never rfl (EV.piL (K := K) rfl (pv 0)) (pg_name (i := 4) sc_first_broken.nd rfl (Or.inl rfl))
      (pss_cons (ps_set (i := 5) sc_first_broken.nd rfl (Or.inl rfl) (pe_callTy (EV.cTuple (K := K) rfl) (by rfl) T.b_tuple (by decide +kernel) (pa_cons (pe_lc (own := [("place", 6)]) rfl sc_first_broken.nd (EV.piL (K := K) rfl (pe_ix (EV.ixT (K := K) rfl) (pe_ix (EV.ixL (K := K) rfl) (pv 1) (pv 4) (fun _ _ => rfl)) pe_int (fun _ _ => rfl))) (blkOk_by (own := [("place", 6)]) (N := ["numbers", "demands", "good", "chosen", "number", "row", "place"]) (sc := defScope s_first_broken) (by decide +kernel)) (fun _ _ _ _ _ => (pg_name (i := 6) sc_first_broken.nd rfl (Or.inl rfl))) (fun _ _ _ _ _ => pts_nil) (fun _ _ _ _ _ => (pe_ix (EV.ixL (K := K) rfl) (pv 3) (pv 6) (fun _ _ => rfl)))) pa_nil)))
      (pss_one (ps_if (pt_cmp (pc_dnotin hu (pv 5) (pe_ix (EV.ixL (K := K) rfl) (pv 2) (pv 4) (fun _ _ => rfl))) (by rfl))
        (pss_one (ps_ret (pv 4)))
        pss_nil))))
    (pss_one (ps_ret pe_non))), ?_⟩
    walk_at "r"
    refine for_list (xs := ns.map fun n : Nat => V.int (n : Int)) (fun i σ H' => ∃ v4 v5 v6 : Option V, σ = [some (.ref nl), some (.ref dl), some (.ref gl), some (.ref cl), v4, v5, v6] ∧ Same H H' ∧ ∀ n ∈ ns.take i, badAt ds c n = false)
      ⟨_, _, _, rfl, Same.refl _, fun _ h => by rw [List.take_zero] at h; cases h⟩ (fun i σ H' _ ⟨_, _, _, _, e, _⟩ => SqL.of (e _ _ hnl)) ?_ ?_
    · rintro i x σ H1 hx ⟨v4, v5, v6, rfl, s1, hall⟩
      rw [List.getElem?_map] at hx
      obtain ⟨n, hn', rfl⟩ := Option.map_eq_some_iff.mp hx
      obtain ⟨d, hd, hps⟩ := hk n (List.mem_of_getElem? hn')
      obtain ⟨x', hx', dp, pv, rv, rfl, hdp, hpv, hrv⟩ := P2.at pd hd
      obtain ⟨pl, rfl, hpl⟩ := hpv.at
      have hzd := hz d (List.mem_of_getElem? hd)
      have hd1 := s1 _ _ hdl
      have hdp1 := s1 _ _ hdp
      have hpl1 := s1 _ _ hpl
      have hc1 := s1 _ _ hcl
      have hg1 := s1 _ _ hgl
      obtain ⟨g', hg', gp, kvs, rfl, hgp, hgd⟩ := P2.at pg (show (ds.map (·.2))[n]? = some d.2 by rw [List.getElem?_map, hd]; rfl)
      walk_at "r"
      refine i_ixL hd1 (atI_nat hx') ?_
      walk_at "r"
      intro L hL
      refine lc_mapL (S := rS) (ys' := rowOf c d.1) mS (Same.refl _) hpl1 (by simp [rowOf]) (by simp [rowOf]; omega) hL ?_ ?_
      · intro j v y G2 H' hv hy g2 k2 hk2
        rw [List.getElem?_map] at hv
        obtain ⟨p, hp, rfl⟩ := Option.map_eq_some_iff.mp hv
        unfold rowOf at hy
        rw [List.getElem?_map, hp] at hy
        cases hy
        have hpt := hps p (List.mem_of_getElem? hp)
        have ht3 := g2.hh _ _ hc1
        walk_at "r"
        refine i_ixL ht3 (atI_nat (j := p) (v := .str (c.getD p Str.empty)) (by rw [List.getElem?_map, List.getD_eq_getElem?_getD, List.getElem?_eq_getElem hpt]; rfl)) ?_
        exact hk2 _ G2 H' (Grow.refl g2.gh) rfl
      · intro H3 G3 acc3 g3 gd3 ed3 pa3
        rw [strs_eq pa3] at ed3
        have s3 : Same H H3 := fun b o e => g3.hh _ _ (s1 _ _ e)
        have hg3 := s3 _ _ hgl
        have hgp3 := s3 _ _ hgp
        walk_at "r"
        intro tp htp
        walk_at "r"
        refine i_ixL (upd_old hg3 htp) (atI_nat hg') ?_
        refine ⟨gp, _, rfl, DGet.t (k := kR (rowOf c d.1)) (upd_old hgp3 htp) (by rw [kR_val]; exact upd_same), ?_⟩
        rw [hgd]
        have eb : (!decide (rowOf c d.1 ∈ d.2)) = badAt ds c n := by unfold badAt; rw [hd]
        rw [eb]
        walk_at "r"
        refine ite_b (fun h => ?_) (fun h => ?_)
        · walk_at "r"
          have e : ns.find? (badAt ds c) = some n := by
            have hi := (List.getElem?_eq_some_iff.mp hn')
            refine List.find?_eq_some_iff_append.mpr ⟨h, ns.take i, ns.drop (i + 1), ?_, fun a ha => by rw [hall a ha]; rfl⟩
            rw [← hi.2, ← List.drop_eq_getElem_cons hi.1, List.take_append_drop]
          have := k (upd H3 tp (.tup ((rowOf c d.1).map V.str))) (Same.new s3 htp)
          rw [e] at this
          exact this
        · walk_at "r"
          refine ⟨_, _, _, rfl, Same.new s3 htp, fun a ha => ?_⟩
          rw [List.take_add_one, hn'] at ha
          rcases List.mem_append.mp ha with h2 | h2
          · exact hall a h2
          · have : a = n := by simpa using h2
            rw [this]
            exact h
    · rintro σ H1 ⟨v4, v5, v6, rfl, s1, hall⟩
      walk_at "r"
      have e : ns.find? (badAt ds c) = none := by
        rw [List.find?_eq_none]
        intro n hn
        have := hall n (by rw [List.length_map, List.take_length]; exact hn)
        rw [this]
        decide
      have := k H1 s1
      rw [e] at this
      exact this
end
end K9
end
section
set_option Elab.async false
set_option maxRecDepth 100000
set_option maxHeartbeats 8000000
namespace K9
open PySem PySem.Spec L2 EV
local macro_rules | `(tactic| walk_at "hp") => `(tactic| first | assumption | exact upd_same | (refine upd_old ?_ (by assumption); walk_at "hp") | (refine upd_oth (by first | assumption | (apply Ne.symm; assumption)) ?_; walk_at "hp"))
local macro_rules | `(tactic| walk_at "kb") => `(tactic| first | exact kb_NoneType_bool | exact kb_NoneType_int | exact kb_NoneType_str | exact kb_NoneType_dict | exact kb_NoneType_list | exact kb_NoneType_tuple | exact kb_bool_bool | exact kb_bool_int | exact kb_bool_str | exact kb_bool_dict | exact kb_bool_list | exact kb_bool_tuple | exact kb_int_bool | exact kb_int_int | exact kb_int_str | exact kb_int_dict | exact kb_int_list | exact kb_int_tuple | exact kb_str_bool | exact kb_str_int | exact kb_str_str | exact kb_str_dict | exact kb_str_list | exact kb_str_tuple | exact kb_list_bool | exact kb_list_int | exact kb_list_str | exact kb_list_dict | exact kb_list_list | exact kb_list_tuple | exact kb_tuple_bool | exact kb_tuple_int | exact kb_tuple_str | exact kb_tuple_dict | exact kb_tuple_list | exact kb_tuple_tuple)
local macro_rules | `(tactic| walk_at "ty") => `(tactic| first | exact tx_int | exact tx_str | exact tx_non | exact tx_bl | exact tx_lst (by walk_at "hp") | exact tx_tup (by walk_at "hp"))
local macro_rules | `(tactic| walk_at "r1") => `(tactic| first
  | ((with_reducible refine' i_var ?e1 ?_); (case e1 => rfl)) | with_reducible refine i_seq ?_ | with_reducible refine i_c ?_ | with_reducible refine i_op ?_ | with_reducible refine i_I0 ?_
  | with_reducible refine i_asg ?_ | with_reducible refine i_gname ?_ | with_reducible refine i_nil ?_ | with_reducible refine i_cons ?_ | with_reducible refine i_cb ?_ | with_reducible refine i_call ?_
  | with_reducible refine i_test ?_ | with_reducible refine i_tB ?_ | with_reducible refine i_bl ?_ | with_reducible refine i_int ?_ | with_reducible refine i_if ?_ | with_reducible refine i_ifx ?_
  | with_reducible refine i_ret ?_ | with_reducible refine i_retN ?_ | with_reducible refine i_drop ?_ | with_reducible refine i_next ?_ | with_reducible refine i_break ?_ | with_reducible refine i_cont ?_
  | with_reducible refine i_par ?_ | with_reducible refine i_par1 ?_ | with_reducible refine i_and ?_ | with_reducible refine i_or ?_ | with_reducible refine i_not ?_ | with_reducible refine i_truth ?_
  | with_reducible refine i_andV ?_ | with_reducible refine i_orV ?_ | with_reducible refine i_tup ?_ | with_reducible refine i_lst ?_ | with_reducible refine i_un ?_ | with_reducible refine i_U ?_
  | with_reducible refine i_bm ?_ | with_reducible refine i_bm0 ?_ | with_reducible refine i_sl ?_ | with_reducible refine i_nopart ?_ | with_reducible refine i_part ?_ | with_reducible refine i_fld ?_
  | with_reducible refine i_gsub ?_ | with_reducible refine i_gcons ?_ | with_reducible refine i_gnil ?_
  | ((with_reducible refine' i_eq ?e1 ?_); (case e1 => rfl)) | ((with_reducible refine' i_ne ?e1 ?_); (case e1 => rfl))
  | ((with_reducible refine' i_I ?e1 ?_); (case e1 => first | decide | exact .inr ⟨by decide, by decide⟩ | exact ⟨by decide, by decide⟩ | assumption))
  | ((with_reducible refine' i_ixL ?e1 ?e2 ?_); (case e1 => walk_at "hp"); (case e2 => first | rfl | assumption))
  | ((with_reducible refine' i_ixT ?e1 ?e2 ?_); (case e1 => walk_at "hp"); (case e2 => first | rfl | assumption))
  | ((with_reducible refine' i_len ?e1 ?_); (case e1 => walk_at "hp")) | ((with_reducible refine' i_lenT ?e1 ?_); (case e1 => walk_at "hp"))
  | ((with_reducible refine' i_gtup ?e1 ?e2 ?_); (case e1 => walk_at "hp"); (case e2 => rfl))
  | ((with_reducible refine' i_set ?e1 ?e2 ?_); (case e1 => walk_at "hp"); (case e2 => rfl))
  | with_reducible refine i_int1 ?_ | with_reducible refine i_abs1 ?_ | with_reducible refine i_max2 ?_ | with_reducible refine i_min2 ?_ | with_reducible refine i_non ?_ | with_reducible refine i_nnon ?_
  | with_reducible refine i_for ?_ | with_reducible refine i_irng1 ?_ | with_reducible refine i_ilist ?_ | with_reducible refine i_itup ?_ | with_reducible refine i_ienum ?_ | with_reducible refine i_irev ?_ | with_reducible refine i_izip ?_ | with_reducible refine i_lc ?_ | with_reducible refine i_yes ?_ | with_reducible refine i_notV ?_ | ((with_reducible refine' i_isi ?e1 ?e2 ?_); (case e1 => walk_at "ty"); (case e2 => walk_at "kb")) | with_reducible refine i_meth ?_ | with_reducible refine i_make ?_ | with_reducible refine i_din ?_ | with_reducible refine i_dni ?_ | with_reducible refine i_dget ?_ | with_reducible refine i_dcT ?_ | with_reducible refine i_sfld ?_ | with_reducible refine i_chain ?_ | ((with_reducible refine' i_tuple ?e1 ?_); (case e1 => walk_at "hp")) | ((with_reducible refine' i_list ?e1 ?_); (case e1 => walk_at "hp")) | with_reducible refine iteT ?_ | with_reducible refine iteF ?_ | with_reducible refine iteNF ?_ | with_reducible refine iteNT ?_
  | ((with_reducible refine' i_ilistE ?e1 ?_); (case e1 => walk_at "hp")) | ((with_reducible refine' i_itupE ?e1 ?_); (case e1 => walk_at "hp")) | ((with_reducible refine' i_ienumE ?e1 ?_); (case e1 => walk_at "hp")) | ((with_reducible refine' i_irevE ?e1 ?_); (case e1 => walk_at "hp"))
  | ((with_reducible refine' i_rng1 ?e1 ?_); (case e1 => first | omega | decide); (try with_reducible rw [Int.toNat_natCast]))
  | ((with_reducible refine' And.intro ?e1 ?_); (case e1 => first | exact i_ty (by walk_at "hp") | rfl)))
local macro_rules | `(tactic| walk_at "r") => `(tactic| repeat walk_at "r1")

section
variable {P : Program} {w : World} {K : PySem.W.Frag} {mg : Str → Option Value} {base : Heap}
/-- the list at q holds the branches b so far; it is none of what stands for good -/
def rSt (H G H' : Hp) (q : Addr) (b : List (Str × Tr)) : Prop := ∃ vs, H' q = some (.lst vs) ∧ Paired (rBr G) vs b ∧ G q = none ∧ H q = none
theorem rSt.grow {H G H1 G' H2 : Hp} {q : Addr} {b : List (Str × Tr)} (h : rSt H G H1 q b) (g : Grow G H1 G' H2) : rSt H G' H2 q b := by
  obtain ⟨vs, h1, h2, h3, h4⟩ := h
  exact ⟨vs, g.hh _ _ h1, P2.mono h2 fun _ _ => mBr.up g.gg, g.out h1 h3, h4⟩
theorem rSt.oth {H G H1 : Hp} {q p : Addr} {o : HO} {b : List (Str × Tr)} (h : rSt H G H1 q b) (n : q ≠ p) : rSt H G (upd H1 p o) q b := by
  obtain ⟨vs, h1, h2, h3, h4⟩ := h
  exact ⟨vs, upd_oth n h1, h2, h3, h4⟩
theorem rSt.all {H G H1 H2 : Hp} {qs : List Addr} {B : List (List (Str × Tr))} (h : Paired (rSt H G H1) qs B) : (∀ y ∈ qs, ∀ o, H1 y = some o → H2 y = some o) → Paired (rSt H G H2) qs B := by
  induction h with
  | nil => intro _; exact .nil
  | cons hy _ ih =>
    intro hh
    obtain ⟨yv, h1, h2, h3, h4⟩ := hy
    exact .cons ⟨yv, hh _ List.mem_cons_self _ h1, h2, h3, h4⟩ (ih fun z hz => hh z (List.mem_cons_of_mem _ hz))
def rSolved (G H : Hp) (v : V) (c : List Str) : Prop := ∃ p q, v = .ref p ∧ G p = some (.tup [.str "solved", .ref q]) ∧ G q = some (.lst (c.map V.str)) ∧ H q = none
def rClosed (G H : Hp) (v : V) (t : Tr) : Prop := ∃ p w, v = .ref p ∧ G p = some (.tup [.str "closed", w]) ∧ rTr G w t ∧ ∀ a x q, w = .ref a → G a = some (.tup [.str "knot", x, .ref q]) → H q = none
def spSearch : Sp := fun vs H Q _ => ∃ (D : Hp) (mv dv uv gv : V) (ms : List (List Str)) (ds : List Dem), vs = [mv, dv, uv, gv] ∧ Same D H ∧ rMenus H mv ms ∧ rDems H dv ds ∧ rL rNats H uv ((List.range ms.length).map (dueL ds ds.length)) ∧ rL rGood H gv (ds.map (·.2)) ∧
  WF ms.length ds ∧ 0 < ms.length ∧ brk ds [] = none ∧ SizeOk ms ds ∧ (∀ H' D' v c, Grow D H D' H' → sol ds [] ms = some c → rSolved D' H v c → Q v H') ∧ (∀ H' D' v t, Grow D H D' H' → Closed ds ms [] t → rClosed D' H v t → Q v H')
theorem nd_snoc {α : Type} {l : List α} {x : α} (h : (l ++ [x]).Nodup) : l.Nodup ∧ ∀ y ∈ l, y ≠ x := by
  rw [List.nodup_append] at h
  exact ⟨h.1, fun y hy => h.2.2 y hy x (List.mem_singleton.mpr rfl)⟩
theorem ok_search_tree (T : Txt K mg) : FnOk P w K mg base CX0 2 T.a_search_tree T.fd_search_tree ["choices", "demands", "due", "good"] spSearch := by
  refine T.F_search_tree.ok sc_search_tree (fun vs H Q E h => ?_) (fun cdv A outer s H vs Q E hr h => ?_)
  · obtain ⟨_, _, _, _, _, _, _, rfl, _⟩ := h; rfl
  · obtain ⟨D, mv, dv, uv, gv, ms, ds, rfl, sD, hm, hdv, huv, hgv, wf, hn0, hb0, ⟨z1, z2, z3, z4⟩, kS, kC⟩ := h
    obtain ⟨ml, mvs, rfl, hml, pm⟩ := hm
    obtain ⟨ul, uvs, rfl, hul, pu⟩ := huv
    have hmlen := P2.len pm
    have hr1 : Room 1 _ := hr.mono (by decide)
    refine ⟨_, (pss_cons (ps_set (i := 4) sc_search_tree.nd rfl (Or.inl rfl) (pe_lst pa_nil))
    (pss_cons (ps_set (i := 5) sc_search_tree.nd rfl (Or.inl rfl) (pe_lst (pa_cons (pe_lst pa_nil) pa_nil)))
    (pss_one (ps_while PassesOwn.never (pt_val pe_bl)
      (pss_cons (ps_set (i := 6) sc_search_tree.nd rfl (Or.inl rfl) (pe_callB (EV.cLen (K := K) rfl) (by rfl) T.b_len (by decide +kernel) (pa_cons (pv 4) pa_nil)))
      (pss_cons (ps_set (i := 7) sc_search_tree.nd rfl (Or.inl rfl) (pe_ix (EV.ixL (K := K) rfl) (pv 5) (pe_un un_neg pe_int) (fun _ _ => rfl)))
      (pss_cons (ps_if (pt_cmpR op_eq (pe_callB (EV.cLen (K := K) rfl) (by rfl) T.b_len (by decide +kernel) (pa_cons (pv 7) pa_nil)) (pe_callB (EV.cLen (K := K) rfl) (by rfl) T.b_len (by decide +kernel) (pa_cons (pe_ix (EV.ixL (K := K) rfl) (pv 0) (pv 6) (fun _ _ => rfl)) pa_nil)) (nomark _))
        (pss_cons (ps_set (i := 8) sc_search_tree.nd rfl (Or.inl rfl) (pe_tup (pa_cons pe_str (pa_cons (pv 6) (pa_cons (pv 7) pa_nil)))))
        (pss_cons (ps_expr (EV.peBm0 (K := K) rfl PySem.F.plainAttrs_list PySem.F.slot_list_pop PySem.F.type_list_pop mt_pop (pv 5)))
        (pss_cons (ps_if (pt_cmpR op_eq (pv 6) pe_int (nomark _))
          (pss_one (ps_ret (pe_tup (pa_cons pe_str (pa_cons (pv 8) pa_nil)))))
          pss_nil)
        (pss_cons (ps_set (i := 9) sc_search_tree.nd rfl (Or.inl rfl) (EV.peBm0 (K := K) rfl PySem.F.plainAttrs_list PySem.F.slot_list_pop PySem.F.type_list_pop mt_pop (pv 4)))
        (pss_cons (ps_expr (EV.peBm (K := K) rfl PySem.F.plainAttrs_list PySem.F.slot_list_append PySem.F.type_list_append mt_append (pe_ix (EV.ixL (K := K) rfl) (pv 5) (pe_un un_neg pe_int) (fun _ _ => rfl)) (pa_cons (pe_tup (pa_cons (pv 9) (pa_cons (pv 8) pa_nil))) pa_nil)))
        (pss_one (ps_continue)))))))
        pss_nil)
      (pss_cons (ps_set (i := 9) sc_search_tree.nd rfl (Or.inl rfl) (pe_ix (EV.ixL (K := K) rfl) (pe_ix (EV.ixL (K := K) rfl) (pv 0) (pv 6) (fun _ _ => rfl)) (pe_callB (EV.cLen (K := K) rfl) (by rfl) T.b_len (by decide +kernel) (pa_cons (pv 7) pa_nil)) (fun _ _ => rfl)))
      (pss_cons (ps_expr (EV.peBm (K := K) rfl PySem.F.plainAttrs_list PySem.F.slot_list_append PySem.F.type_list_append mt_append (pv 4) (pa_cons (pv 9) pa_nil)))
      (pss_cons (ps_set (i := 10) sc_search_tree.nd rfl (Or.inl rfl) (pe_call (ok_first_broken T) hr1 rfl T.m_first_broken T.F_first_broken.kp (bd_first_broken T) .nil pass0 (pa_cons (pe_ix (EV.ixL (K := K) rfl) (pv 2) (pv 6) (fun _ _ => rfl)) (pa_cons (pv 1) (pa_cons (pv 3) (pa_cons (pv 4) pa_nil))))))
      (pss_cons (ps_if (pt_cmpR EV.opNotN (pv 10) pe_non (nomark _))
        (pss_cons (ps_expr (EV.peBm0 (K := K) rfl PySem.F.plainAttrs_list PySem.F.slot_list_pop PySem.F.type_list_pop mt_pop (pv 4)))
        (pss_cons (ps_expr (EV.peBm (K := K) rfl PySem.F.plainAttrs_list PySem.F.slot_list_append PySem.F.type_list_append mt_append (pv 7) (pa_cons (pe_tup (pa_cons (pv 9) (pa_cons (pe_tup (pa_cons pe_str (pa_cons (pv 10) pa_nil))) pa_nil))) pa_nil)))
        (pss_one (ps_continue))))
        pss_nil)
      (pss_cons (ps_if (pt_cmpR op_eq (pe_callB (EV.cLen (K := K) rfl) (by rfl) T.b_len (by decide +kernel) (pa_cons (pv 4) pa_nil)) (pe_callB (EV.cLen (K := K) rfl) (by rfl) T.b_len (by decide +kernel) (pa_cons (pv 0) pa_nil)) (nomark _))
        (pss_one (ps_ret (pe_tup (pa_cons pe_str (pa_cons (pv 4) pa_nil)))))
        pss_nil)
      (pss_one (ps_expr (EV.peBm (K := K) rfl PySem.F.plainAttrs_list PySem.F.slot_list_append PySem.F.type_list_append mt_append (pv 5) (pa_cons (pe_lst pa_nil) pa_nil)))))))))))))))), ?_⟩
    walk_at "r"
    refine ⟨szb rfl, fun cA hcA => ?_⟩
    walk_at "r"
    refine ⟨szb rfl, fun q0 hq0 => ?_⟩
    refine ⟨szb rfl, fun oA hoA => ?_⟩
    obtain ⟨hq00, nq0c⟩ := upd_non hq0
    obtain ⟨hoA1, noq⟩ := upd_non hoA
    obtain ⟨hoA0, noc⟩ := upd_non hoA1
    walk_at "r"
    obtain ⟨m0, hm0⟩ : ∃ m, ms[0]? = some m := ⟨ms[0], List.getElem?_eq_getElem hn0⟩
    refine i_while (fun mm σ H' => ∃ (G : Hp) (c : List Str) (B : List (List (Str × Tr))) (b : List (Str × Tr)) (qs : List Addr) (q : Addr) (v6 v7 v8 v9 v10 : Option V),
        mm = tM ms B b ∧ σ = [some (.ref ml), some dv, some (.ref ul), some gv, some (.ref cA), some (.ref oA), v6, v7, v8, v9, v10] ∧ Grow D H G H' ∧ H' cA = some (.lst (c.map V.str)) ∧ H' oA = some (.lst ((qs ++ [q]).map V.ref)) ∧
        Paired (rSt H G H') (qs ++ [q]) (B ++ [b]) ∧ (qs ++ [q]).Nodup ∧ cA ∉ qs ++ [q] ∧ oA ∉ qs ++ [q] ∧ G cA = none ∧ G oA = none ∧ Stk ds ms c B ∧ OkB ds ms c b ∧ c.length < ms.length)
      (tM ms [] []) ⟨D, [], [], [], [], q0, _, _, _, _, _, rfl, rfl, (((Grow.refl sD).tmp hcA).tmp hq0).tmp hoA, ?_, upd_same, ?_, ?_, ?_, ?_, sD.free hcA, sD.free hoA0, .nil hb0, OkB.nil (m := m0) hm0, hn0⟩ ?_
    · walk_at "hp"
    · exact .cons ⟨[], by walk_at "hp", .nil, sD.free hq00, hq00⟩ .nil
    · simp
    · simpa using nq0c.symm
    · simpa using noq
    · rintro mm σ H1 ⟨G, c, B, b, qs, q, v6, v7, v8, v9, v10, rfl, rfl, g, ec, eo, pst, nd, ncq, noq', gc, go, hst, hok, hlt⟩
      obtain ⟨m, hm⟩ : ∃ m, ms[c.length]? = some m := ⟨ms[c.length], List.getElem?_eq_getElem hlt⟩
      obtain ⟨mx, hmx, hmr⟩ := P2.at pm hm
      obtain ⟨lm, rfl, hlm⟩ := hmr.at
      have hml1 := g.hh _ _ hml
      have hlm1 := g.hh _ _ hlm
      have hBl : B.length = c.length := hst.len
      have hqsl : qs.length = B.length := by
        have := P2.len pst
        simpa using this
      -- the top
      have ptop : rSt H G H1 q b := by
        obtain ⟨b', hb', hh⟩ := P2.at' pst (i := qs.length) (x := q) (by simp)
        have : b' = b := by
          rw [hqsl] at hb'
          simpa using hb'.symm
        rw [← this]
        exact hh
      have pbel : Paired (rSt H G H1) qs B := by
        have := P2.take pst qs.length
        rw [List.take_left] at this
        rw [hqsl, List.take_left] at this
        exact this
      obtain ⟨bvs, hbv, pbv, gq, hq⟩ := ptop
      have hbl := P2.len pbv
      have hzm := z2 m (List.mem_of_getElem? hm)
      have ncA : cA ≠ q := fun e => ncq (by rw [e]; simp)
      have noA : oA ≠ q := fun e => noq' (by rw [e]; simp)
      have nco : cA ≠ oA := noc.symm
      have eo' : H1 oA = some (.lst (qs.map V.ref ++ [V.ref q])) := by rw [eo, List.map_append]; rfl
      walk_at "r"
      refine ⟨_, fun σ' H' h => h, ?_⟩
      walk_at "r"
      refine i_ixL eo' (atI_last _ _) ?_
      walk_at "r"
      refine i_ixL hml1 (atI_nat (by rw [List.length_map]; exact hmx)) ?_
      walk_at "r"
      have hdec : decide (V.int (bvs.length : Nat) = V.int ((m.map V.str).length : Nat)) = decide (b.length = m.length) := by
        rw [hbl, List.length_map]
        simp
        omega
      rw [hdec]
      refine ite_b (fun h => ?_) (fun h => ?_)
      · have hbm : b.length = m.length := of_decide_eq_true h
        have hsh := hst.shut hok hm hbm
        walk_at "r"
        refine ⟨szb rfl, fun p hp => ?_⟩
        have nop : oA ≠ p := ne_of_none eo' hp
        walk_at "r"
        refine i_pop (y := .ref q) (upd_old eo' hp) (by simp) ?_
        rw [List.dropLast_concat]
        walk_at "r"
        have gk := (g.add hq gq hbv).new (o := .tup [.str "knot", .int ((c.map V.str).length : Nat), .ref q]) hp
        have gko : upd (upd G q (.lst bvs)) p (.tup [.str "knot", .int ((c.map V.str).length : Nat), .ref q]) oA = none := by rw [upd_ne nop, upd_ne noA]; exact go
        have gm := gk.mut (o := .lst (qs.map V.ref)) hoA0 gko
        have sG : Same G (upd (upd G q (.lst bvs)) p (.tup [.str "knot", .int ((c.map V.str).length : Nat), .ref q])) := Same.new (same_add gq) (g.add hq gq hbv |>.gh.free hp)
        have npq : q ≠ p := ne_of_none hbv hp
        have htr : rTr (upd (upd G q (.lst bvs)) p (.tup [.str "knot", .int ((c.map V.str).length : Nat), .ref q])) (.ref p) (.knot c.length b) := by
          refine rTr.mk (q := q) (by rw [upd_same, List.length_map]) (upd_oth npq upd_same) (P2.mono pbv fun _ _ => mBr.up sG)
        refine ite_b (fun h0 => ?_) (fun h0 => ?_)
        · have hc0 : c = [] := by
            have := of_decide_eq_true h0
            simpa using this
          walk_at "r"
          refine ⟨szb rfl, fun t ht => ?_⟩
          have gt := gm.gh.free ht
          refine kC _ _ _ (.knot c.length b) (gm.new ht) (by rw [hc0] at hsh ⊢; exact hsh) ⟨t, .ref p, rfl, upd_same, mTr.up (same_add gt) htr, ?_⟩
          intro a x q' e1 e2
          cases e1
          rw [upd_ne (ne_of_none (upd_same (H := upd G q (.lst bvs)) (a := p)) gt), upd_same] at e2
          cases e2
          exact hq
        · rcases hst.inv with ⟨e, _⟩ | ⟨c', v, B', b', m', rfl, rfl, hst', hok', hm', hv'⟩
          · exact absurd (by rw [e]; rfl) (of_decide_eq_false h0)
          · -- the frame below
            obtain ⟨qs', q', rfl⟩ : ∃ qs' q', qs = qs' ++ [q'] := by
              have : qs ≠ [] := by
                intro e
                rw [e] at hqsl
                simp at hqsl
              exact ⟨qs.dropLast, qs.getLast this, (List.dropLast_concat_getLast this).symm⟩
            have hq'l : qs'.length = B'.length := by simpa using hqsl
            have nd1 := nd_snoc nd
            have nd2 := nd_snoc nd1.1
            have nq'q : q' ≠ q := nd1.2 q' (by simp)
            have pt' : rSt H G H1 q' b' := by
              obtain ⟨bx, hbx, hh⟩ := P2.at' pbel (i := qs'.length) (x := q') (by simp)
              have : bx = b' := by
                rw [hq'l] at hbx
                simpa using hbx.symm
              rw [← this]
              exact hh
            have pb' : Paired (rSt H G H1) qs' B' := by
              have := P2.take pbel qs'.length
              rw [List.take_left, hq'l, List.take_left] at this
              exact this
            obtain ⟨bvs', hbv', pbv', gq', hq'⟩ := pt'
            have hbl' := P2.len pbv'
            have ncA' : cA ≠ q' := fun e => ncq (by rw [e]; simp)
            have noA' : oA ≠ q' := fun e => noq' (by rw [e]; simp)
            have ncp : cA ≠ p := ne_of_none ec hp
            have nq'p : q' ≠ p := ne_of_none hbv' hp
            have ec2 : upd (upd H1 p (.tup [.str "knot", .int (((c' ++ [v]).map V.str).length : Nat), .ref q])) oA (.lst ((qs' ++ [q']).map V.ref)) cA = some (.lst (c'.map V.str ++ [.str v])) := by
              rw [upd_ne nco, upd_ne ncp, ec, List.map_append]; rfl
            walk_at "r"
            refine i_pop (y := .str v) ec2 (by simp) ?_
            rw [List.dropLast_concat]
            walk_at "r"
            refine i_ixL (v := .ref q') (xs := qs'.map V.ref ++ [.ref q']) (by rw [upd_ne noc, upd_same, List.map_append]; rfl) (atI_last _ _) ?_
            have eq2 : upd (upd (upd H1 p (.tup [.str "knot", .int (((c' ++ [v]).map V.str).length : Nat), .ref q])) oA (.lst ((qs' ++ [q']).map V.ref))) cA (.lst (c'.map V.str)) q' = some (.lst bvs') := by
              rw [upd_ne ncA'.symm, upd_ne noA'.symm, upd_ne nq'p]; exact hbv'
            walk_at "r"
            refine ⟨szb rfl, fun a ha => ?_⟩
            have gkc : upd (upd G q (.lst bvs)) p (.tup [.str "knot", .int (((c' ++ [v]).map V.str).length : Nat), .ref q]) cA = none := by rw [upd_ne ncp, upd_ne ncA]; exact gc
            have gn := (gm.mut (o := .lst (c'.map V.str)) hcA gkc).new (o := .tup [.str v, .ref p]) ha
            have sG2 := (gm.mut (o := .lst (c'.map V.str)) hcA gkc).gh.free ha
            have nq'a : q' ≠ a := ne_of_none eq2 ha
            have noa : oA ≠ a := ne_of_none (show upd (upd (upd H1 p _) oA (.lst ((qs' ++ [q']).map V.ref))) cA (.lst (c'.map V.str)) oA = some _ from by rw [upd_ne noc, upd_same]) ha
            have nca : cA ≠ a := ne_of_none (upd_same (H := upd (upd H1 p _) oA (.lst ((qs' ++ [q']).map V.ref)))) ha
            walk_at "r"
            refine i_app (upd_old eq2 ha) (sz4' (by have := (List.getElem?_eq_some_iff.mp hv').1; have := z2 m' (List.mem_of_getElem? hm'); omega)) ?_
            walk_at "r"
            have gq'2 : upd (upd (upd G q (.lst bvs)) p (.tup [.str "knot", .int (((c' ++ [v]).map V.str).length : Nat), .ref q])) a (.tup [.str v, .ref p]) q' = none := by rw [upd_ne nq'a, upd_ne nq'p, upd_ne nq'q]; exact gq'
            have gE := gn.mut (o := .lst (bvs' ++ [.ref a])) hq' gq'2
            have sG3 := sG.trans (same_add (o := .tup [.str v, .ref p]) sG2)
            have hdrop : ms.drop B'.length = m' :: ms.drop (B'.length + 1) := drop_at (by rw [hst'.len]; exact hm')
            refine ⟨tM ms B' (b' ++ [(v, .knot (c' ++ [v]).length b)]), tM_shut (b' := b) (m := m') (m' := m) (by rw [hst'.len]; exact hm') (by rw [hst'.len]; simpa using hm), _, c', B', b' ++ [(v, .knot (c' ++ [v]).length b)], qs', q', _, _, _, _, _, rfl, rfl, gE, ?_, ?_, ?_, nd1.1, ?_, ?_, ?_, ?_, hst', hok'.more hm' hv' hsh, ?_⟩
            · rw [upd_ne ncA', upd_ne nca, upd_same]
            · rw [upd_ne noA', upd_ne noa, upd_ne noc, upd_same]
            · refine P2.snoc ?_ ⟨_, upd_same, P2.snoc (P2.mono pbv' fun _ _ => mBr.up sG3) ⟨a, .ref p, rfl, upd_same, mTr.up (same_add sG2) htr⟩, gq'2, hq'⟩
              have key : ∀ (qs : List Addr) (B : List (List (Str × Tr))), Paired (rSt H G H1) qs B → (∀ y ∈ qs, y ≠ q ∧ y ≠ q' ∧ y ≠ oA ∧ y ≠ cA) →
                  Paired (rSt H (upd (upd (upd G q (.lst bvs)) p (.tup [.str "knot", .int (((c' ++ [v]).map V.str).length : Nat), .ref q])) a (.tup [.str v, .ref p]))
                    (upd (upd (upd (upd (upd H1 p (.tup [.str "knot", .int (((c' ++ [v]).map V.str).length : Nat), .ref q])) oA (.lst ((qs' ++ [q']).map V.ref))) cA (.lst (c'.map V.str))) a (.tup [.str v, .ref p])) q' (.lst (bvs' ++ [.ref a])))) qs B := by
                intro qs B h
                induction h with
                | nil => intro _; exact .nil
                | @cons y bb r1 r2 hy t ih =>
                  intro hh
                  obtain ⟨n1, n2, n3, n4⟩ := hh y List.mem_cons_self
                  obtain ⟨yv, h1, h2, h3, h4⟩ := hy
                  have nyp : y ≠ p := ne_of_none h1 hp
                  have e3 : upd (upd (upd H1 p (.tup [.str "knot", .int (((c' ++ [v]).map V.str).length : Nat), .ref q])) oA (.lst ((qs' ++ [q']).map V.ref))) cA (.lst (c'.map V.str)) y = some (.lst yv) := by
                    rw [upd_ne n4, upd_ne n3, upd_ne nyp]; exact h1
                  have nya : y ≠ a := ne_of_none e3 ha
                  refine .cons ⟨yv, ?_, P2.mono h2 fun _ _ => mBr.up sG3, ?_, h4⟩ (ih fun z hz => hh z (List.mem_cons_of_mem _ hz))
                  · rw [upd_ne n2, upd_ne nya]; exact e3
                  · rw [upd_ne nya, upd_ne nyp, upd_ne n1]; exact h3
              exact key qs' B' pb' fun y hy => ⟨nd1.2 y (List.mem_append_left _ hy), nd2.2 y hy, fun e => noq' (by rw [← e]; simp [hy]), fun e => ncq (by rw [← e]; simp [hy])⟩
            · exact fun e => ncq (List.mem_append_left _ e)
            · exact fun e => noq' (List.mem_append_left _ e)
            · rw [upd_ne nca]; exact gkc
            · rw [upd_ne noa]; exact gko
            · have := (List.getElem?_eq_some_iff.mp hm').1; exact this
      · have hbm : b.length < m.length := by
          have h1 := of_decide_eq_false h
          obtain ⟨m', hm', h2, _⟩ := id hok
          rw [hm] at hm'
          cases hm'
          omega
        have hv : m[b.length]? = some m[b.length] := List.getElem?_eq_getElem hbm
        generalize m[b.length] = v at hv
        have hcl : (c ++ [v]).length = c.length + 1 := by rw [List.length_append]; rfl
        walk_at "r"
        refine i_ixL hml1 (atI_nat (by rw [List.length_map]; exact hmx)) ?_
        walk_at "r"
        refine i_ixL hlm1 (atI_nat (v := .str v) (by rw [hbl, List.getElem?_map, hv]; rfl)) ?_
        walk_at "r"
        refine i_app ec (sz4' (by rw [List.length_map]; omega)) ?_
        have ecv : c.map V.str ++ [V.str v] = (c ++ [v]).map V.str := by rw [List.map_append]; rfl
        rw [ecv]
        have g2 := g.mut (o := .lst ((c ++ [v]).map V.str)) hcA gc
        have hml2 := g2.hh _ _ hml
        have hul2 := g2.hh _ _ hul
        walk_at "r"
        have hrange : ((List.range ms.length).map (dueL ds ds.length))[c.length]? = some (dueL ds ds.length c.length) := by
          rw [List.getElem?_map, List.getElem?_range hlt]; rfl
        obtain ⟨u, hu', hur⟩ := P2.at pu hrange
        refine i_ixL hul2 (atI_nat (by rw [List.length_map]; exact hu')) ?_
        walk_at "r"
        refine ⟨dv, u, gv, .ref cA, ds, _, c ++ [v], rfl, mDems.up g2.hh hdv, (mL mN).up g2.hh hur, (mL mGood).up g2.hh hgv, rStrs.of upd_same, ?_, fun d hd => (z4 d hd).1, fun H3 s3 => ?_⟩
        · intro k' hk'
          have hk2 := List.mem_filter.mp hk'
          have hl := hk2.2
          unfold lastIs at hl
          cases e : ds[k']? with
          | none => rw [e] at hl; cases hl
          | some d =>
            rw [e] at hl
            have hl := of_decide_eq_true hl
            exact ⟨d, rfl, fun p hp => by have := hl.2 p hp; rw [hcl]; omega⟩
        · rw [← brk_snoc hcl hb0]
          have g3 := g2.ext s3
          have hbv3 := s3 _ _ (upd_oth (o := .lst ((c ++ [v]).map V.str)) ncA.symm hbv)
          have ec3 := s3 _ _ (upd_same (H := H1) (a := cA) (o := .lst ((c ++ [v]).map V.str)))
          have eo3 := s3 _ _ (upd_oth (o := .lst ((c ++ [v]).map V.str)) noc eo)
          have pst3 : Paired (rSt H G H3) (qs ++ [q]) (B ++ [b]) := by
            have key : ∀ (qs : List Addr) (B : List (List (Str × Tr))), Paired (rSt H G H1) qs B → (∀ y ∈ qs, y ≠ cA) → Paired (rSt H G H3) qs B := by
              intro qs B h
              induction h with
              | nil => intro _; exact .nil
              | @cons y bb r1 r2 hy t ih =>
                intro hh
                obtain ⟨yv, h1, h2, h3, h4⟩ := hy
                exact .cons ⟨yv, s3 _ _ (upd_oth (hh y List.mem_cons_self) h1), h2, h3, h4⟩ (ih fun z hz => hh z (List.mem_cons_of_mem _ hz))
            exact key _ _ pst fun y hy e => ncq (by rw [← e]; exact hy)
          walk_at "r"
          cases hbr : brk ds (c ++ [v]) with
          | some k' =>
            refine ite_t (by rfl) ?_
            walk_at "r"
            refine i_pop (y := .str v) ec3 (by rw [List.map_append]; simp) ?_
            have edl : ((c ++ [v]).map V.str).dropLast = c.map V.str := by rw [List.map_append]; exact List.dropLast_concat
            rw [edl]
            have hbv4 := upd_oth (o := .lst (c.map V.str)) ncA.symm hbv3
            have g4 := g3.mut (o := .lst (c.map V.str)) hcA gc
            walk_at "r"
            refine ⟨szb rfl, fun p1 hp1 => ?_⟩
            refine ⟨szb rfl, fun p2 hp2 => ?_⟩
            obtain ⟨hp20, n21⟩ := upd_non hp2
            have hbv5 := upd_old (o := .tup [.str v, .ref p1]) (upd_old (o := .tup [.str "leaf", .int (k' : Int)]) hbv4 hp1) hp2
            walk_at "r"
            refine i_app hbv5 (sz4' (by have := z2 m (List.mem_of_getElem? hm); omega)) ?_
            walk_at "r"
            have gq1 := g4.new (o := .tup [.str "leaf", .int (k' : Int)]) hp1
            have gp1 := g4.gh.free hp1
            have gp2 := gq1.gh.free hp2
            have g5 := gq1.new (o := .tup [.str v, .ref p1]) hp2
            have nqp1 : q ≠ p1 := ne_of_none hbv4 hp1
            have nqp2 : q ≠ p2 := ne_of_none (upd_old (o := .tup [.str "leaf", .int (k' : Int)]) hbv4 hp1) hp2
            have gq5 : upd (upd G p1 (.tup [.str "leaf", .int (k' : Int)])) p2 (.tup [.str v, .ref p1]) q = none := by rw [upd_ne nqp2, upd_ne nqp1]; exact gq
            have sG : Same G (upd (upd G p1 (.tup [.str "leaf", .int (k' : Int)])) p2 (.tup [.str v, .ref p1])) := Same.new (same_add gp1) gp2
            have ncp1 : cA ≠ p1 := ne_of_none (upd_same (H := H3) (a := cA) (o := .lst (c.map V.str))) hp1
            have ncp2 : cA ≠ p2 := fun e => by rw [e] at ec3; rw [upd_ne (by rw [e] at ncp1; exact ncp1)] at hp2; rw [← e, upd_same] at hp2; cases hp2
            have nop1 : oA ≠ p1 := ne_of_none (upd_oth (o := .lst (c.map V.str)) noc eo3) hp1
            have nop2 : oA ≠ p2 := ne_of_none (upd_old (o := .tup [.str "leaf", .int (k' : Int)]) (upd_oth (o := .lst (c.map V.str)) noc eo3) hp1) hp2
            refine ⟨tM ms B (b ++ [(v, .leaf k')]), tM_more (m := m) (by rw [hBl]; exact hm) hbm, _, c, B, b ++ [(v, .leaf k')], qs, q, _, _, _, _, _, rfl, rfl, g5.mut hq gq5, ?_, ?_, ?_, nd, ncq, noq', ?_, ?_, hst, hok.more hm hv (.leaf hbr), hlt⟩
            · rw [upd_ne ncA, upd_ne ncp2, upd_ne ncp1, upd_same]
            · rw [upd_ne noA, upd_ne nop2, upd_ne nop1, upd_ne noc]; exact eo3
            · have pbel3 : Paired (rSt H G H3) qs B := by
                have := P2.take pst3 qs.length
                rw [List.take_left] at this
                rw [hqsl, List.take_left] at this
                exact this
              refine P2.snoc ?_ ⟨_, upd_same, P2.snoc (P2.mono pbv fun _ _ => mBr.up sG) ⟨p2, .ref p1, rfl, upd_same, .leaf (upd_old upd_same gp2)⟩, gq5, hq⟩
              have key : ∀ (qs : List Addr) (B : List (List (Str × Tr))), Paired (rSt H G H3) qs B → (∀ y ∈ qs, y ≠ q ∧ y ≠ cA) →
                  Paired (rSt H (upd (upd G p1 (.tup [.str "leaf", .int (k' : Int)])) p2 (.tup [.str v, .ref p1]))
                    (upd (upd (upd (upd H3 cA (.lst (c.map V.str))) p1 (.tup [.str "leaf", .int (k' : Int)])) p2 (.tup [.str v, .ref p1])) q (.lst (bvs ++ [.ref p2])))) qs B := by
                intro qs B h
                induction h with
                | nil => intro _; exact .nil
                | @cons y bb r1 r2 hy t ih =>
                  intro hh
                  obtain ⟨n1, n2⟩ := hh y List.mem_cons_self
                  obtain ⟨yv, h1, h2, h3, h4⟩ := hy
                  have e1 := upd_oth (o := .lst (c.map V.str)) n2 h1
                  have nyp1 : y ≠ p1 := ne_of_none e1 hp1
                  have e2 := upd_old (o := .tup [.str "leaf", .int (k' : Int)]) e1 hp1
                  have nyp2 : y ≠ p2 := ne_of_none e2 hp2
                  refine .cons ⟨yv, ?_, P2.mono h2 fun _ _ => mBr.up sG, ?_, h4⟩ (ih fun z hz => hh z (List.mem_cons_of_mem _ hz))
                  · rw [upd_ne n1]; exact upd_old e2 hp2
                  · rw [upd_ne nyp2, upd_ne nyp1]; exact h3
              exact key qs B pbel3 fun y hy => ⟨(nd_snoc nd).2 y hy, fun e => ncq (by rw [← e]; simp [hy])⟩
            · rw [upd_ne ncp2, upd_ne ncp1]; exact gc
            · rw [upd_ne nop2, upd_ne nop1]; exact go
          | none =>
            refine ite_f (by rfl) ?_
            have hml3 := g3.hh _ _ hml
            walk_at "r"
            have hst2 := hst.push hok hm hv hbr
            have hdec2 : decide (V.int (((c ++ [v]).map V.str).length : Nat) = V.int (mvs.length : Nat)) = decide (c.length + 1 = ms.length) := by
              rw [List.length_map, hcl, hmlen]
              simp
              omega
            rw [hdec2]
            refine ite_b (fun h2 => ?_) (fun h2 => ?_)
            · have h2 := of_decide_eq_true h2
              walk_at "r"
              refine ⟨szb rfl, fun p hp => ?_⟩
              have hsol := hst2.full wf (by rw [hcl]; exact h2)
              have gf := (g3.add hcA gc ec3).new (o := .tup [.str "solved", .ref cA]) hp
              exact kS _ _ _ _ gf hsol ⟨p, cA, rfl, upd_same, upd_old upd_same ((g3.add hcA gc ec3).gh.free hp), hcA⟩
            · have h2 := of_decide_eq_false h2
              have hlt2 : c.length + 1 < ms.length := by omega
              have hm2 : ms[c.length + 1]? = some ms[c.length + 1] := List.getElem?_eq_getElem hlt2
              walk_at "r"
              refine ⟨szb rfl, fun qn hqn => ?_⟩
              walk_at "r"
              refine i_app (upd_old eo3 hqn) (sz4' (by simp; omega)) ?_
              walk_at "r"
              have g4 := g3.tmp (o := .lst []) hqn
              have noqn : oA ≠ qn := ne_of_none eo3 hqn
              have hqnH : H qn = none := g3.hh.free hqn
              have hqnG : G qn = none := g3.gh.free hqn
              refine ⟨tM ms (B ++ [b]) [], tM_open (m := m) (m' := ms[c.length + 1]) (by rw [hBl]; exact hm) (by rw [hBl]; exact hm2) hbm, _, c ++ [v], B ++ [b], [], qs ++ [q], qn, _, _, _, _, _, rfl, rfl, g4.mut hoA0 go, ?_, ?_, ?_, ?_, ?_, ?_, gc, go, hst2, OkB.nil (m := ms[c.length + 1]) (by rw [hcl]; exact hm2), by rw [hcl]; exact hlt2⟩
              · rw [upd_ne nco]; exact upd_old ec3 hqn
              · rw [upd_same, List.map_append (l₂ := [qn])]; rfl
              · refine P2.snoc ?_ ⟨[], upd_oth noqn.symm upd_same, .nil, hqnG, hqnH⟩
                exact rSt.all pst3 fun y hy o e => by rw [upd_ne fun e2 => noq' (by rw [← e2]; exact hy)]; exact upd_old e hqn
              · rw [List.nodup_append]
                refine ⟨nd, by simp, fun y hy z hz => ?_⟩
                rw [List.mem_singleton] at hz
                subst hz
                obtain ⟨bb, _, yv, h1, _⟩ := P2.mem pst3 hy
                exact ne_of_none h1 hqn
              · intro hh
                rcases List.mem_append.mp hh with h | h
                · exact ncq h
                · rw [List.mem_singleton] at h
                  rw [← h, ec3] at hqn
                  cases hqn
              · intro hh
                rcases List.mem_append.mp hh with h | h
                · exact noq' h
                · rw [List.mem_singleton] at h
                  exact noqn h
end
end K9
end
section
set_option Elab.async false
set_option maxRecDepth 100000
set_option maxHeartbeats 8000000
namespace K9
open PySem PySem.Spec L2 EV
local macro_rules | `(tactic| walk_at "hp") => `(tactic| first | assumption | exact upd_same | (refine upd_old ?_ (by assumption); walk_at "hp") | (refine upd_oth (by first | assumption | (apply Ne.symm; assumption)) ?_; walk_at "hp"))
local macro_rules | `(tactic| walk_at "kb") => `(tactic| first | exact kb_NoneType_bool | exact kb_NoneType_int | exact kb_NoneType_str | exact kb_NoneType_dict | exact kb_NoneType_list | exact kb_NoneType_tuple | exact kb_bool_bool | exact kb_bool_int | exact kb_bool_str | exact kb_bool_dict | exact kb_bool_list | exact kb_bool_tuple | exact kb_int_bool | exact kb_int_int | exact kb_int_str | exact kb_int_dict | exact kb_int_list | exact kb_int_tuple | exact kb_str_bool | exact kb_str_int | exact kb_str_str | exact kb_str_dict | exact kb_str_list | exact kb_str_tuple | exact kb_list_bool | exact kb_list_int | exact kb_list_str | exact kb_list_dict | exact kb_list_list | exact kb_list_tuple | exact kb_tuple_bool | exact kb_tuple_int | exact kb_tuple_str | exact kb_tuple_dict | exact kb_tuple_list | exact kb_tuple_tuple)
local macro_rules | `(tactic| walk_at "ty") => `(tactic| first | exact tx_int | exact tx_str | exact tx_non | exact tx_bl | exact tx_lst (by walk_at "hp") | exact tx_tup (by walk_at "hp"))
local macro_rules | `(tactic| walk_at "r1") => `(tactic| first
  | ((with_reducible refine' i_var ?e1 ?_); (case e1 => rfl)) | with_reducible refine i_seq ?_ | with_reducible refine i_c ?_ | with_reducible refine i_op ?_ | with_reducible refine i_I0 ?_
  | with_reducible refine i_asg ?_ | with_reducible refine i_gname ?_ | with_reducible refine i_nil ?_ | with_reducible refine i_cons ?_ | with_reducible refine i_cb ?_ | with_reducible refine i_call ?_
  | with_reducible refine i_test ?_ | with_reducible refine i_tB ?_ | with_reducible refine i_bl ?_ | with_reducible refine i_int ?_ | with_reducible refine i_if ?_ | with_reducible refine i_ifx ?_
  | with_reducible refine i_ret ?_ | with_reducible refine i_retN ?_ | with_reducible refine i_drop ?_ | with_reducible refine i_next ?_ | with_reducible refine i_break ?_ | with_reducible refine i_cont ?_
  | with_reducible refine i_par ?_ | with_reducible refine i_par1 ?_ | with_reducible refine i_and ?_ | with_reducible refine i_or ?_ | with_reducible refine i_not ?_ | with_reducible refine i_truth ?_
  | with_reducible refine i_andV ?_ | with_reducible refine i_orV ?_ | with_reducible refine i_tup ?_ | with_reducible refine i_lst ?_ | with_reducible refine i_un ?_ | with_reducible refine i_U ?_
  | with_reducible refine i_bm ?_ | with_reducible refine i_bm0 ?_ | with_reducible refine i_sl ?_ | with_reducible refine i_nopart ?_ | with_reducible refine i_part ?_ | with_reducible refine i_fld ?_
  | with_reducible refine i_gsub ?_ | with_reducible refine i_gcons ?_ | with_reducible refine i_gnil ?_
  | ((with_reducible refine' i_eq ?e1 ?_); (case e1 => rfl)) | ((with_reducible refine' i_ne ?e1 ?_); (case e1 => rfl))
  | ((with_reducible refine' i_I ?e1 ?_); (case e1 => first | decide | exact .inr ⟨by decide, by decide⟩ | exact ⟨by decide, by decide⟩ | assumption))
  | ((with_reducible refine' i_ixL ?e1 ?e2 ?_); (case e1 => walk_at "hp"); (case e2 => first | rfl | assumption))
  | ((with_reducible refine' i_ixT ?e1 ?e2 ?_); (case e1 => walk_at "hp"); (case e2 => first | rfl | assumption))
  | ((with_reducible refine' i_len ?e1 ?_); (case e1 => walk_at "hp")) | ((with_reducible refine' i_lenT ?e1 ?_); (case e1 => walk_at "hp"))
  | ((with_reducible refine' i_gtup ?e1 ?e2 ?_); (case e1 => walk_at "hp"); (case e2 => rfl))
  | ((with_reducible refine' i_set ?e1 ?e2 ?_); (case e1 => walk_at "hp"); (case e2 => rfl))
  | with_reducible refine i_int1 ?_ | with_reducible refine i_abs1 ?_ | with_reducible refine i_max2 ?_ | with_reducible refine i_min2 ?_ | with_reducible refine i_non ?_ | with_reducible refine i_nnon ?_
  | with_reducible refine i_for ?_ | with_reducible refine i_irng1 ?_ | with_reducible refine i_ilist ?_ | with_reducible refine i_itup ?_ | with_reducible refine i_ienum ?_ | with_reducible refine i_irev ?_ | with_reducible refine i_izip ?_ | with_reducible refine i_lc ?_ | with_reducible refine i_yes ?_ | with_reducible refine i_notV ?_ | ((with_reducible refine' i_isi ?e1 ?e2 ?_); (case e1 => walk_at "ty"); (case e2 => walk_at "kb")) | with_reducible refine i_meth ?_ | with_reducible refine i_make ?_ | with_reducible refine i_din ?_ | with_reducible refine i_dni ?_ | with_reducible refine i_dget ?_ | with_reducible refine i_dcT ?_ | with_reducible refine i_sfld ?_ | with_reducible refine i_chain ?_ | ((with_reducible refine' i_tuple ?e1 ?_); (case e1 => walk_at "hp")) | ((with_reducible refine' i_list ?e1 ?_); (case e1 => walk_at "hp")) | with_reducible refine iteT ?_ | with_reducible refine iteF ?_ | with_reducible refine iteNF ?_ | with_reducible refine iteNT ?_
  | ((with_reducible refine' i_ilistE ?e1 ?_); (case e1 => walk_at "hp")) | ((with_reducible refine' i_itupE ?e1 ?_); (case e1 => walk_at "hp")) | ((with_reducible refine' i_ienumE ?e1 ?_); (case e1 => walk_at "hp")) | ((with_reducible refine' i_irevE ?e1 ?_); (case e1 => walk_at "hp"))
  | ((with_reducible refine' i_rng1 ?e1 ?_); (case e1 => first | omega | decide); (try with_reducible rw [Int.toNat_natCast]))
  | ((with_reducible refine' And.intro ?e1 ?_); (case e1 => first | exact i_ty (by walk_at "hp") | rfl)))
local macro_rules | `(tactic| walk_at "r") => `(tactic| repeat walk_at "r1")

theorem kR_inj {r r' : List Str} (h : kR r = kR r') : r = r' := by
  unfold kR at h
  induction r generalizing r' with
  | nil => cases r' with | nil => rfl | cons => cases h
  | cons a t ih =>
    cases r' with
    | nil => cases h
    | cons b u =>
      rw [List.map_cons, List.map_cons, List.cons.injEq] at h
      rw [Sum.inr.inj h.1, ih h.2]
section
variable {P : Program} {w : World} {K : PySem.W.Frag} {mg : Str → Option Value} {base : Heap}
def spSolve (C : Addr) : Sp := fun vs H Q _ => ∃ (D : Hp) (v : V) (ms : List (List Str)) (ds : List Dem), vs = [v] ∧ Same D H ∧ rProb C D v (ms, ds) ∧ WF ms.length ds ∧ SizeOk ms ds ∧
  (∀ H' D' v c, Grow D H D' H' → sol ds [] ms = some c → rSolved D' H v c → Q v H') ∧ (∀ H' D' v t, Grow D H D' H' → Closed ds ms [] t → rClosed D' H v t → Q v H')
theorem ok_solve_problem (T : Txt K mg) : FnOk P w K mg base CX0 3 T.a_solve_problem T.fd_solve_problem ["problem"] (spSolve T.c_Problem) := by
  refine T.F_solve_problem.ok sc_solve_problem (fun vs H Q E h => ?_) (fun cdv A outer s H vs Q E hr h => ?_)
  · obtain ⟨_, _, _, _, rfl, _⟩ := h; rfl
  · obtain ⟨D, v, ms, ds, rfl, sD, hpr, wf, hz, kS, kC⟩ := h
    obtain ⟨z1, z2, z3, z4⟩ := id hz
    have hr1 : Room 1 _ := hr.mono (by decide); have hr2 : Room 2 _ := hr.mono (by decide)
    have hu := hu_of hr
    obtain ⟨a, dx, c0, d0, rfl, ha, hdx, _, _⟩ := id hpr
    have ha1 := sD _ _ ha
    refine ⟨_, (pss_cons (ps_set (i := 1) sc_solve_problem.nd rfl (Or.inl rfl) (pe_meth0 (pv 0) T.cl_Problem T.mt_Problem_choices (ok_Problem_choices T) hr1 (bd_Problem_choices T) .nil pass0))
    (pss_cons (ps_set (i := 2) sc_solve_problem.nd rfl (Or.inl rfl) (pe_meth0 (pv 0) T.cl_Problem T.mt_Problem_demands (ok_Problem_demands T) hr1 (bd_Problem_demands T) .nil pass0))
    (pss_cons (ps_setLc (i := 3) (own := [("places", 7), ("rows", 8)]) rfl sc_solve_problem.nd rfl rfl (sw_true rfl rfl rfl (by decide +kernel)) (EV.piL (K := K) rfl (pv 2)) (blkOk_by (own := [("places", 7), ("rows", 8)]) (N := ["problem", "choices", "demands", "good", "due", "bare", "number", "places", "rows", "row"]) (sc := defScope s_solve_problem) (by decide +kernel)) (fun _ _ _ _ _ => (EV.pgT (K := K) (n := 2) rfl rfl (pgs_cons (pg_name (i := 7) sc_solve_problem.nd rfl (Or.inl rfl)) (pgs_cons (pg_name (i := 8) sc_solve_problem.nd rfl (Or.inl rfl)) pgs_nil)))) (fun _ _ _ _ _ => pts_nil) (fun _ _ _ _ _ => (EV.peDcT (own := [("row", 9)]) hu rfl sc_solve_problem.nd (EV.piL (K := K) rfl (pv 8)) (blkOk_by (own := [("row", 9)]) (N := ["problem", "choices", "demands", "good", "due", "bare", "number", "places", "rows", "row"]) (sc := _) (by kernel_rfl)) (fun _ _ _ _ _ => (pg_name (i := 9) sc_solve_problem.nd rfl (Or.inl rfl))) (fun _ _ _ _ _ => pts_nil) (fun _ _ _ _ _ => (pv 9)) (fun _ _ _ _ _ => pe_bl))))
    (pss_cons (ps_asg (pe_call (ok_due_demands T) hr1 rfl T.m_due_demands T.F_due_demands.kp (bd_due_demands T) .nil pass0 (pa_cons (pe_callB (EV.cLen (K := K) rfl) (by rfl) T.b_len (by decide +kernel) (pa_cons (pv 1) pa_nil)) (pa_cons (pv 2) pa_nil))) (EV.pgT (K := K) (n := 2) rfl rfl (pgs_cons (pg_name (i := 4) sc_solve_problem.nd rfl (Or.inl rfl)) (pgs_cons (pg_name (i := 5) sc_solve_problem.nd rfl (Or.inl rfl)) pgs_nil))))
    (pss_cons (ps_set (i := 6) sc_solve_problem.nd rfl (Or.inl rfl) (pe_call (ok_first_broken T) hr1 rfl T.m_first_broken T.F_first_broken.kp (bd_first_broken T) .nil pass0 (pa_cons (pv 5) (pa_cons (pv 2) (pa_cons (pv 3) (pa_cons (pe_lst pa_nil) pa_nil))))))
    (pss_cons (ps_if (pt_cmpR EV.opNotN (pv 6) pe_non (nomark _))
      (pss_one (ps_ret (pe_tup (pa_cons pe_str (pa_cons (pe_tup (pa_cons pe_str (pa_cons (pv 6) pa_nil))) pa_nil)))))
      pss_nil)
    (pss_cons (ps_if (pt_cmpR op_eq (pe_callB (EV.cLen (K := K) rfl) (by rfl) T.b_len (by decide +kernel) (pa_cons (pv 1) pa_nil)) pe_int (nomark _))
      (pss_one (ps_ret (pe_tup (pa_cons pe_str (pa_cons (pe_lst pa_nil) pa_nil)))))
      pss_nil)
    (pss_one (ps_ret (pe_call (ok_search_tree T) hr2 rfl T.m_search_tree T.F_search_tree.kp (bd_search_tree T) .nil pass0 (pa_cons (pv 1) (pa_cons (pv 2) (pa_cons (pv 4) (pa_cons (pv 3) pa_nil)))))))))))))), ?_⟩
    walk_at "r"
    refine ⟨_, _, _, rfl, ha1, pf_no (by decide +kernel) (by decide +kernel), ?_⟩
    refine ⟨D, _, _, rfl, sD, hpr, hz, fun H1 mv D1 g1 hm => ?_⟩
    walk_at "r"
    refine ⟨_, _, _, rfl, g1.hh _ _ ha1, pf_no (by decide +kernel) (by decide +kernel), ?_⟩
    refine ⟨D1, _, _, rfl, g1.gh, mProb.up g1.gg hpr, hz, fun H2 dv D2 g2 hd => ?_⟩
    have hm2 : rMenus H2 mv ms := by
      obtain ⟨h, _⟩ := hm
      exact mMenus.up (g2.gg.trans g2.gh) (mono2 (fun _ _ _ h => h.1) h)
    have hd2 : rDems H2 dv ds := by
      obtain ⟨h, _⟩ := hd
      exact mDems.up g2.gh (mono2 (fun _ _ _ ⟨p, b, c, h1, h2, h3, h4, _⟩ => ⟨p, _, _, h1, h2, h3, h4⟩) h)
    have gA := g1.trans g2
    obtain ⟨dl, dvs, rfl, hdl, pd⟩ := id hd2
    walk_at "r"
    intro gl hgl
    refine lc_mapL (S := rGood) (ys' := ds.map (·.2)) mGood g2.gh hdl (by rw [P2.len pd, List.length_map]) (by rw [List.length_map]; omega) hgl ?_ ?_
    · intro i x rows G H3 hx hrow g3 k2 hk2
      obtain ⟨d, hd', dp, pv, rv, rfl, hdp, hpv, q, rvs, rfl, hq, pr⟩ := P2.at' pd hx
      rw [List.getElem?_map, hd'] at hrow
      cases hrow
      have hdp3 := g3.hh _ _ hdp
      have hq3 := g3.hh _ _ hq
      have hzd := z4 d (List.mem_of_getElem? hd')
      have hrl := P2.len pr
      walk_at "r"
      intro Dd hDd
      refine dcT_list (xs := rvs) (fun j H' => ∃ kvs, Sb Dd H3 H' ∧ H' Dd = some (.dT kvs) ∧ kvs.length ≤ j ∧ ∀ r : List Str, (valV kvs (kR r)).isSome = decide (r ∈ d.2.take j))
        ⟨[], Sb.new (Sb.refl _ _) hDd, upd_same, Nat.le_refl _, fun r => by simp [valV]⟩ (fun j H' ⟨_, e, _⟩ => e _ _ (ne_of_none hq3 hDd) hq3) ?_ ?_
      · rintro j y H4 hy ⟨kvs, s4, e4, ln, hall⟩
        obtain ⟨r, hr', hrw⟩ := P2.at' pr hy
        obtain ⟨t, rfl, ht⟩ := rRow.at hrw
        have ht3 := g3.hh _ _ ht
        have ht4 := s4 _ _ (ne_of_none ht3 hDd) ht3
        have hjl := (List.getElem?_eq_some_iff.mp hr').1
        walk_at "r"
        refine ⟨kvs, kR r, t, rfl, by rw [kR_val]; exact ht4, e4, sz4' (by omega), _, s4.upd, upd_same, ?_, fun r' => ?_⟩
        · have := length_putK kvs (kR r) (.bl true)
          omega
        · rw [valV_put, List.take_add_one, hr']
          by_cases e : kR r' = kR r
          · rw [if_pos e, kR_inj e]
            simp
          · rw [if_neg e, hall r']
            have : r' ≠ r := fun h => e (by rw [h])
            simp [this]
      · rintro H4 ⟨kvs, s4, e4, ln, hall⟩
        have sH : Same H3 H4 := fun b o e => s4 _ _ (ne_of_none e hDd) e
        refine hk2 _ _ _ (((Grow.refl g3.gh).ext sH).add hDd (g3.gh.free hDd) e4) ⟨Dd, kvs, rfl, upd_same, fun r => ?_⟩
        rw [hall r, hrl, List.take_length]
    · intro H3 G3 acc g3 gd3 ed3 pg3
      have gB := gA.trans (g3.add hgl gd3 ed3)
      have hgood : rL rGood H3 (.ref gl) (ds.map (·.2)) := ⟨gl, acc, rfl, ed3, P2.mono pg3 fun _ _ => mGood.up g3.gh⟩
      obtain ⟨ml, mvs, rfl, hml, pm⟩ := id hm2
      have hml3 := g3.hh _ _ hml
      have hmll := P2.len pm
      walk_at "r"
      rw [hmll]
      refine ⟨_, _, ds, ms.length, rfl, gB.gh, mDems.up g3.hh hd2, wf, z1, z3, z4, fun H4 uv D4 g4 hdue => ?_⟩
      have gC := gB.trans g4
      obtain ⟨t, u1, u2, rfl, ht, hu1, hu2⟩ := hdue
      have ht4 := g4.gh _ _ ht
      walk_at "r"
      refine ⟨szb rfl, fun e0 he0 => ?_⟩
      have g5 := gC.tmp (o := .lst []) he0
      have s25 : Same H2 (upd H4 e0 (.lst [])) := Same.new (fun b o e => g4.hh _ _ (g3.hh _ _ e)) he0
      have s35 : Same H3 (upd H4 e0 (.lst [])) := Same.new g4.hh he0
      refine ⟨.ref dl, u2, .ref gl, .ref e0, ds, _, [], rfl, mDems.up s25 hd2, (mL mN).up (Same.new g4.gh he0) hu2, (mL mGood).up s35 hgood, rStrs.of upd_same, ?_, fun d hd => (z4 d hd).1, fun H6 s6 => ?_⟩
      · intro k' hk'
        have hk2 := (List.mem_filter.mp hk').2
        unfold bareIs at hk2
        cases e : ds[k']? with
        | none => rw [e] at hk2; cases hk2
        | some d =>
          rw [e] at hk2
          have hk2 := of_decide_eq_true hk2
          exact ⟨d, rfl, fun p hp => by rw [hk2] at hp; cases hp⟩
      · rw [← brk_nil]
        have g6 := g5.ext s6
        have s26 : Same H2 H6 := s25.trans s6
        have s36 : Same H3 H6 := s35.trans s6
        walk_at "r"
        cases hbr : brk ds [] with
        | some k' =>
          refine ite_t (by rfl) ?_
          walk_at "r"
          refine ⟨szb rfl, fun p1 hp1 => ?_⟩
          refine ⟨szb rfl, fun p2 hp2 => ?_⟩
          have g7 := g6.new (o := .tup [.str "leaf", .int (k' : Int)]) hp1
          refine kC _ _ _ _ (g7.new (o := .tup [.str "closed", .ref p1]) hp2) (.leaf hbr) ⟨p2, .ref p1, rfl, upd_same, .leaf (upd_old upd_same (g7.gh.free hp2)), ?_⟩
          intro a' x q e1 e2
          cases e1
          rw [upd_ne (ne_of_none (upd_same (a := p1)) (g7.gh.free hp2)), upd_same] at e2
          cases e2
        | none =>
          refine ite_f (by rfl) ?_
          have hml6 := s26 _ _ hml
          walk_at "r"
          refine ite_b (fun h => ?_) (fun h => ?_)
          · have hms : ms = [] := by
              have := of_decide_eq_true h
              rw [hmll] at this
              simpa using this
            subst hms
            walk_at "r"
            refine ⟨szb rfl, fun p1 hp1 => ?_⟩
            refine ⟨szb rfl, fun p2 hp2 => ?_⟩
            have g7 := g6.new (o := .lst []) hp1
            have hsol : sol ds [] [] = some [] := by
              rw [sol, sat_of (c := []) wf (fun i _ => by rw [List.take_nil]; exact hbr)]
              rfl
            exact kS _ _ _ [] (g7.new (o := .tup [.str "solved", .ref p1]) hp2) hsol ⟨p2, p1, rfl, upd_same, upd_old upd_same (g7.gh.free hp2), g6.hh.free hp1⟩
          · have hms : 0 < ms.length := by
              have h9 := of_decide_eq_false h
              rw [hmll] at h9
              rcases Nat.eq_zero_or_pos ms.length with e | e
              · rw [e] at h9
                exact absurd rfl h9
              · exact e
            walk_at "r"
            refine ⟨D, .ref ml, .ref dl, u1, .ref gl, ms, ds, rfl, g6.base, mMenus.up s26 hm2, mDems.up s26 hd2, (mL (mL mN)).up ((Same.new g4.gh he0).trans s6) hu1, (mL mGood).up s36 hgood, wf, hms, hbr, hz, fun H' D' v' c' g' hs' hv' => ?_, fun H' D' v' t' g' hc' hv' => ?_⟩
            · obtain ⟨p, q, e1, e2, e3, e4⟩ := hv'
              exact kS _ _ _ _ ⟨g'.gg, fun b o e => g'.hh _ _ (g6.hh _ _ e), g'.gh, fun b o e => (g'.nw b o e).imp id g6.hh.free⟩ hs' ⟨p, q, e1, e2, e3, g6.hh.free e4⟩
            · obtain ⟨p, x, e1, e2, e3, e4⟩ := hv'
              exact kC _ _ _ _ ⟨g'.gg, fun b o e => g'.hh _ _ (g6.hh _ _ e), g'.gh, fun b o e => (g'.nw b o e).imp id g6.hh.free⟩ hc' ⟨p, x, e1, e2, e3, fun a y q h1 h2 => g6.hh.free (e4 a y q h1 h2)⟩
end
end K9
end
section
set_option Elab.async false
set_option maxRecDepth 100000
set_option pp.maxSteps 3000
set_option maxHeartbeats 8000000
namespace K9
open PySem PySem.Spec L2 EV
local macro_rules | `(tactic| walk_at "hp") => `(tactic| first | assumption | exact upd_same | (refine upd_old ?_ (by assumption); walk_at "hp") | (refine upd_oth (by first | assumption | (apply Ne.symm; assumption)) ?_; walk_at "hp"))
local macro_rules | `(tactic| walk_at "kb") => `(tactic| first | exact kb_NoneType_bool | exact kb_NoneType_int | exact kb_NoneType_str | exact kb_NoneType_dict | exact kb_NoneType_list | exact kb_NoneType_tuple | exact kb_bool_bool | exact kb_bool_int | exact kb_bool_str | exact kb_bool_dict | exact kb_bool_list | exact kb_bool_tuple | exact kb_int_bool | exact kb_int_int | exact kb_int_str | exact kb_int_dict | exact kb_int_list | exact kb_int_tuple | exact kb_str_bool | exact kb_str_int | exact kb_str_str | exact kb_str_dict | exact kb_str_list | exact kb_str_tuple | exact kb_list_bool | exact kb_list_int | exact kb_list_str | exact kb_list_dict | exact kb_list_list | exact kb_list_tuple | exact kb_tuple_bool | exact kb_tuple_int | exact kb_tuple_str | exact kb_tuple_dict | exact kb_tuple_list | exact kb_tuple_tuple)
local macro_rules | `(tactic| walk_at "ty") => `(tactic| first | exact tx_int | exact tx_str | exact tx_non | exact tx_bl | exact tx_lst (by walk_at "hp") | exact tx_tup (by walk_at "hp"))
local macro_rules | `(tactic| walk_at "r1") => `(tactic| first
  | ((with_reducible refine' i_var ?e1 ?_); (case e1 => rfl)) | with_reducible refine i_seq ?_ | with_reducible refine i_c ?_ | with_reducible refine i_op ?_ | with_reducible refine i_I0 ?_
  | with_reducible refine i_asg ?_ | with_reducible refine i_gname ?_ | with_reducible refine i_nil ?_ | with_reducible refine i_cons ?_ | with_reducible refine i_cb ?_ | with_reducible refine i_call ?_
  | with_reducible refine i_test ?_ | with_reducible refine i_tB ?_ | with_reducible refine i_bl ?_ | with_reducible refine i_int ?_ | with_reducible refine i_if ?_ | with_reducible refine i_ifx ?_
  | with_reducible refine i_ret ?_ | with_reducible refine i_retN ?_ | with_reducible refine i_drop ?_ | with_reducible refine i_next ?_ | with_reducible refine i_break ?_ | with_reducible refine i_cont ?_
  | with_reducible refine i_par ?_ | with_reducible refine i_par1 ?_ | with_reducible refine i_and ?_ | with_reducible refine i_or ?_ | with_reducible refine i_not ?_ | with_reducible refine i_truth ?_
  | with_reducible refine i_andV ?_ | with_reducible refine i_orV ?_ | with_reducible refine i_tup ?_ | with_reducible refine i_lst ?_ | with_reducible refine i_un ?_ | with_reducible refine i_U ?_
  | with_reducible refine i_bm ?_ | with_reducible refine i_bm0 ?_ | with_reducible refine i_sl ?_ | with_reducible refine i_nopart ?_ | with_reducible refine i_part ?_ | with_reducible refine i_fld ?_
  | with_reducible refine i_gsub ?_ | with_reducible refine i_gcons ?_ | with_reducible refine i_gnil ?_
  | ((with_reducible refine' i_eq ?e1 ?_); (case e1 => rfl)) | ((with_reducible refine' i_ne ?e1 ?_); (case e1 => rfl))
  | ((with_reducible refine' i_I ?e1 ?_); (case e1 => first | decide | exact .inr ⟨by decide, by decide⟩ | exact ⟨by decide, by decide⟩ | assumption))
  | ((with_reducible refine' i_ixL ?e1 ?e2 ?_); (case e1 => walk_at "hp"); (case e2 => first | rfl | assumption))
  | ((with_reducible refine' i_ixT ?e1 ?e2 ?_); (case e1 => walk_at "hp"); (case e2 => first | rfl | assumption))
  | ((with_reducible refine' i_len ?e1 ?_); (case e1 => walk_at "hp")) | ((with_reducible refine' i_lenT ?e1 ?_); (case e1 => walk_at "hp"))
  | ((with_reducible refine' i_gtup ?e1 ?e2 ?_); (case e1 => walk_at "hp"); (case e2 => rfl))
  | ((with_reducible refine' i_set ?e1 ?e2 ?_); (case e1 => walk_at "hp"); (case e2 => rfl))
  | with_reducible refine i_int1 ?_ | with_reducible refine i_abs1 ?_ | with_reducible refine i_max2 ?_ | with_reducible refine i_min2 ?_ | with_reducible refine i_non ?_ | with_reducible refine i_nnon ?_
  | with_reducible refine i_for ?_ | with_reducible refine i_irng1 ?_ | with_reducible refine i_ilist ?_ | with_reducible refine i_itup ?_ | with_reducible refine i_ienum ?_ | with_reducible refine i_irev ?_ | with_reducible refine i_izip ?_ | with_reducible refine i_lc ?_ | with_reducible refine i_yes ?_ | with_reducible refine i_notV ?_ | ((with_reducible refine' i_isi ?e1 ?e2 ?_); (case e1 => walk_at "ty"); (case e2 => walk_at "kb")) | with_reducible refine i_meth ?_ | with_reducible refine i_make ?_ | with_reducible refine i_din ?_ | with_reducible refine i_dni ?_ | with_reducible refine i_dget ?_ | with_reducible refine i_dcT ?_ | with_reducible refine i_sfld ?_ | with_reducible refine i_chain ?_ | ((with_reducible refine' i_tuple ?e1 ?_); (case e1 => walk_at "hp")) | ((with_reducible refine' i_list ?e1 ?_); (case e1 => walk_at "hp")) | with_reducible refine iteT ?_ | with_reducible refine iteF ?_ | with_reducible refine iteNF ?_ | with_reducible refine iteNT ?_
  | ((with_reducible refine' i_ilistE ?e1 ?_); (case e1 => walk_at "hp")) | ((with_reducible refine' i_itupE ?e1 ?_); (case e1 => walk_at "hp")) | ((with_reducible refine' i_ienumE ?e1 ?_); (case e1 => walk_at "hp")) | ((with_reducible refine' i_irevE ?e1 ?_); (case e1 => walk_at "hp"))
  | ((with_reducible refine' i_rng1 ?e1 ?_); (case e1 => first | omega | decide); (try with_reducible rw [Int.toNat_natCast]))
  | ((with_reducible refine' And.intro ?e1 ?_); (case e1 => first | exact i_ty (by walk_at "hp") | rfl)))
local macro_rules | `(tactic| walk_at "r") => `(tactic| repeat walk_at "r1")

section
variable {P : Program} {w : World} {K : PySem.W.Frag} {mg : Str → Option Value} {base : Heap}
def spTreeN (n : Nat) : Sp := fun vs H Q _ => ∃ (D : Hp) (s : Addr) (mv dv tv : V) (ms : List (List Str)) (ds : List Dem) (told : Tl) (left : Nat), vs = [.ref s, mv, dv, tv, .int (left : Int)] ∧ Reg D H s ∧ Rng H s ∧ rMenus D mv ms ∧ rDems D dv ds ∧ rTl D tv told ∧
  TOk ms told ∧ told.length + left = ms.length ∧ left < n ∧ ms.length ≤ 7 ∧ (∀ m ∈ ms, m.length ≤ 3) ∧ ds.length ≤ 200 ∧ (∀ d ∈ ds, d.1.length ≤ 3) ∧ WF ms.length ds ∧ sol ds [] ms = none ∧
  ∀ H' D' v t, GrS s D H D' H' → rTz D' v t → Good ds ms told t → t.nn ≤ nb left → Q v H'
theorem ok_treeN (T : Txt K mg) : ∀ n, FnOk P w K mg base CX0 (n + 2) T.a_c_tree T.fd_c_tree ["s", "menus", "demands", "told", "left"] (spTreeN n)
  | 0 => by
    exact ⟨fun vs H Q E ⟨_, _, _, _, _, _, _, _, _, _, _, _, _, _, _, _, _, h, _⟩ => absurd h (Nat.not_lt_zero _), fun A outer s H args us vs Q E _ _ _ _ ⟨_, _, _, _, _, _, _, _, _, _, _, _, _, _, _, _, _, h, _⟩ => absurd h (Nat.not_lt_zero _)⟩
  | n + 1 => by
    have ih : FnOk P w K mg base CX0 (n + 2) T.a_c_tree T.fd_c_tree ["s", "menus", "demands", "told", "left"] (spTreeN n) := ok_treeN T n
    refine T.F_c_tree.ok sc_c_tree (fun vs H Q E h => ?_) (fun cdv A outer s0 H vs Q E hr h => ?_)
    · obtain ⟨_, _, _, _, _, _, _, _, _, rfl, _⟩ := h; rfl
    · obtain ⟨D, s, mv, dv, tv, ms, ds, told, left, rfl, rg, hR, hm, hd, hT, hok, hlen, hln, hm7, hm3, hd200, hd3, hwf, hsol, k⟩ := h
      have hrR : Room (n + 2) _ := hr
      have hr1 : Room 1 _ := hr.mono (by omega)
      have hr2 : Room 2 _ := hr.mono (by omega)
      have hu := hu_of hr
      obtain ⟨ml, mvs, rfl, hml, pm⟩ := id hm
      obtain ⟨dl, dvs, rfl, hdl, pd⟩ := id hd
      obtain ⟨tp, kvs, rfl, htp, hkl, hkv⟩ := id hT
      have hmvl := P2.len pm
      have hdvl := P2.len pd
      refine ⟨_, (pss_cons (ps_set (i := 5) sc_c_tree.nd rfl (Or.inl rfl) (pe_lst pa_nil))
    (pss_cons (ps_for PassesOwn.never rfl (pi_range1 rfl T.b_range (pa_cons (pe_callB (EV.cLen (K := K) rfl) (by rfl) T.b_len (by decide +kernel) (pa_cons (pv 2) pa_nil)) pa_nil)) (pg_name (i := 6) sc_c_tree.nd rfl (Or.inl rfl))
      (pss_cons (ps_asg (pe_ix (EV.ixL (K := K) rfl) (pv 2) (pv 6) (fun _ _ => rfl)) (EV.pgT (K := K) (n := 2) rfl rfl (pgs_cons (pg_name (i := 7) sc_c_tree.nd rfl (Or.inl rfl)) (pgs_cons (pg_name (i := 8) sc_c_tree.nd rfl (Or.inl rfl)) pgs_nil))))
      (pss_one (EV.psIfM (PW.pt (pw_and (pt_val (pe_callB (EV.cAll (K := K) rfl rfl) (by rfl) T.b_all (by decide +kernel) (pa_cons (pe_lc (own := [("p", 10)]) rfl sc_c_tree.nd (EV.piL (K := K) rfl (pv 7)) (blkOk_by (own := [("p", 10)]) (N := ["s", "menus", "demands", "told", "left", "bad", "k", "places", "rows", "free", "p", "branches", "x", "deeper"]) (sc := defScope s_c_tree) (by decide +kernel)) (fun _ _ _ _ _ => (pg_name (i := 10) sc_c_tree.nd rfl (Or.inl rfl))) (fun _ _ _ _ _ => pts_nil) (fun _ _ _ _ _ => (pe_cmp (pc_din hu (pv 10) (pv 3)) (by rfl)))) pa_nil))) (pw_and1 (pt_cmpR (EV.opNiP (K := K) rfl hr.units) (pe_callTy (EV.cTuple (K := K) rfl) (by rfl) T.b_tuple (by decide +kernel) (pa_cons (pe_lc (own := [("p", 10)]) rfl sc_c_tree.nd (EV.piL (K := K) rfl (pv 7)) (blkOk_by (own := [("p", 10)]) (N := ["s", "menus", "demands", "told", "left", "bad", "k", "places", "rows", "free", "p", "branches", "x", "deeper"]) (sc := defScope s_c_tree) (by decide +kernel)) (fun _ _ _ _ _ => (pg_name (i := 10) sc_c_tree.nd rfl (Or.inl rfl))) (fun _ _ _ _ _ => pts_nil) (fun _ _ _ _ _ => (pe_dget hu (pv 3) (pv 10) (fun _ _ => rfl)))) pa_nil)) (pv 8) (by rfl)))))
        (pss_one (ps_expr (EV.peBm (K := K) rfl PySem.F.plainAttrs_list PySem.F.slot_list_append PySem.F.type_list_append mt_append (pv 5) (pa_cons (pv 6) pa_nil))))
        pss_nil))))
    (pss_cons (ps_setLc (i := 9) (own := [("p", 10)]) rfl sc_c_tree.nd rfl rfl (sw_true rfl rfl rfl (by decide +kernel)) (pi_range1 rfl T.b_range (pa_cons (pe_callB (EV.cLen (K := K) rfl) (by rfl) T.b_len (by decide +kernel) (pa_cons (pv 1) pa_nil)) pa_nil)) (blkOk_by (own := [("p", 10)]) (N := ["s", "menus", "demands", "told", "left", "bad", "k", "places", "rows", "free", "p", "branches", "x", "deeper"]) (sc := defScope s_c_tree) (by decide +kernel)) (fun _ _ _ _ _ => (pg_name (i := 10) sc_c_tree.nd rfl (Or.inl rfl))) (fun _ _ _ _ _ => pts_one (pt_cmp (pc_dnotin hu (pv 10) (pv 3)) (by rfl))) (fun _ _ _ _ _ => (pv 10)))
    (pss_cons (EV.psIfM (PW.pt (pw_and (EV.ptTruth (K := K) rfl (pv 5)) (pw_and1 (PW.pt (pw_or (pt_cmpR op_eq (pv 4) pe_int (nomark _)) (pw_or (pt_cmpR (EV.opEqP (K := K) rfl hr.units) (pv 9) (pe_lst pa_nil) (nomark _)) (pw_or1 (pt_cmpR op_gt (pe_call (ok_pick T) hr1 rfl T.m_pick T.F_pick.kp (bd_pick T) .nil pass0 (pa_cons (pv 0) (pa_cons pe_int pa_nil))) pe_int (nomark _)))))))))
      (pss_one (ps_ret (pe_tup (pa_cons pe_str (pa_cons (pe_call (ok_one T) hr2 rfl T.m_one T.F_one.kp (bd_one T) .nil pass0 (pa_cons (pv 0) (pa_cons (pv 5) pa_nil))) pa_nil)))))
      pss_nil)
    (pss_cons (ps_par (i := 10) (j := 11) rfl sc_c_tree.nd rfl rfl (by decide) rfl rfl (pa_cons (pe_call (ok_one T) hr2 rfl T.m_one T.F_one.kp (bd_one T) .nil pass0 (pa_cons (pv 0) (pa_cons (pv 9) pa_nil))) (pa_cons (pe_lst pa_nil) pa_nil)) (by rfl))
    (pss_cons (ps_for PassesOwn.never rfl (EV.piL (K := K) rfl (pe_ix (EV.ixL (K := K) rfl) (pv 1) (pv 10) (fun _ _ => rfl))) (pg_name (i := 12) sc_c_tree.nd rfl (Or.inl rfl))
      (pss_cons (ps_set (i := 13) sc_c_tree.nd rfl (Or.inl rfl) (pe_callTy EV.cDictD (by rfl) T.b_dict (by decide +kernel) (pa_cons (pv 3) pa_nil)))
      (pss_cons (ps_dput hu (pv 13) (pv 10) (pv 12) rfl)
      (pss_one (ps_expr (EV.peBm (K := K) rfl PySem.F.plainAttrs_list PySem.F.slot_list_append PySem.F.type_list_append mt_append (pv 11) (pa_cons (pe_tup (pa_cons (pv 12) (pa_cons (pe_call ih hrR rfl T.m_c_tree T.F_c_tree.kp (bd_c_tree T) .nil pass0 (pa_cons (pv 0) (pa_cons (pv 1) (pa_cons (pv 2) (pa_cons (pv 13) (pa_cons (pe_op op_sub (pv 4) pe_int) pa_nil)))))) pa_nil))) pa_nil)))))))
    (pss_one (ps_ret (pe_tup (pa_cons pe_str (pa_cons (pv 10) (pa_cons (pv 11) pa_nil)))))))))))), ?_⟩
      walk_at "r"
      refine ⟨szb rfl, fun bl hbl => ?_⟩
      have nbs : bl ≠ s := hR.ne hbl
      have hdl0 := rg.same _ _ hdl
      walk_at "r"
      rw [hdvl]
      refine for_range (n := ds.length) (fun i σ H' => ∃ (v6 v7 v8 v9 v10 v11 v12 v13 : Option V) (bs : List Nat), σ = [some (.ref s), some (.ref ml), some (.ref dl), some (.ref tp), some (.int (left : Int)), some (.ref bl), v6, v7, v8, v9, v10, v11, v12, v13] ∧
          GrS s D H D H' ∧ H' bl = some (.lst (nv bs)) ∧ (∀ b ∈ bs, b < ds.length ∧ lfB ds told (b : Int) = false) ∧ bs.length ≤ i ∧ (bs = [] → ∀ k < i, lfB ds told ((k : Nat) : Int) = true))
        ⟨_, _, _, _, _, _, _, _, [], rfl, (GrS.refl rg hR).tmp hbl, upd_same, (fun _ h => by cases h), Nat.le_refl _, fun _ _ h => absurd h (Nat.not_lt_zero _)⟩ ?_ ?_
      · rintro i σ H1 hi ⟨v6, v7, v8, v9, v10, v11, v12, v13, bs, rfl, g1, eb1, hbs, hbl1, hbe⟩
        obtain ⟨d, hdk⟩ : ∃ d, ds[i]? = some d := ⟨_, List.getElem?_eq_getElem hi⟩
        obtain ⟨dx, hdx, dq, da, db, rfl, hdq, hps, hrv⟩ := P2.at pd hdk
        obtain ⟨pl, rfl, hpl⟩ := rNats.at hps
        have hdz := hd3 d (List.mem_of_getElem? hdk)
        have s1 := g1.same
        have hdl1 := s1 _ _ hdl
        have hdq1 := s1 _ _ hdq
        have hpl1 := s1 _ _ hpl
        have e1 : lfB ds told (i : Int) = (!(allT told d.1) || decide (rowT told d.1 ∈ d.2)) := by
          unfold lfB
          rw [if_pos (by omega), Int.toNat_natCast, hdk]
        walk_at "r"
        rw [Int.zero_add]
        refine i_ixL hdl1 (atI_nat hdx) ?_
        walk_at "r"
        refine i_ifM (fun b H' => b = (!lfB ds told (i : Int)) ∧ Same H1 H') ?_ ?_
        · walk_at "r"
          intro De hDe
          refine lc_mapL (S := rB) (ys' := d.1.map fun p : Nat => (told.lookup (p : Int)).isSome) mB (Same.refl _) hpl1 (by simp) (by rw [List.length_map]; omega) hDe ?_ ?_
          · intro j v y G H6 hv hy g k2 hk2
            rw [List.getElem?_map] at hv hy
            obtain ⟨pp, hpp, rfl⟩ := Option.map_eq_some_iff.mp hv
            rw [hpp] at hy
            cases hy
            walk_at "r"
            refine ⟨tp, _, rfl, (mTl.up (s1.trans g.hh) hT).get, ?_⟩
            refine hk2 _ G H6 (Grow.refl g.gh) ?_
            rw [Option.isSome_map]
            rfl
          · intro H6 G acc g gd ed pa
            rw [bls_eq pa] at ed
            walk_at "r"
            refine i_all ed ?_
            have ea : ((d.1.map fun p : Nat => (told.lookup (p : Int)).isSome).all id) = allT told d.1 := by
              unfold allT
              rw [List.all_map]
              rfl
            rw [ea]
            walk_at "r"
            cases ha : allT told d.1 with
            | false =>
              refine ite_f rfl ?_
              exact ⟨by rw [e1, ha]; rfl, g.hh⟩
            | true =>
              refine ite_t rfl ?_
              have hsm := fun (p : Nat) (hp : p ∈ d.1) => (List.all_eq_true.mp ha p hp)
              have hpl6 := g.hh _ _ hpl1
              walk_at "r"
              intro De2 hDe2
              refine lc_mapL (S := rS) (ys' := rowT told d.1) mS (Same.refl _) hpl6 (by simp [rowT]) (by simp [rowT]; omega) hDe2 ?_ ?_
              · intro j v y G H7 hv hy g7 k2 hk2
                rw [List.getElem?_map] at hv
                obtain ⟨pp, hpp, rfl⟩ := Option.map_eq_some_iff.mp hv
                unfold rowT at hy
                rw [List.getElem?_map, hpp] at hy
                cases hy
                have hT7 := mTl.up (s1.trans (g.hh.trans g7.hh)) hT
                walk_at "r"
                refine ⟨tp, .str ((told.lookup (pp : Int)).getD Str.empty), rfl, ?_, ?_⟩
                · have := hT7.get (k := (pp : Int))
                  obtain ⟨x6, hx6⟩ := Option.isSome_iff_exists.mp (hsm pp (List.mem_of_getElem? hpp))
                  rw [hx6] at this ⊢
                  exact this
                · exact hk2 _ G H7 (Grow.refl g7.gh) rfl
              · intro H7 G7 acc7 g7 gd7 ed7 pa7
                rw [strs_eq pa7] at ed7
                walk_at "r"
                intro tq htq
                walk_at "r"
                have s17 : Same H1 (upd H7 tq (.tup ((rowT told d.1).map V.str))) := fun b o e => upd_old (g7.hh _ _ (g.hh _ _ e)) htq
                refine w_ni eRow (rRow.of upd_same) (mRows.up (s1.trans s17) hrv) ?_
                walk_at "r"
                refine ⟨?_, s17⟩
                rw [e1, ha]
                simp
        · rintro b H2 ⟨rfl, s12⟩
          have eb2 := s12 _ _ eb1
          have hR2 : Rng H2 s := by
            obtain ⟨a1, a2, a3, e⟩ := g1.rn
            exact ⟨a1, a2, a3, s12 _ _ e⟩
          have g2 := g1.sb (fun b o _ h => s12 b o h) hR2
          cases hlf : lfB ds told (i : Int) with
          | false =>
            refine ite_t (by rfl) ?_
            walk_at "r"
            refine i_app eb2 (sz4' (by rw [List.length_map]; omega)) ?_
            walk_at "r"
            refine ⟨_, _, _, _, _, _, _, _, bs ++ [i], rfl, g2.mut hbl (rg.free hbl) nbs.symm, by rw [upd_same]; show _ = some (HO.lst (List.map _ (bs ++ [i]))); rw [List.map_append]; rfl, ?_, by rw [List.length_append]; show _ + 1 ≤ _; omega, fun h => by simp at h⟩
            intro b hb
            rcases List.mem_append.mp hb with hb | hb
            · exact hbs b hb
            · rw [List.mem_singleton] at hb
              subst hb
              exact ⟨hi, hlf⟩
          | true =>
            refine ite_f (by rfl) ?_
            walk_at "r"
            refine ⟨_, _, _, _, _, _, _, _, bs, rfl, g2, eb2, hbs, by omega, fun h k' hk' => ?_⟩
            by_cases e : k' = i
            · subst e; exact hlf
            · exact hbe h k' (by omega)
      · rintro σ H1 ⟨v6, v7, v8, v9, v10, v11, v12, v13, bs, rfl, g1, eb1, hbs, hbl1, hbe⟩
        have hml1 := g1.same _ _ hml
        walk_at "r"
        rw [hmvl]
        walk_at "r"
        intro fl hfl
        refine lc_range (n := ms.length) (fun i H' => Same H1 H' ∧ H' fl = some (.lst (nv ((List.range i).filter fun p : Nat => (told.lookup (p : Int)).isNone))))
          ⟨Same.new (Same.refl _) hfl, upd_same⟩ ?_ ?_
        · rintro i H2 hi ⟨s12, ef2⟩
          walk_at "r"
          rw [Int.zero_add]
          refine ⟨tp, _, rfl, (mTl.up (g1.same.trans s12) hT).get, ?_⟩
          walk_at "r"
          have hfll : ((List.range i).filter fun p : Nat => (told.lookup (p : Int)).isNone).length ≤ i := by
            have := List.length_filter_le (fun p : Nat => (told.lookup (p : Int)).isNone) (List.range i)
            rw [List.length_range] at this
            exact this
          cases e : told.lookup (i : Int) with
          | none =>
            refine ite_t (by rfl) ?_
            walk_at "r"
            refine ⟨_, ef2, sz4' (by rw [List.length_map]; omega), Same.mut s12 hfl, ?_⟩
            rw [upd_same, List.range_succ, List.filter_append, List.filter_cons, List.filter_nil, e]
            show _ = some (HO.lst (List.map _ (_ ++ [i])))
            rw [List.map_append]
            rfl
          | some x =>
            refine ite_f (by rfl) ?_
            refine ⟨s12, ?_⟩
            rw [ef2, List.range_succ, List.filter_append, List.filter_cons, List.filter_nil, e]
            simp
        · rintro H2 ⟨s12, ef2⟩
          have hfrm : ∀ p ∈ ((List.range ms.length).filter fun p : Nat => (told.lookup (p : Int)).isNone), p < ms.length ∧ told.lookup (p : Int) = none := by
            intro p hp
            obtain ⟨h1, h2⟩ := List.mem_filter.mp hp
            exact ⟨List.mem_range.mp h1, by simpa using h2⟩
          have hfre : ((List.range ms.length).filter fun p : Nat => (told.lookup (p : Int)).isNone) = [] → ∀ p : Nat, p < ms.length → told.lookup (p : Int) ≠ none := by
            intro h p hp hn
            have : p ∈ ((List.range ms.length).filter fun p : Nat => (told.lookup (p : Int)).isNone) := List.mem_filter.mpr ⟨List.mem_range.mpr hp, by rw [hn]; rfl⟩
            rw [h] at this
            cases this
          have hfrl : ((List.range ms.length).filter fun p : Nat => (told.lookup (p : Int)).isNone).length ≤ 7 := by
            have := List.length_filter_le (fun p : Nat => (told.lookup (p : Int)).isNone) (List.range ms.length)
            rw [List.length_range] at this
            omega
          generalize ((List.range ms.length).filter fun p : Nat => (told.lookup (p : Int)).isNone) = fs at ef2 hfrm hfre hfrl
          have hR2 : Rng H2 s := by
            obtain ⟨a1, a2, a3, e⟩ := g1.rn
            exact ⟨a1, a2, a3, s12 _ _ e⟩
          have g2 := g1.sb (fun b o _ h => s12 b o h) hR2
          have eb2 := s12 _ _ eb1
          have nfs : fl ≠ s := g1.rn.ne hfl
          walk_at "r"
          refine i_ifM (fun b H' => (b = true → bs ≠ []) ∧ (b = false → bs = [] ∨ (left ≠ 0 ∧ fs ≠ [])) ∧ Sb s H2 H' ∧ Rng H' s) ?_ ?_
          · walk_at "r"
            refine ⟨!(nv bs).isEmpty, .inl ⟨_, SqL.of eb2, rfl⟩, ?_⟩
            refine ite_b (fun h => ?_) (fun h => ?_)
            · have hne : bs ≠ [] := by
                rintro rfl
                cases h
              walk_at "r"
              refine ite_b (fun h2 => ?_) (fun h2 => ?_)
              · exact ⟨fun _ => hne, fun h => (nomatch h), Sb.refl _ _, hR2⟩
              · have h2 : left ≠ 0 := fun e => by
                  subst e
                  cases h2
                walk_at "r"
                refine ⟨szb rfl, fun p3 hp3 => ?_⟩
                refine w_eq eNats (rNats.of (r := fs) (upd_old ef2 hp3)) (rNats.of (r := []) upd_same) ?_
                walk_at "r"
                refine ite_b (fun h3 => ?_) (fun h3 => ?_)
                · exact ⟨fun _ => hne, fun h => (nomatch h), (Sb.refl _ _).new hp3, hR2.new hp3⟩
                · have h3 : fs ≠ [] := by simpa using h3
                  walk_at "r"
                  refine ⟨_, _, rfl, hR2.new hp3, by decide, fun H4 r4 sb4 hR4 _ _ => ?_⟩
                  walk_at "r"
                  exact ⟨fun _ => hne, fun _ => .inr ⟨h2, h3⟩, ((Sb.refl _ _).new hp3).trans sb4, hR4⟩
            · have he : bs = [] := by
                cases bs with
                | nil => rfl
                | cons _ _ => cases h
              exact ⟨fun h => (nomatch h), fun _ => .inl he, Sb.refl _ _, hR2⟩
          · rintro b H3 ⟨hb1, hb2, sb3, hR3⟩
            have g3 := g2.sb sb3 hR3
            have eb3 := sb3 _ _ nbs eb2
            have ef3 := sb3 _ _ nfs ef2
            refine ite_b (fun h => ?_) (fun h => ?_)
            · have hne := hb1 h
              walk_at "r"
              refine ⟨_, _, _, rfl, hR3, eb3, nbs, by rw [List.length_map]; exact List.length_pos_iff.mpr hne, by rw [List.length_map]; omega, fun H4 v4 sb4 hR4 hv4 => ?_⟩
              obtain ⟨kk, hkk, rfl⟩ := List.mem_map.mp hv4
              walk_at "r"
              refine ⟨szb rfl, fun t5 ht5 => ?_⟩
              have g5 := (g3.sb sb4 hR4).new (o := .tup [.str "leaf", .int (kk : Int)]) ht5
              exact k _ _ _ (.leaf (kk : Int)) g5 (.leaf upd_same) (.leaf (hbs kk hkk).2) (by rw [nn_leaf]; cases left with | zero => exact Nat.le_refl _ | succ l => rw [nb]; omega)
            · have hfne : fs ≠ [] := by
                rcases hb2 h with h2 | h2
                · intro hf
                  obtain ⟨kk, hkk, hlf⟩ := hok.bad hwf hsol (hfre hf)
                  rw [hbe h2 kk hkk] at hlf
                  cases hlf
                · exact h2.2
              walk_at "r"
              refine ⟨_, _, _, rfl, hR3, ef3, nfs, by rw [List.length_map]; exact List.length_pos_iff.mpr hfne, by rw [List.length_map]; omega, fun H4 v4 sb4 hR4 hv4 => ?_⟩
              obtain ⟨p, hp, rfl⟩ := List.mem_map.mp hv4
              obtain ⟨hpl, hpn⟩ := hfrm p hp
              have hlt := hok.lt hpl hpn
              obtain ⟨l0, rfl⟩ : ∃ l, left = l + 1 := ⟨left - 1, by omega⟩
              have g4 := g3.sb sb4 hR4
              walk_at "r"
              refine ⟨szb rfl, fun rl hrl => ?_⟩
              walk_at "r"
              have nrs : rl ≠ s := hR4.ne hrl
              have Hrl : H rl = none := by
                cases e : H rl with
                | none => rfl
                | some u =>
                  rw [g4.hh rl u nrs e] at hrl
                  cases hrl
              have hml5 := upd_old (o := .lst []) (g4.same _ _ hml) hrl
              have hmp : ms[p]? = some (ms.getD p []) := by rw [List.getD_eq_getElem?_getD, List.getElem?_eq_getElem hpl]; rfl
              have hmx3 := hm3 _ (List.mem_of_getElem? hmp)
              obtain ⟨mx, hmx, hmr⟩ := P2.at pm hmp
              obtain ⟨lm, rfl, hlm⟩ := hmr.at
              have hlm5 := upd_old (o := .lst []) (g4.same _ _ hlm) hrl
              refine i_ixL hml5 (atI_nat hmx) ?_
              walk_at "r"
              refine for_list (xs := (ms.getD p []).map V.str) (fun i σ H' => ∃ (v12 v13 : Option V) (D' : Hp) (bvs : List V) (brs : List (Str × Tz)), σ = [some (.ref s), some (.ref ml), some (.ref dl), some (.ref tp), some (.int ((l0 + 1 : Nat) : Int)), some (.ref bl), v6, v7, v8, some (.ref fl), some (.int (p : Int)), some (.ref rl), v12, v13] ∧
                  GrS s D H D' H' ∧ D' rl = none ∧ H' rl = some (.lst bvs) ∧ Paired (rBz D') bvs brs ∧ brs.map (·.1) = (ms.getD p []).take i ∧ (∀ x ∈ brs, Good ds ms (told ++ [((p : Int), x.1)]) x.2) ∧ nnB brs ≤ i * nb l0)
                ⟨_, _, D, [], [], rfl, g4.tmp hrl, g4.rg.free hrl, upd_same, .nil, by rw [List.take_zero]; rfl, (fun _ h => by cases h), by rw [nnB_nil]; exact Nat.zero_le _⟩ (fun i σ H' _ ⟨_, _, _, _, _, _, g, _⟩ => SqL.of (g.same _ _ hlm)) ?_ ?_
              · rintro j u σ H6 hu ⟨v12, v13, D6, bvs, brs, rfl, g6, D6r, er6, pb6, hb6, hg6, hn6⟩
                rw [List.getElem?_map] at hu
                obtain ⟨xs, hxs, rfl⟩ := Option.map_eq_some_iff.mp hu
                have hj := (List.getElem?_eq_some_iff.mp hxs).1
                have htp6 := g6.same _ _ htp
                have hbvl := P2.len pb6
                have hbl6 : brs.length ≤ 3 := by
                  have := congrArg List.length hb6
                  rw [List.length_map, List.length_take] at this
                  omega
                walk_at "r"
                refine i_dictD htp6 fun p9 hp9 => ?_
                walk_at "r"
                refine i_sdput ?_
                walk_at "r"
                refine ⟨p9, _, rfl, DPut.k (k := .inl (p : Int)) upd_same (sz4' (by omega)), ?_⟩
                have n9s : p9 ≠ s := g6.rn.ne hp9
                have n9r : rl ≠ p9 := ne_of_none er6 hp9
                have H9n : H p9 = none := by
                  cases e : H p9 with
                  | none => rfl
                  | some u =>
                    rw [g6.hh p9 u n9s e] at hp9
                    cases hp9
                have D6p : D6 p9 = none := g6.rg.free hp9
                have g10 := ((g6.tmp (o := .dK kvs) hp9).mut (o := .dK (putK kvs (.inl (p : Int)) (.str xs))) H9n D6p n9s.symm).add H9n D6p upd_same n9s.symm
                have T9 : rTl (upd D6 p9 (.dK (putK kvs (.inl (p : Int)) (.str xs)))) (.ref p9) (told ++ [((p : Int), xs)]) := rTl.put upd_same hkl hkv hpn
                have er10 : upd (upd H6 p9 (.dK kvs)) p9 (.dK (putK kvs (.inl (p : Int)) (.str xs))) rl = some (.lst bvs) := upd_oth n9r (upd_oth n9r er6)
                have D10r : upd D6 p9 (.dK (putK kvs (.inl (p : Int)) (.str xs))) rl = none := by rw [upd_ne n9r]; exact D6r
                have s610 : Same D6 (upd D6 p9 (.dK (putK kvs (.inl (p : Int)) (.str xs)))) := same_add D6p
                generalize upd D6 p9 (.dK (putK kvs (.inl (p : Int)) (.str xs))) = D10 at g10 T9 D10r s610
                generalize upd (upd H6 p9 (.dK kvs)) p9 (.dK (putK kvs (.inl (p : Int)) (.str xs))) = H10 at g10 er10 ⊢
                walk_at "r"
                rw [show ((l0 + 1 : Nat) : Int) - 1 = (l0 : Int) by omega]
                refine ⟨D10, s, _, _, _, ms, ds, told ++ [((p : Int), xs)], l0, rfl, g10.rg, g10.rn, mMenus.up g10.gg hm, mDems.up g10.gg hd, T9, hok.more hpl hpn (List.mem_of_getElem? hxs), by rw [List.length_append]; show told.length + 1 + l0 = _; omega, by omega, hm7, hm3, hd200, hd3, hwf, hsol, fun H11 D11 v11 t11 g11 ht11 hgood hnn => ?_⟩
                have er11 := g11.hh _ _ nrs er10
                have D11r := g11.out er10 D10r
                walk_at "r"
                refine ⟨szb rfl, fun t12 ht12 => ?_⟩
                have n12 : t12 ≠ rl := (ne_of_none er11 ht12).symm
                walk_at "r"
                refine i_app (upd_old er11 ht12) (sz4' (by omega)) ?_
                walk_at "r"
                have gg := (g10.trans g11).new (o := .tup [.str xs, v11]) ht12
                have D12r : upd D11 t12 (.tup [.str xs, v11]) rl = none := by rw [upd_ne n12.symm]; exact D11r
                have s12 : Same D11 (upd D11 t12 (.tup [.str xs, v11])) := same_add (g11.rg.free ht12)
                refine ⟨_, _, _, bvs ++ [.ref t12], brs ++ [(xs, t11)], rfl, gg.mut Hrl D12r nrs.symm, D12r, upd_same, P2.snoc (P2.mono pb6 fun _ _ h => mBz.up (s610.trans (g11.gg.trans s12)) h) ⟨t12, v11, rfl, upd_same, mTz.up s12 ht11⟩, ?_, ?_, ?_⟩
                · rw [List.map_append, hb6, List.take_add_one, hxs]
                  rfl
                · intro x hx
                  rcases List.mem_append.mp hx with hx | hx
                  · exact hg6 x hx
                  · rw [List.mem_singleton] at hx
                    subst hx
                    exact hgood
                · rw [nnB_app, nnB_cons, nnB_nil, Nat.succ_mul]
                  show nnB brs + (t11.nn + 0) ≤ _
                  omega
              · rintro σ H6 ⟨v12, v13, D6, bvs, brs, rfl, g6, D6r, er6, pb6, hb6, hg6, hn6⟩
                rw [List.length_map] at hb6 hn6
                rw [List.take_length] at hb6
                walk_at "r"
                refine ⟨szb rfl, fun t7 ht7 => ?_⟩
                have g7 := (g6.add Hrl D6r er6 nrs.symm).new (o := .tup [.str "knot", .int (p : Int), .ref rl]) ht7
                have n7 : rl ≠ t7 := ne_of_none er6 ht7
                have s67 : Same D6 (upd (upd D6 rl (.lst bvs)) t7 (.tup [.str "knot", .int (p : Int), .ref rl])) := fun b o e => upd_old (same_add D6r _ _ e) ((g6.add Hrl D6r er6 nrs.symm).rg.free ht7)
                refine k _ _ _ (.knot (p : Int) brs) g7 (rTz.mk upd_same (upd_oth n7 upd_same) (P2.mono pb6 fun _ _ h => mBz.up s67 h)) (.knot ?_ ?_ hg6) ?_
                · unfold knB
                  rw [hpn]
                  simp
                  omega
                · rw [Int.toNat_natCast]
                  exact hb6
                · rw [nn_knot, nb]
                  have := Nat.mul_le_mul_right (nb l0) hmx3
                  omega
theorem ok_c_tree (T : Txt K mg) : FnOk P w K mg base CX0 8 T.a_c_tree T.fd_c_tree ["s", "menus", "demands", "told", "left"] (spTreeN 6) := ok_treeN T 6
end
end K9
end
section
set_option Elab.async false
set_option maxRecDepth 100000
set_option pp.maxSteps 3000
set_option maxHeartbeats 8000000
namespace K9
open PySem PySem.Spec L2 EV
abbrev rWay : Rep (List Nat) := rT rN
theorem mWay : Mono rWay := mT mN
theorem rWay.at {H : Hp} {v : V} {r : List Nat} (h : rWay H v r) : ∃ p, v = .ref p ∧ H p = some (.tup (nv r)) := by
  obtain ⟨p, vs, e, hp, q⟩ := h
  rw [nats_eq q] at hp
  exact ⟨p, e, hp⟩
theorem rWay.of {H : Hp} {p : Addr} {r : List Nat} (h : H p = some (.tup (nv r))) : rWay H (.ref p) r := ⟨p, _, rfl, h, nats_of r⟩
/-- a way and the part there -/
def rWy : Rep (List Nat × Tz) := fun G v x => ∃ a w r, v = .ref a ∧ G a = some (.tup [w, r]) ∧ rWay G w x.1 ∧ rTz G r x.2
theorem mWy : Mono rWy := fun _ _ _ _ e ⟨a, w, r, h1, h2, h3, h4⟩ => ⟨a, w, r, h1, e _ _ h2, mWay.up e h3, mTz.up e h4⟩
def wayL (t : Tz) : List (List Nat × Tz) := ways 100000 [([], t)] 0
def pend (F : List (List Nat × Tz)) : Nat := (F.map fun p => p.2.nn).sum
theorem pend_app (a b : List (List Nat × Tz)) : pend (a ++ b) = pend a + pend b := by unfold pend; rw [List.map_append, List.sum_append]
theorem pend_len (S : List (List Nat × Tz)) : S.length ≤ pend S := by
  induction S with
  | nil => exact Nat.le_refl _
  | cons p r ih =>
    have e : pend (p :: r) = p.2.nn + pend r := by unfold pend; rw [List.map_cons, List.sum_cons]
    have := nn_pos p.2
    rw [e, List.length_cons]
    omega
theorem pend_zip (w : List Nat) : ∀ (brs : List (Str × Tz)) (n : Nat), pend ((brs.zipIdx n).map fun x => (w ++ [x.2], x.1.2)) = nnB brs
  | [], _ => by rw [nnB_nil]; rfl
  | a :: r, n => by
    rw [List.zipIdx_cons, List.map_cons, nnB_cons, ← pend_zip w r (n + 1)]
    unfold pend
    rw [List.map_cons, List.sum_cons]
theorem pend_kids (w : List Nat) (t : Tz) : pend (kidsW w t) + 1 = t.nn := by
  cases t with
  | leaf k => rw [nn_leaf]; rfl
  | knot d brs =>
    rw [nn_knot]
    show pend (brs.zipIdx.map fun x => (w ++ [x.2], x.1.2)) + 1 = _
    rw [pend_zip]
    omega
theorem pend_drop {F : List (List Nat × Tz)} {i : Nat} {p : List Nat × Tz} (h : F[i]? = some p) : pend (F.drop i) = p.2.nn + pend (F.drop (i + 1)) := by
  rw [drop_at h]
  unfold pend
  rw [List.map_cons, List.sum_cons]
def headZ : Tz → PyData
  | .leaf k => .tuple [.str wLeaf, .int k]
  | .knot d _ => .tuple [.str wKnot, .int d]
def dFlat (t : Tz) : PyData := .list ((wayL t).map fun x => .tuple [.tuple (x.1.map fun n : Nat => PyData.int (n : Int)), headZ x.2])
local macro_rules | `(tactic| walk_at "hp") => `(tactic| first | assumption | exact upd_same | (refine upd_old ?_ (by assumption); walk_at "hp") | (refine upd_oth (by first | assumption | (apply Ne.symm; assumption)) ?_; walk_at "hp"))
local macro_rules | `(tactic| walk_at "kb") => `(tactic| first | exact kb_NoneType_bool | exact kb_NoneType_int | exact kb_NoneType_str | exact kb_NoneType_dict | exact kb_NoneType_list | exact kb_NoneType_tuple | exact kb_bool_bool | exact kb_bool_int | exact kb_bool_str | exact kb_bool_dict | exact kb_bool_list | exact kb_bool_tuple | exact kb_int_bool | exact kb_int_int | exact kb_int_str | exact kb_int_dict | exact kb_int_list | exact kb_int_tuple | exact kb_str_bool | exact kb_str_int | exact kb_str_str | exact kb_str_dict | exact kb_str_list | exact kb_str_tuple | exact kb_list_bool | exact kb_list_int | exact kb_list_str | exact kb_list_dict | exact kb_list_list | exact kb_list_tuple | exact kb_tuple_bool | exact kb_tuple_int | exact kb_tuple_str | exact kb_tuple_dict | exact kb_tuple_list | exact kb_tuple_tuple)
local macro_rules | `(tactic| walk_at "ty") => `(tactic| first | exact tx_int | exact tx_str | exact tx_non | exact tx_bl | exact tx_lst (by walk_at "hp") | exact tx_tup (by walk_at "hp"))
local macro_rules | `(tactic| walk_at "r1") => `(tactic| first
  | ((with_reducible refine' i_var ?e1 ?_); (case e1 => rfl)) | with_reducible refine i_seq ?_ | with_reducible refine i_c ?_ | with_reducible refine i_op ?_ | with_reducible refine i_I0 ?_
  | with_reducible refine i_asg ?_ | with_reducible refine i_gname ?_ | with_reducible refine i_nil ?_ | with_reducible refine i_cons ?_ | with_reducible refine i_cb ?_ | with_reducible refine i_call ?_
  | with_reducible refine i_test ?_ | with_reducible refine i_tB ?_ | with_reducible refine i_bl ?_ | with_reducible refine i_int ?_ | with_reducible refine i_if ?_ | with_reducible refine i_ifx ?_
  | with_reducible refine i_ret ?_ | with_reducible refine i_retN ?_ | with_reducible refine i_drop ?_ | with_reducible refine i_next ?_ | with_reducible refine i_break ?_ | with_reducible refine i_cont ?_
  | with_reducible refine i_par ?_ | with_reducible refine i_par1 ?_ | with_reducible refine i_and ?_ | with_reducible refine i_or ?_ | with_reducible refine i_not ?_ | with_reducible refine i_truth ?_
  | with_reducible refine i_andV ?_ | with_reducible refine i_orV ?_ | with_reducible refine i_tup ?_ | with_reducible refine i_lst ?_ | with_reducible refine i_un ?_ | with_reducible refine i_U ?_
  | with_reducible refine i_bm ?_ | with_reducible refine i_bm0 ?_ | with_reducible refine i_sl ?_ | with_reducible refine i_nopart ?_ | with_reducible refine i_part ?_ | with_reducible refine i_fld ?_
  | with_reducible refine i_gsub ?_ | with_reducible refine i_gcons ?_ | with_reducible refine i_gnil ?_
  | ((with_reducible refine' i_eq ?e1 ?_); (case e1 => rfl)) | ((with_reducible refine' i_ne ?e1 ?_); (case e1 => rfl))
  | ((with_reducible refine' i_I ?e1 ?_); (case e1 => first | decide | exact .inr ⟨by decide, by decide⟩ | exact ⟨by decide, by decide⟩ | assumption))
  | ((with_reducible refine' i_ixL ?e1 ?e2 ?_); (case e1 => walk_at "hp"); (case e2 => first | rfl | assumption))
  | ((with_reducible refine' i_ixT ?e1 ?e2 ?_); (case e1 => walk_at "hp"); (case e2 => first | rfl | assumption))
  | ((with_reducible refine' i_len ?e1 ?_); (case e1 => walk_at "hp")) | ((with_reducible refine' i_lenT ?e1 ?_); (case e1 => walk_at "hp"))
  | ((with_reducible refine' i_gtup ?e1 ?e2 ?_); (case e1 => walk_at "hp"); (case e2 => rfl))
  | ((with_reducible refine' i_set ?e1 ?e2 ?_); (case e1 => walk_at "hp"); (case e2 => rfl))
  | with_reducible refine i_int1 ?_ | with_reducible refine i_abs1 ?_ | with_reducible refine i_max2 ?_ | with_reducible refine i_min2 ?_ | with_reducible refine i_non ?_ | with_reducible refine i_nnon ?_
  | with_reducible refine i_for ?_ | with_reducible refine i_irng1 ?_ | with_reducible refine i_ilist ?_ | with_reducible refine i_itup ?_ | with_reducible refine i_ienum ?_ | with_reducible refine i_irev ?_ | with_reducible refine i_izip ?_ | with_reducible refine i_lc ?_ | with_reducible refine i_yes ?_ | with_reducible refine i_notV ?_ | ((with_reducible refine' i_isi ?e1 ?e2 ?_); (case e1 => walk_at "ty"); (case e2 => walk_at "kb")) | with_reducible refine i_meth ?_ | with_reducible refine i_make ?_ | with_reducible refine i_din ?_ | with_reducible refine i_dni ?_ | with_reducible refine i_dget ?_ | with_reducible refine i_dcT ?_ | with_reducible refine i_sfld ?_ | with_reducible refine i_chain ?_ | ((with_reducible refine' i_tuple ?e1 ?_); (case e1 => walk_at "hp")) | ((with_reducible refine' i_list ?e1 ?_); (case e1 => walk_at "hp")) | with_reducible refine iteT ?_ | with_reducible refine iteF ?_ | with_reducible refine iteNF ?_ | with_reducible refine iteNT ?_
  | ((with_reducible refine' i_ilistE ?e1 ?_); (case e1 => walk_at "hp")) | ((with_reducible refine' i_itupE ?e1 ?_); (case e1 => walk_at "hp")) | ((with_reducible refine' i_ienumE ?e1 ?_); (case e1 => walk_at "hp")) | ((with_reducible refine' i_irevE ?e1 ?_); (case e1 => walk_at "hp"))
  | ((with_reducible refine' i_rng1 ?e1 ?_); (case e1 => first | omega | decide); (try with_reducible rw [Int.toNat_natCast]))
  | ((with_reducible refine' And.intro ?e1 ?_); (case e1 => first | exact i_ty (by walk_at "hp") | rfl)))
local macro_rules | `(tactic| walk_at "r") => `(tactic| repeat walk_at "r1")

section
variable {P : Program} {w : World} {K : PySem.W.Frag} {mg : Str → Option Value} {base : Heap}
def spKnots : Sp := fun vs H Q _ => ∃ (D : Hp) (tv : V) (t : Tz), vs = [tv] ∧ Same D H ∧ rTz D tv t ∧ t.nn ≤ 10000 ∧
  ∀ H' D' v, Grow D H D' H' → rL rWy D' v (wayL t) → (wayL t).length ≤ t.nn → 0 < (wayL t).length → (∀ x ∈ wayL t, At t x.1 x.2) → Q v H'
theorem ok_c_knots (T : Txt K mg) : FnOk P w K mg base CX0 1 T.a_c_knots T.fd_c_knots ["tree"] spKnots := by
  refine T.F_c_knots.ok sc_c_knots (fun vs H Q E h => ?_) (fun cdv A outer s H vs Q E hr h => ?_)
  · obtain ⟨_, _, _, rfl, _⟩ := h; rfl
  · obtain ⟨D, tv, t, rfl, sD, ht, hN, k⟩ := h
    refine ⟨_, (pss_cons (ps_par (i := 1) (j := 2) rfl sc_c_knots.nd rfl rfl (by decide) rfl rfl (pa_cons (pe_lst (pa_cons (pe_tup (pa_cons (pe_tup pa_nil) (pa_cons (pv 0) pa_nil))) pa_nil)) (pa_cons pe_int pa_nil)) (by rfl))
    (pss_cons (ps_for PassesOwn.never rfl (pi_range1 rfl T.b_range (pa_cons pe_int pa_nil)) (pg_name (i := 3) sc_c_knots.nd rfl (Or.inl rfl))
      (pss_cons (ps_if (pt_cmpR op_eq (pv 2) (pe_callB (EV.cLen (K := K) rfl) (by rfl) T.b_len (by decide +kernel) (pa_cons (pv 1) pa_nil)) (nomark _))
        (pss_one (ps_break))
        pss_nil)
      (pss_cons (ps_asg (pe_ix (EV.ixL (K := K) rfl) (pv 1) (pv 2) (fun _ _ => rfl)) (EV.pgT (K := K) (n := 2) rfl rfl (pgs_cons (pg_name (i := 4) sc_c_knots.nd rfl (Or.inl rfl)) (pgs_cons (pg_name (i := 5) sc_c_knots.nd rfl (Or.inl rfl)) pgs_nil))))
      (pss_cons (ps_set (i := 2) sc_c_knots.nd rfl (Or.inl rfl) (pe_op op_add (pv 2) pe_int))
      (pss_one (ps_if (pt_cmpR op_eq (pe_ix (EV.ixT (K := K) rfl) (pv 5) pe_int (fun _ _ => rfl)) pe_str (nomark _))
        (pss_one (ps_for PassesOwn.never rfl (pi_range1 rfl T.b_range (pa_cons (pe_callB (EV.cLen (K := K) rfl) (by rfl) T.b_len (by decide +kernel) (pa_cons (pe_ix (EV.ixT (K := K) rfl) (pv 5) pe_int (fun _ _ => rfl)) pa_nil)) pa_nil)) (pg_name (i := 6) sc_c_knots.nd rfl (Or.inl rfl))
          (pss_one (ps_expr (EV.peBm (K := K) rfl PySem.F.plainAttrs_list PySem.F.slot_list_append PySem.F.type_list_append mt_append (pv 1) (pa_cons (pe_tup (pa_cons (pe_op (EV.opCatT (K := K) rfl) (pv 4) (pe_tup (pa_cons (pv 6) pa_nil))) (pa_cons (pe_ix (EV.ixT (K := K) rfl) (pe_ix (EV.ixL (K := K) rfl) (pe_ix (EV.ixT (K := K) rfl) (pv 5) pe_int (fun _ _ => rfl)) (pv 6) (fun _ _ => rfl)) pe_int (fun _ _ => rfl)) pa_nil))) pa_nil))))))
        pss_nil))))))
    (pss_one (ps_ret (pv 1))))), ?_⟩
    walk_at "r"
    refine ⟨szb rfl, fun w0 hw0 => ?_⟩
    walk_at "r"
    refine ⟨szb rfl, fun t0 ht0 => ?_⟩
    walk_at "r"
    refine ⟨szb rfl, fun fl hfl => ?_⟩
    obtain ⟨hfl1, nft⟩ := upd_non hfl
    obtain ⟨hfl0, nfw⟩ := upd_non hfl1
    walk_at "r"
    have g0 := (((Grow.refl sD).new (o := .tup []) hw0).new (o := .tup [.ref w0, tv]) ht0).tmp (o := .lst [.ref t0]) hfl
    have pw0 : Paired (rWy (upd (upd D w0 (.tup [])) t0 (.tup [.ref w0, tv]))) [.ref t0] [([], t)] := by
      refine .cons ⟨t0, .ref w0, tv, rfl, upd_same, rWay.of (upd_oth (ne_of_none upd_same ht0) upd_same), mTz.up (fun b o e => ?_) ht⟩ .nil
      exact upd_old (upd_old e (sD.free hw0)) ((((Grow.refl sD).new (o := .tup []) hw0).gh).free ht0)
    have gd0 : upd (upd D w0 (.tup [])) t0 (.tup [.ref w0, tv]) fl = none := by rw [upd_ne nft, upd_ne nfw]; exact sD.free hfl0
    have ef0 : upd (upd (upd H w0 (.tup [])) t0 (.tup [.ref w0, tv])) fl (.lst [.ref t0]) fl = some (.lst [.ref t0]) := upd_same
    generalize upd (upd D w0 (.tup [])) t0 (.tup [.ref w0, tv]) = D0 at g0 pw0 gd0
    generalize upd (upd (upd H w0 (.tup [])) t0 (.tup [.ref w0, tv])) fl (.lst [.ref t0]) = H0 at g0 ef0 ⊢
    have fin : ∀ H' G vs F, Grow D H G H' → G fl = none → H' fl = some (.lst vs) → Paired (rWy G) vs F → (∀ x ∈ F, At t x.1 x.2) → F.length ≤ t.nn → 0 < F.length → F = wayL t → Q (.ref fl) H' := by
      rintro H' G vs F g gf ef pf ha hl hp rfl
      exact k _ _ _ (g.add hfl0 gf ef) ⟨fl, vs, rfl, upd_same, P2.mono pf fun _ _ h => mWy.up (same_add gf) h⟩ hl hp ha
    refine for_range (n := 100000) (fun i σ H' => ∃ (v3 v4 v5 v6 : Option V) (at_ : Nat) (G : Hp) (vs : List V) (F : List (List Nat × Tz)), σ = [some tv, some (.ref fl), some (.int (at_ : Int)), v3, v4, v5, v6] ∧
        Grow D H G H' ∧ G fl = none ∧ H' fl = some (.lst vs) ∧ Paired (rWy G) vs F ∧ (∀ x ∈ F, At t x.1 x.2) ∧ at_ + pend (F.drop at_) ≤ t.nn ∧ at_ ≤ F.length ∧ 0 < F.length ∧ ways (100000 - i) F at_ = wayL t)
      ⟨_, _, _, _, 0, D0, _, _, rfl, g0, gd0, ef0, pw0, fun x hx => by rw [List.mem_singleton] at hx; subst hx; exact .nil, by show 0 + (t.nn + 0) ≤ t.nn; omega, Nat.zero_le _, Nat.succ_pos _, rfl⟩ ?_ ?_
    · clear g0 pw0 gd0 ef0
      rintro i σ H1 hi ⟨v3, v4, v5, v6, at_, G, vs, F, rfl, g, gf, ef, pf, ha, hp, hal, hF, hw⟩
      have hvl := P2.len pf
      have hlen : F.length ≤ t.nn := by
        have := pend_len (F.drop at_)
        rw [List.length_drop] at this
        omega
      walk_at "r"
      refine ite_b (fun h => ?_) (fun h => ?_)
      · have h : at_ = F.length := by
          have := of_decide_eq_true h
          injection this with this
          omega
        walk_at "r"
        refine fin H1 G vs F g gf ef pf ha hlen hF ?_
        rw [← hw, show 100000 - i = (100000 - i - 1) + 1 by omega, ways, List.getElem?_eq_none (by omega)]
      · have hlt : at_ < F.length := by
          have := of_decide_eq_false h
          rcases Nat.lt_or_ge at_ F.length with e | e
          · exact e
          · exact absurd (congrArg V.int (by omega)) this
        obtain ⟨pp, hpp⟩ : ∃ p, F[at_]? = some p := ⟨_, List.getElem?_eq_getElem hlt⟩
        obtain ⟨x, hx, ta, wv, r, rfl, hta, hwy, htr⟩ := P2.at pf hpp
        obtain ⟨wy, tr⟩ := pp
        obtain ⟨wp, rfl, hwp⟩ := rWay.at hwy
        have hat : At t wy tr := ha _ (List.mem_of_getElem? hpp)
        have hta1 := g.gh _ _ hta
        have hwp1 := g.gh _ _ hwp
        rw [pend_drop hpp] at hp
        have hpk := pend_kids wy tr
        replace hp : at_ + (tr.nn + pend (F.drop (at_ + 1))) ≤ t.nn := hp
        rw [show 100000 - i = (100000 - (i + 1)) + 1 by omega, ways, hpp] at hw
        replace hw : ways (100000 - (i + 1)) (F ++ kidsW wy tr) (at_ + 1) = wayL t := hw
        have hdr : (F ++ kidsW wy tr).drop (at_ + 1) = F.drop (at_ + 1) ++ kidsW wy tr := by
          rw [List.drop_append, show at_ + 1 - F.length = 0 by omega, List.drop_zero]
        walk_at "r"
        refine i_ixL ef (atI_nat hx) ?_
        walk_at "r"
        cases tr with
        | leaf k' =>
          obtain ⟨tp, rfl, htp⟩ := htr.leaf_at
          have htp1 := g.gh _ _ htp
          walk_at "r"
          refine ite_f (by rfl) ?_
          walk_at "r"
          have ek : F ++ kidsW wy (Tz.leaf k') = F := List.append_nil _
          rw [ek] at hw
          exact ⟨_, _, _, _, at_ + 1, G, vs, F, rfl, g, gf, ef, pf, ha, by omega, by omega, hF, hw⟩
        | knot d brs =>
          obtain ⟨tp, tq, bvs, rfl, htp, htq, pb⟩ := htr.knot_at
          have htp1 := g.gh _ _ htp
          have htq1 := g.gh _ _ htq
          have hbvl := P2.len pb
          have hbl : brs.length ≤ t.nn := by
            have := nnB_len brs
            rw [nn_knot] at hp
            omega
          have hwl : wy.length ≤ t.nn := by have := hat.le; omega
          have hkl : (kidsW wy (Tz.knot d brs)).length = brs.length := by
            show (brs.zipIdx.map fun x => (wy ++ [x.2], x.1.2)).length = _
            rw [List.length_map, List.length_zipIdx]
          walk_at "r"
          refine ite_t (by rfl) ?_
          walk_at "r"
          refine for_range (n := bvs.length) (fun i2 σ H' => ∃ (v6 : Option V) (G : Hp) (vs : List V), σ = [some tv, some (.ref fl), some (.int ((at_ : Int) + 1)), some (.int (0 + (i : Int))), some (.ref wp), some (.ref tp), v6] ∧
              Grow D H G H' ∧ G fl = none ∧ H' fl = some (.lst vs) ∧ Paired (rWy G) vs (F ++ (kidsW wy (Tz.knot d brs)).take i2) ∧ rTz G (.ref tp) (.knot d brs) ∧ G wp = some (.tup (nv wy)))
            ⟨_, G, vs, rfl, g, gf, ef, by rw [List.take_zero, List.append_nil]; exact pf, htr, hwp⟩ ?_ ?_
          · clear pf ef gf g htr hwp htp1 htq1 hta1 hwp1 pb htp htq hta hwy
            rintro i2 σ H2 hi2 ⟨v6, G, vs, rfl, g, gf, ef, pf, htr, hwp⟩
            obtain ⟨tp', tq2, bvs2, e, htp, htq, pb⟩ := htr.knot_at
            cases e
            have hbvl2 := P2.len pb
            obtain ⟨xb, hxb⟩ : ∃ x, brs[i2]? = some x := ⟨_, List.getElem?_eq_getElem (by omega)⟩
            obtain ⟨bx, hbx, ba, bw, rfl, hba, hbt⟩ := P2.at pb hxb
            have htp1 := g.gh _ _ htp
            have htq1 := g.gh _ _ htq
            have hba1 := g.gh _ _ hba
            have hwp1 := g.gh _ _ hwp
            have hpvl := P2.len pf
            rw [List.length_append, List.length_take, hkl] at hpvl
            walk_at "r"
            refine ⟨szb rfl, fun k1 hk1 => ?_⟩
            rw [Int.zero_add]
            refine i_catT (upd_old hwp1 hk1) upd_same (fun h => nomatch h) (by rw [List.length_map]; show wy.length + 1 ≤ _; omega) fun q1 H3 s13 hq1 hqn => ?_
            have htp3 := s13 _ _ (upd_old (o := .tup [.int (i2 : Int)]) htp1 hk1)
            have htq3 := s13 _ _ (upd_old (o := .tup [.int (i2 : Int)]) htq1 hk1)
            have hba3 := s13 _ _ (upd_old (o := .tup [.int (i2 : Int)]) hba1 hk1)
            have ef3 := s13 _ _ (upd_old (o := .tup [.int (i2 : Int)]) ef hk1)
            have s23 : Same H2 H3 := (Same.new (Same.refl _) hk1).trans s13
            have hq2 : H2 q1 = none := by
              rcases hqn with rfl | h
              · exact hk1
              · exact (upd_non h).1
            walk_at "r"
            refine i_ixL htq3 (atI_nat hbx) ?_
            walk_at "r"
            refine ⟨szb rfl, fun t4 ht4 => ?_⟩
            walk_at "r"
            refine i_app (upd_old ef3 ht4) (sz4' (by omega)) ?_
            walk_at "r"
            have s24 : Same H2 (upd H3 t4 (.tup [.ref q1, bw])) := Same.new s23 ht4
            have hq4 := upd_old (o := .tup [.ref q1, bw]) hq1 ht4
            have ht42 : H2 t4 = none := s23.free ht4
            have eq4 : upd H3 t4 (.tup [.ref q1, bw]) t4 = some (.tup [.ref q1, bw]) := upd_same
            generalize upd H3 t4 (.tup [.ref q1, bw]) = H4 at s24 hq4 eq4 ⊢
            have ga := Grow.all g.gh s24
            have gf4 := ga.out ef gf
            refine ⟨_, adopt G H2 H4, vs ++ [.ref t4], rfl, (g.trans ga).mut hfl0 gf4, gf4, upd_same, ?_, mTz.up ga.gg htr, ga.gg _ _ hwp⟩
            have ekid : (kidsW wy (Tz.knot d brs))[i2]? = some (wy ++ [i2], xb.2) := by
              show (brs.zipIdx.map fun x => (wy ++ [x.2], x.1.2))[i2]? = _
              rw [List.getElem?_map, List.getElem?_zipIdx, hxb]
              simp
            rw [List.take_add_one, ekid, Option.toList_some, ← List.append_assoc]
            refine P2.snoc (P2.mono pf fun _ _ h => mWy.up ga.gg h) ⟨t4, .ref q1, bw, rfl, by rw [adopt_new ht42]; exact eq4, rWay.of ?_, mTz.up ga.gg hbt⟩
            rw [adopt_new hq2, hq4]
            show _ = some (HO.tup (List.map _ (wy ++ [i2])))
            rw [List.map_append]
            rfl
          · rintro σ H2 ⟨v6, G2, vs2, rfl, g2, gf2, ef2, pf2, htr2, hwp2⟩
            rw [hbvl, ← hkl, List.take_length] at pf2
            walk_at "r"
            refine ⟨_, _, _, _, at_ + 1, G2, vs2, _, rfl, g2, gf2, ef2, pf2, ?_, by rw [hdr, pend_app]; omega, by rw [List.length_append]; omega, by rw [List.length_append]; omega, hw⟩
            intro x hx
            rcases List.mem_append.mp hx with hx | hx
            · exact ha x hx
            · obtain ⟨y, hy, rfl⟩ := List.mem_map.mp hx
              have hy2 := List.mem_zipIdx hy
              exact hat.snoc (by rw [List.getElem?_eq_getElem (by omega)]; congr 1; have := hy2.2.2; simpa using this.symm)
    · rintro σ H1 ⟨v3, v4, v5, v6, at_, G, vs, F, rfl, g, gf, ef, pf, ha, hp, hal, hF, hw⟩
      have hlen : F.length ≤ t.nn := by
        have := pend_len (F.drop at_)
        rw [List.length_drop] at this
        omega
      walk_at "r"
      exact fin H1 G vs F g gf ef pf ha hlen hF (by rw [← hw]; rfl)
end
end K9
end
section
set_option Elab.async false
set_option maxRecDepth 100000
set_option pp.maxSteps 3000
set_option maxHeartbeats 8000000
namespace K9
open PySem PySem.Spec L2 EV
theorem i_sl2 {K : PySem.W.Frag} {H : Hp} {Q : VK} {a : Addr} {xs : List V} {j : Nat} (ha : H a = some (.tup xs)) (hj : j ≤ xs.length)
    (q : ∀ p H', Same H H' → H' p = some (.tup (xs.take j)) → (p = a ∨ H p = none) → Q (.ref p) H') : rSlA K (.ref a) none (some (j : Int)) H Q := by
  refine ⟨a, xs, rfl, SqT.of ha, fun h => ?_, fun h p hp => ?_⟩
  · obtain ⟨_, h2⟩ := h
    rw [HT.sIx_nat] at h2
    refine q a H (Same.refl _) ?_ ?_
    · rw [List.take_of_length_le (by omega)]
      exact ha
    · exact .inl rfl
  · refine q p _ (Same.new (Same.refl _) hp) ?_ (.inr hp)
    rw [upd_same]
    unfold cutV
    rw [HT.sIx_none, HT.sIx_nat, List.drop_zero, Nat.sub_zero, Nat.min_eq_left hj]
/-- entries from the root to a node -/
inductive Chain (t : Tz) : List (Tz × Nat) → Tz → Prop
  | nil : Chain t [] t
  | snoc {L : List (Tz × Nat)} {d : Int} {brs : List (Str × Tz)} {k : Nat} {x : Str × Tz} : Chain t L (.knot d brs) → brs[k]? = some x → Chain t (L ++ [(.knot d brs, k)]) x.2
theorem Chain.inv {t q : Tz} {L : List (Tz × Nat)} (h : Chain t L q) : (L = [] ∧ q = t) ∨ ∃ L' d brs k x, L = L' ++ [(Tz.knot d brs, k)] ∧ q = x.2 ∧ Chain t L' (.knot d brs) ∧ brs[k]? = some x := by
  cases h with
  | nil => exact .inl ⟨rfl, rfl⟩
  | snoc h1 h2 => exact .inr ⟨_, _, _, _, _, rfl, rfl, h1, h2⟩
def rEn : Rep (Tz × Nat) := fun G v x => ∃ a w, v = .ref a ∧ G a = some (.tup [w, .int (x.2 : Int)]) ∧ rTz G w x.1
theorem mEn : Mono rEn := fun _ _ _ _ e ⟨a, w, h1, h2, h3⟩ => ⟨a, w, h1, e _ _ h2, mTz.up e h3⟩
theorem P2.setz {α β : Type} {R : α → β → Prop} {xs : List α} {ys : List β} (h : Paired R xs ys) : ∀ {i : Nat} {x : α} {y : β}, R x y → Paired R (xs.set i x) (ys.set i y) := by
  induction h with
  | nil => intro i x y _; exact .nil
  | cons r p ih =>
    intro i x y h
    cases i with
    | zero => exact .cons h p
    | succ i => exact .cons r (ih h)
def dEl (x : List Nat × Tz) : PyData := .tuple [.tuple (x.1.map fun n : Nat => PyData.int (n : Int)), headZ x.2]
def rFl : Rep (List Nat × Tz) := fun G v x => rDat G 4 v (dEl x)
theorem mFl : Mono rFl := fun _ _ _ _ e h => rDat.up e h
local macro_rules | `(tactic| walk_at "hp") => `(tactic| first | assumption | exact upd_same | (refine upd_old ?_ (by assumption); walk_at "hp") | (refine upd_oth (by first | assumption | (apply Ne.symm; assumption)) ?_; walk_at "hp"))
local macro_rules | `(tactic| walk_at "kb") => `(tactic| first | exact kb_NoneType_bool | exact kb_NoneType_int | exact kb_NoneType_str | exact kb_NoneType_dict | exact kb_NoneType_list | exact kb_NoneType_tuple | exact kb_bool_bool | exact kb_bool_int | exact kb_bool_str | exact kb_bool_dict | exact kb_bool_list | exact kb_bool_tuple | exact kb_int_bool | exact kb_int_int | exact kb_int_str | exact kb_int_dict | exact kb_int_list | exact kb_int_tuple | exact kb_str_bool | exact kb_str_int | exact kb_str_str | exact kb_str_dict | exact kb_str_list | exact kb_str_tuple | exact kb_list_bool | exact kb_list_int | exact kb_list_str | exact kb_list_dict | exact kb_list_list | exact kb_list_tuple | exact kb_tuple_bool | exact kb_tuple_int | exact kb_tuple_str | exact kb_tuple_dict | exact kb_tuple_list | exact kb_tuple_tuple)
local macro_rules | `(tactic| walk_at "ty") => `(tactic| first | exact tx_int | exact tx_str | exact tx_non | exact tx_bl | exact tx_lst (by walk_at "hp") | exact tx_tup (by walk_at "hp"))
local macro_rules | `(tactic| walk_at "r1") => `(tactic| first
  | ((with_reducible refine' i_var ?e1 ?_); (case e1 => rfl)) | with_reducible refine i_seq ?_ | with_reducible refine i_c ?_ | with_reducible refine i_op ?_ | with_reducible refine i_I0 ?_
  | with_reducible refine i_asg ?_ | with_reducible refine i_gname ?_ | with_reducible refine i_nil ?_ | with_reducible refine i_cons ?_ | with_reducible refine i_cb ?_ | with_reducible refine i_call ?_
  | with_reducible refine i_test ?_ | with_reducible refine i_tB ?_ | with_reducible refine i_bl ?_ | with_reducible refine i_int ?_ | with_reducible refine i_if ?_ | with_reducible refine i_ifx ?_
  | with_reducible refine i_ret ?_ | with_reducible refine i_retN ?_ | with_reducible refine i_drop ?_ | with_reducible refine i_next ?_ | with_reducible refine i_break ?_ | with_reducible refine i_cont ?_
  | with_reducible refine i_par ?_ | with_reducible refine i_par1 ?_ | with_reducible refine i_and ?_ | with_reducible refine i_or ?_ | with_reducible refine i_not ?_ | with_reducible refine i_truth ?_
  | with_reducible refine i_andV ?_ | with_reducible refine i_orV ?_ | with_reducible refine i_tup ?_ | with_reducible refine i_lst ?_ | with_reducible refine i_un ?_ | with_reducible refine i_U ?_
  | with_reducible refine i_bm ?_ | with_reducible refine i_bm0 ?_ | with_reducible refine i_sl ?_ | with_reducible refine i_nopart ?_ | with_reducible refine i_part ?_ | with_reducible refine i_fld ?_
  | with_reducible refine i_gsub ?_ | with_reducible refine i_gcons ?_ | with_reducible refine i_gnil ?_
  | ((with_reducible refine' i_eq ?e1 ?_); (case e1 => rfl)) | ((with_reducible refine' i_ne ?e1 ?_); (case e1 => rfl))
  | ((with_reducible refine' i_I ?e1 ?_); (case e1 => first | decide | exact .inr ⟨by decide, by decide⟩ | exact ⟨by decide, by decide⟩ | assumption))
  | ((with_reducible refine' i_ixL ?e1 ?e2 ?_); (case e1 => walk_at "hp"); (case e2 => first | rfl | assumption))
  | ((with_reducible refine' i_ixT ?e1 ?e2 ?_); (case e1 => walk_at "hp"); (case e2 => first | rfl | assumption))
  | ((with_reducible refine' i_len ?e1 ?_); (case e1 => walk_at "hp")) | ((with_reducible refine' i_lenT ?e1 ?_); (case e1 => walk_at "hp"))
  | ((with_reducible refine' i_gtup ?e1 ?e2 ?_); (case e1 => walk_at "hp"); (case e2 => rfl))
  | ((with_reducible refine' i_set ?e1 ?e2 ?_); (case e1 => walk_at "hp"); (case e2 => rfl))
  | with_reducible refine i_int1 ?_ | with_reducible refine i_abs1 ?_ | with_reducible refine i_max2 ?_ | with_reducible refine i_min2 ?_ | with_reducible refine i_non ?_ | with_reducible refine i_nnon ?_
  | with_reducible refine i_for ?_ | with_reducible refine i_irng1 ?_ | with_reducible refine i_ilist ?_ | with_reducible refine i_itup ?_ | with_reducible refine i_ienum ?_ | with_reducible refine i_irev ?_ | with_reducible refine i_izip ?_ | with_reducible refine i_lc ?_ | with_reducible refine i_yes ?_ | with_reducible refine i_notV ?_ | ((with_reducible refine' i_isi ?e1 ?e2 ?_); (case e1 => walk_at "ty"); (case e2 => walk_at "kb")) | with_reducible refine i_meth ?_ | with_reducible refine i_make ?_ | with_reducible refine i_din ?_ | with_reducible refine i_dni ?_ | with_reducible refine i_dget ?_ | with_reducible refine i_dcT ?_ | with_reducible refine i_sfld ?_ | with_reducible refine i_chain ?_ | ((with_reducible refine' i_tuple ?e1 ?_); (case e1 => walk_at "hp")) | ((with_reducible refine' i_list ?e1 ?_); (case e1 => walk_at "hp")) | with_reducible refine iteT ?_ | with_reducible refine iteF ?_ | with_reducible refine iteNF ?_ | with_reducible refine iteNT ?_
  | ((with_reducible refine' i_ilistE ?e1 ?_); (case e1 => walk_at "hp")) | ((with_reducible refine' i_itupE ?e1 ?_); (case e1 => walk_at "hp")) | ((with_reducible refine' i_ienumE ?e1 ?_); (case e1 => walk_at "hp")) | ((with_reducible refine' i_irevE ?e1 ?_); (case e1 => walk_at "hp"))
  | ((with_reducible refine' i_rng1 ?e1 ?_); (case e1 => first | omega | decide); (try with_reducible rw [Int.toNat_natCast]))
  | ((with_reducible refine' And.intro ?e1 ?_); (case e1 => first | exact i_ty (by walk_at "hp") | rfl)))
local macro_rules | `(tactic| walk_at "r") => `(tactic| repeat walk_at "r1")

section
variable {P : Program} {w : World} {K : PySem.W.Frag} {mg : Str → Option Value} {base : Heap}
def spFlat : Sp := fun vs H Q _ => ∃ (tv : V) (t : Tz), vs = [tv] ∧ rTz H tv t ∧ t.nn ≤ 10000 ∧ ∀ H' v, Same H H' → rDat H' 5 v (dFlat t) → Q v H'
theorem ok_k10_flat (T : Txt K mg) : FnOk P w K mg base CX0 2 T.a_k10_flat T.fd_k10_flat ["tree"] spFlat := by
  refine T.F_k10_flat.ok sc_k10_flat (fun vs H Q E h => ?_) (fun cdv A outer s H vs Q E hr h => ?_)
  · obtain ⟨_, _, rfl, _⟩ := h; rfl
  · obtain ⟨tv, t, rfl, ht, hN, k⟩ := h
    have hr1 : Room 1 _ := hr.mono (by decide)
    refine ⟨_, (pss_one (ps_ret (pe_lc (own := [("way", 1), ("part", 2)]) rfl sc_k10_flat.nd (EV.piL (K := K) rfl (pe_call (ok_c_knots T) hr1 rfl T.m_c_knots T.F_c_knots.kp (bd_c_knots T) .nil pass0 (pa_cons (pv 0) pa_nil))) (blkOk_by (own := [("way", 1), ("part", 2)]) (N := ["tree", "way", "part"]) (sc := defScope s_k10_flat) (by decide +kernel)) (fun _ _ _ _ _ => (EV.pgT (K := K) (n := 2) rfl rfl (pgs_cons (pg_name (i := 1) sc_k10_flat.nd rfl (Or.inl rfl)) (pgs_cons (pg_name (i := 2) sc_k10_flat.nd rfl (Or.inl rfl)) pgs_nil)))) (fun _ _ _ _ _ => pts_nil) (fun _ _ _ _ _ => (pe_tup (pa_cons (pv 1) (pa_cons (pe_slice (EV.slT (K := K) rfl) (pv 2) po_none (po_some pe_int)) pa_nil))))))), ?_⟩
    walk_at "r"
    refine ⟨H, _, t, rfl, Same.refl _, ht, hN, fun H1 D1 v1 g1 hv1 hl1 _ hat1 => ?_⟩
    obtain ⟨fl, vs, rfl, hfl, pf⟩ := hv1
    have hfl1 := g1.gh _ _ hfl
    walk_at "r"
    intro De hDe
    refine lc_mapL (S := rFl) (ys' := wayL t) mFl (Same.refl _) hfl1 (P2.len pf) (by omega) hDe ?_ ?_
    · intro j v y G H2 hv hy g k2 hk2
      obtain ⟨y', hy', a, wv, r, rfl, ha, hwy, htr⟩ := P2.at' pf hv
      rw [hy] at hy'
      cases hy'
      obtain ⟨wy, tr⟩ := y
      obtain ⟨wp, rfl, hwp⟩ := rWay.at hwy
      have s12 : Same D1 H2 := g1.gh.trans g.hh
      have s1G : Same D1 G := g1.gh.trans g.gg
      have ha2 := s12 _ _ ha
      have hwp2 := s12 _ _ hwp
      have hwz : wy.length ≤ 100000 := by
        have hat : (wy, tr) ∈ wayL t := List.mem_of_getElem? hy
        have h2 := (hat1 _ hat).le
        have h3 : tr.nn + wy.length ≤ t.nn := h2
        omega
      have hd1 : ∀ G' : Hp, G' wp = some (.tup (nv wy)) → rDat G' 3 (.ref wp) (.tuple (wy.map fun n : Nat => PyData.int (n : Int))) := by
        intro G' h
        refine .tup h (by rw [List.length_map, List.length_map]) (by rw [List.length_map]; exact hwz) fun i v d hv hd => ?_
        rw [List.getElem?_map] at hv hd
        obtain ⟨n, hn, rfl⟩ := Option.map_eq_some_iff.mp hv
        rw [hn] at hd
        cases hd
        exact .int 1 _
      cases tr with
      | leaf k' =>
        obtain ⟨tp, rfl, htp⟩ := htr.leaf_at
        have htp2 := s12 _ _ htp
        walk_at "r"
        refine i_sl2 (j := 2) htp2 (by show 2 ≤ 2; exact Nat.le_refl _) fun p3 H3 s23 hp3 hp3n => ?_
        refine ⟨szb rfl, fun p4 hp4 => ?_⟩
        have sA : Same H2 (upd H3 p4 (.tup [.ref wp, .ref p3])) := Same.new s23 hp4
        have gA := Grow.all g.gh sA
        have hp42 : H2 p4 = none := s23.free hp4
        refine hk2 _ _ _ gA (.pair (by rw [adopt_new hp42]; exact upd_same) (hd1 _ (gA.gg _ _ (s1G _ _ hwp))) (rDat.pair ?_ (.str 1 _) (.int 1 _)))
        rcases hp3n with rfl | h
        · exact gA.gg _ _ (s1G _ _ htp)
        · rw [adopt_new h]
          exact upd_old hp3 hp4
      | knot d brs =>
        obtain ⟨tp, tq, bvs, rfl, htp, htq, pb⟩ := htr.knot_at
        have htp2 := s12 _ _ htp
        walk_at "r"
        refine i_sl2 (j := 2) htp2 (by show 2 ≤ 3; decide) fun p3 H3 s23 hp3 hp3n => ?_
        refine ⟨szb rfl, fun p4 hp4 => ?_⟩
        have sA : Same H2 (upd H3 p4 (.tup [.ref wp, .ref p3])) := Same.new s23 hp4
        have gA := Grow.all g.gh sA
        have hp42 : H2 p4 = none := s23.free hp4
        refine hk2 _ _ _ gA (.pair (by rw [adopt_new hp42]; exact upd_same) (hd1 _ (gA.gg _ _ (s1G _ _ hwp))) (rDat.pair (a := .str wKnot) (b := .int d) ?_ (.str 1 _) (.int 1 _)))
        rcases hp3n with rfl | h
        · have := hp3.symm.trans (s23 _ _ htp2)
          cases this
        · rw [adopt_new h]
          exact upd_old hp3 hp4
    · intro H2 G acc g gd ed pa
      exact k _ _ (g1.hh.trans g.hh) (.lst ed (by rw [List.length_map]; exact P2.len pa) (by rw [List.length_map]; omega) fun i v d hv hd => by
        rw [List.getElem?_map] at hd
        obtain ⟨x, hx, rfl⟩ := Option.map_eq_some_iff.mp hd
        obtain ⟨v', hv', hh⟩ := P2.at pa hx
        rw [hv] at hv'
        cases hv'
        exact rDat.up g.gh hh)
def spPut : Sp := fun vs H Q _ => ∃ (D : Hp) (tv wv xv : V) (t p q : Tz) (w : List Nat), vs = [tv, wv, xv] ∧ Same D H ∧ rTz D tv t ∧ rWay D wv w ∧ rTz D xv p ∧ At t w q ∧ t.nn ≤ 100000 ∧ ∀ H' D' v p', Grow D H D' H' → rTz D' v p' → p'.nn ≤ t.nn + p.nn → Q v H'
theorem ok_c_put (T : Txt K mg) : FnOk P w K mg base CX0 1 T.a_c_put T.fd_c_put ["tree", "way", "part"] spPut := by
  refine T.F_c_put.ok sc_c_put (fun vs H Q E h => ?_) (fun cdv A outer s H vs Q E hr h => ?_)
  · obtain ⟨_, _, _, _, _, _, _, _, rfl, _⟩ := h; rfl
  · obtain ⟨D, tv, wv, xv, t, p, q, w, rfl, sD, ht, hw, hp, hat, hN, k⟩ := h
    obtain ⟨wp, rfl, hwp⟩ := hw.at
    have hwp0 := sD _ _ hwp
    refine ⟨_, (pss_cons (ps_par (i := 3) (j := 4) rfl sc_c_put.nd rfl rfl (by decide) rfl rfl (pa_cons (pe_lst pa_nil) (pa_cons (pv 0) pa_nil)) (by rfl))
    (pss_cons (ps_for PassesOwn.never rfl (EV.piT (K := K) rfl (pv 1)) (pg_name (i := 5) sc_c_put.nd rfl (Or.inl rfl))
      (pss_cons (ps_expr (EV.peBm (K := K) rfl PySem.F.plainAttrs_list PySem.F.slot_list_append PySem.F.type_list_append mt_append (pv 3) (pa_cons (pe_tup (pa_cons (pv 4) (pa_cons (pv 5) pa_nil))) pa_nil)))
      (pss_one (ps_set (i := 4) sc_c_put.nd rfl (Or.inl rfl) (pe_ix (EV.ixT (K := K) rfl) (pe_ix (EV.ixL (K := K) rfl) (pe_ix (EV.ixT (K := K) rfl) (pv 4) pe_int (fun _ _ => rfl)) (pv 5) (fun _ _ => rfl)) pe_int (fun _ _ => rfl))))))
    (pss_cons (ps_for PassesOwn.never rfl (EV.piRev (K := K) rfl (by rfl) T.b_reversed (pv 3)) (EV.pgT (K := K) (n := 2) rfl rfl (pgs_cons (pg_name (i := 4) sc_c_put.nd rfl (Or.inl rfl)) (pgs_cons (pg_name (i := 5) sc_c_put.nd rfl (Or.inl rfl)) pgs_nil)))
      (pss_cons (ps_set (i := 6) sc_c_put.nd rfl (Or.inl rfl) (pe_callTy (EV.cList (K := K) rfl) (by rfl) T.b_list (by decide +kernel) (pa_cons (pe_ix (EV.ixT (K := K) rfl) (pv 4) pe_int (fun _ _ => rfl)) pa_nil)))
      (pss_cons (ps_asg (pe_tup (pa_cons (pe_ix (EV.ixT (K := K) rfl) (pe_ix (EV.ixL (K := K) rfl) (pv 6) (pv 5) (fun _ _ => rfl)) pe_int (fun _ _ => rfl)) (pa_cons (pv 2) pa_nil))) (pg_sub (pv 6) (pv 5) set_list))
      (pss_one (ps_set (i := 2) sc_c_put.nd rfl (Or.inl rfl) (pe_tup (pa_cons pe_str (pa_cons (pe_ix (EV.ixT (K := K) rfl) (pv 4) pe_int (fun _ _ => rfl)) (pa_cons (pv 6) pa_nil)))))))))
    (pss_one (ps_ret (pv 2)))))), ?_⟩
    walk_at "r"
    refine ⟨szb rfl, fun pl hpl => ?_⟩
    walk_at "r"
    have hwl := hat.le
    refine for_tup (xs := nv w) (fun i σ H' => ∃ (v5 v6 : Option V) (nv' : V) (node q' : Tz) (G : Hp) (pvs : List V) (L : List (Tz × Nat)), σ = [some tv, some (.ref wp), some xv, some (.ref pl), some nv', v5, v6] ∧
        Grow D H G H' ∧ G pl = none ∧ H' pl = some (.lst pvs) ∧ Paired (rEn G) pvs L ∧ L.length = i ∧ Chain t L node ∧ rTz D nv' node ∧ At node (w.drop i) q')
      ⟨_, _, tv, t, q, D, [], [], rfl, (Grow.refl sD).tmp hpl, sD.free hpl, upd_same, .nil, rfl, .nil, ht, hat⟩ (fun i σ H' _ ⟨_, _, _, _, _, _, _, _, _, g, _⟩ => SqT.of (g.hh _ _ hwp0)) ?_ ?_
    · rintro i x σ H1 hx ⟨v5, v6, nv', node, q', G, pvs, L, rfl, g, gp, ep, pL, hLi, hch, hnode, hat'⟩
      rw [nv, List.getElem?_map] at hx
      obtain ⟨kk, hkk, rfl⟩ := Option.map_eq_some_iff.mp hx
      rw [drop_at hkk] at hat'
      cases hat' with
      | @cons d brs _ xb _ _ hxb hat2 =>
        obtain ⟨np, nq, bvs, rfl, hnp, hnq, pb⟩ := hnode.knot_at
        obtain ⟨bx, hbx, ba, bw, rfl, hba, hbt⟩ := P2.at pb hxb
        have hpvl := P2.len pL
        have hil := (List.getElem?_eq_some_iff.mp hkk).1
        walk_at "r"
        refine ⟨szb rfl, fun t2 ht2 => ?_⟩
        walk_at "r"
        refine i_app (upd_old ep ht2) (sz4' (by omega)) ?_
        walk_at "r"
        have g2 := g.new (o := .tup [.ref np, .int (kk : Int)]) ht2
        have n2 : pl ≠ t2 := ne_of_none ep ht2
        have gp2 : upd G t2 (.tup [.ref np, .int (kk : Int)]) pl = none := by rw [upd_ne n2]; exact gp
        have g3 := g2.mut (o := .lst (pvs ++ [.ref t2])) hpl gp2
        have hnp3 := g3.gh _ _ (g3.gg _ _ hnp)
        have hnq3 := g3.gh _ _ (g3.gg _ _ hnq)
        have hba3 := g3.gh _ _ (g3.gg _ _ hba)
        have e3 : upd (upd H1 t2 (.tup [.ref np, .int (kk : Int)])) pl (.lst (pvs ++ [.ref t2])) pl = some (.lst (pvs ++ [.ref t2])) := upd_same
        have sG : Same G (upd G t2 (.tup [.ref np, .int (kk : Int)])) := same_add (g.gh.free ht2)
        have et : upd G t2 (.tup [.ref np, .int (kk : Int)]) t2 = some (.tup [.ref np, .int (kk : Int)]) := upd_same
        generalize upd (upd H1 t2 (.tup [.ref np, .int (kk : Int)])) pl (.lst (pvs ++ [.ref t2])) = H3 at g3 hnp3 hnq3 hba3 e3 ⊢
        walk_at "r"
        refine i_ixL hnq3 (atI_nat hbx) ?_
        walk_at "r"
        exact ⟨_, _, bw, xb.2, q', _, _, L ++ [(Tz.knot d brs, kk)], rfl, g3, gp2, e3, P2.snoc (P2.mono pL fun _ _ h => mEn.up sG h) ⟨t2, .ref np, rfl, et, mTz.up (g.gg.trans sG) (.mk hnp hnq pb)⟩, by rw [List.length_append, hLi]; rfl, .snoc hch hxb, hbt, hat2⟩
    · rintro σ H1 ⟨v5, v6, nv', node, q', G, pvs, L, rfl, g, gp, ep, pL, hLi, hch, hnode, hat'⟩
      have hpvl := P2.len pL
      walk_at "r"
      refine RT.for_Itv (xs := pvs) (fun i σ H' => ∃ (v5 v6 : Option V) (nv' xv' : V) (node p' : Tz) (G : Hp) (L' : List (Tz × Nat)), σ = [some tv, some (.ref wp), some xv', some (.ref pl), some nv', v5, v6] ∧
          Grow D H G H' ∧ G pl = none ∧ H' pl = some (.lst pvs) ∧ Paired (rEn G) pvs L ∧ L' = L.take (L.length - i) ∧ Chain t L' node ∧ rTz G xv' p' ∧ p'.nn ≤ node.nn + p.nn)
        ⟨_, _, nv', xv, node, p, G, L, rfl, g, gp, ep, pL, by rw [Nat.sub_zero, List.take_length], hch, mTz.up g.gg hp, by omega⟩ (fun i σ H' ⟨_, _, _, _, _, _, _, _, _, _, _, e, _⟩ => SqL.of e) ?_ ?_
      · clear ep pL g gp hnode hat' hch hLi
        rintro i x σ H2 hi hx ⟨v5, v6, nv', xv', node, p', G, L', rfl, g, gp, ep, pL, hL', hch, hp', hnn⟩
        obtain ⟨⟨nd, kk⟩, hen, ea, ew, rfl, hea, het⟩ := P2.at' pL hx
        have hlast : L.take (L.length - i) = L.take (L.length - 1 - i) ++ [(nd, kk)] := by
          rw [show L.length - i = (L.length - 1 - i) + 1 by omega, List.take_add_one, ← hpvl, hen]
          rfl
        rw [hlast] at hL'
        subst hL'
        rcases hch.inv with ⟨h, _⟩ | ⟨L2, d, brs, k2, xb, eL, rfl, hch2, hxb⟩
        · simp at h
        · obtain ⟨e1, e2⟩ := List.append_inj' eL rfl
          cases e2
          subst e1
          obtain ⟨np, nq, bvs, rfl, hnp, hnq, pb⟩ := het.knot_at
          obtain ⟨bx, hbx, ba, bw, rfl, hba, hbt⟩ := P2.at pb hxb
          have hea2 := g.gh _ _ hea
          have hnp2 := g.gh _ _ hnp
          have hnq2 := g.gh _ _ hnq
          have hba2 := g.gh _ _ hba
          have hkl := (List.getElem?_eq_some_iff.mp hbx).1
          walk_at "r"
          intro b1 hb1
          walk_at "r"
          refine i_ixL upd_same (atI_nat hbx) ?_
          walk_at "r"
          refine ⟨szb rfl, fun t3 ht3 => ?_⟩
          walk_at "r"
          refine i_set (upd_old upd_same ht3) (ixN_pos (by omega) (by omega)) ?_
          rw [Int.toNat_natCast]
          walk_at "r"
          have n13 : b1 ≠ t3 := ne_of_none upd_same ht3
          have g3 := ((g.tmp (o := .lst bvs) hb1).new (o := .tup [.str xb.1, xv']) ht3)
          have hb10 : H b1 = none := g.hh.free hb1
          have gb3 : upd G t3 (.tup [.str xb.1, xv']) b1 = none := by rw [upd_ne n13]; exact g.gh.free hb1
          have g4 := (g3.mut (o := .lst (bvs.set kk (.ref t3))) hb10 gb3).add hb10 gb3 upd_same
          have hnp4 := g4.gh _ _ (same_add gb3 _ _ (same_add ((g.tmp (o := .lst bvs) hb1).gh.free ht3) _ _ hnp))
          have s4 : Same G (upd (upd G t3 (.tup [.str xb.1, xv'])) b1 (.lst (bvs.set kk (.ref t3)))) := fun b o e => same_add gb3 _ _ (same_add ((g.tmp (o := .lst bvs) hb1).gh.free ht3) _ _ e)
          have e4 : upd (upd G t3 (.tup [.str xb.1, xv'])) b1 (.lst (bvs.set kk (.ref t3))) b1 = some (.lst (bvs.set kk (.ref t3))) := upd_same
          have e5 : upd (upd G t3 (.tup [.str xb.1, xv'])) b1 (.lst (bvs.set kk (.ref t3))) t3 = some (.tup [.str xb.1, xv']) := upd_oth n13.symm upd_same
          have hpl4 : upd (upd (upd H2 b1 (.lst bvs)) t3 (.tup [.str xb.1, xv'])) b1 (.lst (bvs.set kk (.ref t3))) pl = some (.lst pvs) := upd_oth (ne_of_none ep hb1) (upd_old (upd_old ep hb1) ht3)
          have gpl4 : upd (upd G t3 (.tup [.str xb.1, xv'])) b1 (.lst (bvs.set kk (.ref t3))) pl = none := by rw [upd_ne (ne_of_none ep hb1), upd_ne (ne_of_none (upd_old ep hb1) ht3)]; exact gp
          generalize upd (upd (upd H2 b1 (.lst bvs)) t3 (.tup [.str xb.1, xv'])) b1 (.lst (bvs.set kk (.ref t3))) = H4 at g4 hnp4 hpl4 ⊢
          generalize upd (upd G t3 (.tup [.str xb.1, xv'])) b1 (.lst (bvs.set kk (.ref t3))) = G4 at g4 hnp4 s4 e4 e5 gpl4
          walk_at "r"
          refine ⟨szb rfl, fun t6 ht6 => ?_⟩
          walk_at "r"
          have g6 := g4.new (o := .tup [.str "knot", .int d, .ref b1]) ht6
          have s6 : Same G4 (upd G4 t6 (.tup [.str "knot", .int d, .ref b1])) := same_add (g4.gh.free ht6)
          have n6 : pl ≠ t6 := ne_of_none hpl4 ht6
          refine ⟨_, _, _, _, .knot d brs, .knot d (brs.set kk (xb.1, p')), _, _, rfl, g6, by rw [upd_ne n6]; exact gpl4, upd_old hpl4 ht6, P2.mono pL fun _ _ h => mEn.up (s4.trans s6) h, by rw [show L.length - (i + 1) = L.length - 1 - i by omega], hch2, rTz.mk upd_same (s6 _ _ e4) (P2.setz (P2.mono pb fun _ _ h => mBz.up (s4.trans s6) h) ⟨t3, xv', rfl, s6 _ _ e5, mTz.up (s4.trans s6) hp'⟩), ?_⟩
          rw [nn_knot, nn_knot]
          have := nnB_set (y := (xb.1, p')) hxb
          replace this : nnB (brs.set kk (xb.1, p')) + xb.2.nn = nnB brs + p'.nn := this
          omega
      · rintro σ H2 ⟨v5, v6, nv', xv', node, p', G, L', rfl, g, gp, ep, pL, hL', hch, hp', hnn⟩
        rw [hpvl, Nat.sub_self, List.take_zero] at hL'
        subst hL'
        have e : node = t := by
          rcases hch.inv with ⟨_, h⟩ | ⟨_, _, _, _, _, h, _⟩
          · exact h
          · simp at h
        subst e
        walk_at "r"
        exact k _ _ _ p' g hp' hnn
end
end K9
end
section
set_option Elab.async false
set_option maxRecDepth 100000
set_option maxHeartbeats 8000000
namespace K9
open PySem PySem.Spec L2 EV
theorem i_lrg {ta : TE} {σ : L2.St} {H : Hp} {Q : VK} (h : ta σ H fun x H1 => ∃ n, x = .int n ∧ (RgOk 0 n ∧ ∀ q, H1 q = none → Q (.ref q) (upd H1 q (.lst (rgV 0 n))))) : tLstRg (tRg1 ta) σ H Q := h
theorem perm_nats {ys : List V} {n : Nat} (h : ∀ y ∈ ys, y ∈ rgV 0 (n : Int)) : ∃ ps : List Nat, ys = ps.map (fun n : Nat => V.int (n : Int)) ∧ ∀ p ∈ ps, p < n := by
  induction ys with
  | nil => exact ⟨[], rfl, fun _ h => by cases h⟩
  | cons y t ih =>
    obtain ⟨ps, e, hp⟩ := ih fun x hx => h x (List.mem_cons_of_mem _ hx)
    have hy := h y List.mem_cons_self
    unfold rgV at hy
    obtain ⟨z, hz, ez⟩ := List.mem_map.mp hy
    have hz := List.mem_range.mp hz
    refine ⟨z :: ps, by rw [List.map_cons, ← ez, e, Int.zero_add], fun p h => ?_⟩
    rcases List.mem_cons.mp h with rfl | h
    · omega
    · exact hp p h
theorem cut_nats (zs : List Nat) (k : Nat) : ∃ c : List Nat, cutV (zs.map fun n : Nat => V.int (n : Int)) none (some (k : Int)) = (c.map fun n : Nat => V.int (n : Int)) ∧ c.length ≤ k ∧ ∀ x ∈ c, x ∈ zs := by
  refine ⟨(zs.drop 0).take (HT.sIx (zs.map fun n : Nat => V.int (n : Int)).length (zs.map fun n : Nat => V.int (n : Int)).length (some (k : Int)) - 0), ?_, ?_, ?_⟩
  · unfold cutV
    rw [HT.sIx_none, ← List.map_drop, ← List.map_take]
  · rw [List.length_take, HT.sIx_nat]
    omega
  · intro x hx
    rw [List.drop_zero] at hx
    exact List.mem_of_mem_take hx
theorem sol_shut (ds : List Dem) (ms : List (List Str)) : sol (ds ++ [([], [])]) [] ms = none := by
  cases h : sol (ds ++ [([], [])]) [] ms with
  | none => rfl
  | some c =>
    have h2 := sat_at (sol_mem h).2 (List.mem_append_right _ (List.mem_singleton.mpr rfl))
    cases h2
local macro_rules | `(tactic| walk_at "hp") => `(tactic| first | assumption | exact upd_same | (refine upd_old ?_ (by assumption); walk_at "hp") | (refine upd_oth (by first | assumption | (apply Ne.symm; assumption)) ?_; walk_at "hp"))
local macro_rules | `(tactic| walk_at "kb") => `(tactic| first | exact kb_NoneType_bool | exact kb_NoneType_int | exact kb_NoneType_str | exact kb_NoneType_dict | exact kb_NoneType_list | exact kb_NoneType_tuple | exact kb_bool_bool | exact kb_bool_int | exact kb_bool_str | exact kb_bool_dict | exact kb_bool_list | exact kb_bool_tuple | exact kb_int_bool | exact kb_int_int | exact kb_int_str | exact kb_int_dict | exact kb_int_list | exact kb_int_tuple | exact kb_str_bool | exact kb_str_int | exact kb_str_str | exact kb_str_dict | exact kb_str_list | exact kb_str_tuple | exact kb_list_bool | exact kb_list_int | exact kb_list_str | exact kb_list_dict | exact kb_list_list | exact kb_list_tuple | exact kb_tuple_bool | exact kb_tuple_int | exact kb_tuple_str | exact kb_tuple_dict | exact kb_tuple_list | exact kb_tuple_tuple)
local macro_rules | `(tactic| walk_at "ty") => `(tactic| first | exact tx_int | exact tx_str | exact tx_non | exact tx_bl | exact tx_lst (by walk_at "hp") | exact tx_tup (by walk_at "hp"))
local macro_rules | `(tactic| walk_at "r1") => `(tactic| first
  | ((with_reducible refine' i_var ?e1 ?_); (case e1 => rfl)) | with_reducible refine i_seq ?_ | with_reducible refine i_c ?_ | with_reducible refine i_op ?_ | with_reducible refine i_I0 ?_
  | with_reducible refine i_asg ?_ | with_reducible refine i_gname ?_ | with_reducible refine i_nil ?_ | with_reducible refine i_cons ?_ | with_reducible refine i_cb ?_ | with_reducible refine i_call ?_
  | with_reducible refine i_test ?_ | with_reducible refine i_tB ?_ | with_reducible refine i_bl ?_ | with_reducible refine i_int ?_ | with_reducible refine i_if ?_ | with_reducible refine i_ifx ?_
  | with_reducible refine i_ret ?_ | with_reducible refine i_retN ?_ | with_reducible refine i_drop ?_ | with_reducible refine i_next ?_ | with_reducible refine i_break ?_ | with_reducible refine i_cont ?_
  | with_reducible refine i_par ?_ | with_reducible refine i_par1 ?_ | with_reducible refine i_and ?_ | with_reducible refine i_or ?_ | with_reducible refine i_not ?_ | with_reducible refine i_truth ?_
  | with_reducible refine i_andV ?_ | with_reducible refine i_orV ?_ | with_reducible refine i_tup ?_ | with_reducible refine i_lst ?_ | with_reducible refine i_un ?_ | with_reducible refine i_U ?_
  | with_reducible refine i_bm ?_ | with_reducible refine i_bm0 ?_ | with_reducible refine i_sl ?_ | with_reducible refine i_nopart ?_ | with_reducible refine i_part ?_ | with_reducible refine i_fld ?_
  | with_reducible refine i_gsub ?_ | with_reducible refine i_gcons ?_ | with_reducible refine i_gnil ?_
  | ((with_reducible refine' i_eq ?e1 ?_); (case e1 => rfl)) | ((with_reducible refine' i_ne ?e1 ?_); (case e1 => rfl))
  | ((with_reducible refine' i_I ?e1 ?_); (case e1 => first | decide | exact .inr ⟨by decide, by decide⟩ | exact ⟨by decide, by decide⟩ | assumption))
  | ((with_reducible refine' i_ixL ?e1 ?e2 ?_); (case e1 => walk_at "hp"); (case e2 => first | rfl | assumption))
  | ((with_reducible refine' i_ixT ?e1 ?e2 ?_); (case e1 => walk_at "hp"); (case e2 => first | rfl | assumption))
  | ((with_reducible refine' i_len ?e1 ?_); (case e1 => walk_at "hp")) | ((with_reducible refine' i_lenT ?e1 ?_); (case e1 => walk_at "hp"))
  | ((with_reducible refine' i_gtup ?e1 ?e2 ?_); (case e1 => walk_at "hp"); (case e2 => rfl))
  | ((with_reducible refine' i_set ?e1 ?e2 ?_); (case e1 => walk_at "hp"); (case e2 => rfl))
  | with_reducible refine i_int1 ?_ | with_reducible refine i_abs1 ?_ | with_reducible refine i_max2 ?_ | with_reducible refine i_min2 ?_ | with_reducible refine i_non ?_ | with_reducible refine i_nnon ?_
  | with_reducible refine i_for ?_ | with_reducible refine i_irng1 ?_ | with_reducible refine i_ilist ?_ | with_reducible refine i_itup ?_ | with_reducible refine i_ienum ?_ | with_reducible refine i_irev ?_ | with_reducible refine i_izip ?_ | with_reducible refine i_lc ?_ | with_reducible refine i_yes ?_ | with_reducible refine i_notV ?_ | ((with_reducible refine' i_isi ?e1 ?e2 ?_); (case e1 => walk_at "ty"); (case e2 => walk_at "kb")) | with_reducible refine i_meth ?_ | with_reducible refine i_make ?_ | with_reducible refine i_din ?_ | with_reducible refine i_dni ?_ | with_reducible refine i_dget ?_ | with_reducible refine i_dcT ?_ | with_reducible refine i_sfld ?_ | with_reducible refine i_chain ?_ | ((with_reducible refine' i_tuple ?e1 ?_); (case e1 => walk_at "hp")) | ((with_reducible refine' i_list ?e1 ?_); (case e1 => walk_at "hp")) | with_reducible refine iteT ?_ | with_reducible refine iteF ?_ | with_reducible refine iteNF ?_ | with_reducible refine iteNT ?_
  | ((with_reducible refine' i_ilistE ?e1 ?_); (case e1 => walk_at "hp")) | ((with_reducible refine' i_itupE ?e1 ?_); (case e1 => walk_at "hp")) | ((with_reducible refine' i_ienumE ?e1 ?_); (case e1 => walk_at "hp")) | ((with_reducible refine' i_irevE ?e1 ?_); (case e1 => walk_at "hp"))
  | ((with_reducible refine' i_rng1 ?e1 ?_); (case e1 => first | omega | decide); (try with_reducible rw [Int.toNat_natCast]))
  | ((with_reducible refine' And.intro ?e1 ?_); (case e1 => first | exact i_ty (by walk_at "hp") | rfl)))
local macro_rules | `(tactic| walk_at "r") => `(tactic| repeat walk_at "r1")

section
variable {P : Program} {w : World} {K : PySem.W.Frag} {mg : Str → Option Value} {base : Heap}
def spBlocked : Sp := fun vs H Q _ => ∃ (B D : Hp) (s : Addr) (mv dv : V) (ms : List (List Str)) (ds : List Dem) (n : Nat), vs = [.ref s, mv, dv] ∧ Reg D H s ∧ Rng H s ∧ Sb s B H ∧ rMenus D mv ms ∧ rL (rDemF B) D dv ds ∧ Small n ms ds ∧ ds.length ≤ 100 ∧ 0 < n ∧ n ≤ 7 ∧
  ∀ H' D' v ds', Reg D' H' s → Same D D' → Rng H' s → Sb s B H' → Small n ms ds' → fr B (rL (rDemF B)) D' v ds' → sol ds' [] ms = none → (ds' = ds ∨ sol ds [] ms ≠ none) → Q v H'
theorem ok_c_blocked (T : Txt K mg) : FnOk P w K mg base CX0 3 T.a_c_blocked T.fd_c_blocked ["s", "menus", "demands"] spBlocked := by
  refine T.F_c_blocked.ok sc_c_blocked (fun vs H Q E h => ?_) (fun cdv A outer s H vs Q E hr h => ?_)
  · obtain ⟨_, _, _, _, _, _, _, _, rfl, _⟩ := h; rfl
  · obtain ⟨B, D, s, mv, dv, ms, ds0, n, rfl, rg, hR, sbB, ⟨ml, mvs, rfl, hml, pm⟩, ⟨dl, dvs0, rfl, hdl, pd0⟩, ⟨hmn, hm3, hd200, hdz, hwf⟩, hd100, hn0, hn7, k⟩ := h
    have hr1 : Room 1 _ := hr.mono (by decide); have hr2 : Room 2 _ := hr.mono (by decide)
    have hdl1 := rg.same _ _ hdl
    refine ⟨_, (pss_cons (ps_set (i := 3) sc_c_blocked.nd rfl (Or.inl rfl) (pe_callTy (EV.cList (K := K) rfl) (by rfl) T.b_list (by decide +kernel) (pa_cons (pv 2) pa_nil)))
    (pss_cons (ps_for PassesOwn.never rfl (pi_range1 rfl T.b_range (pa_cons pe_int pa_nil)) (pg_name (i := 4) sc_c_blocked.nd rfl (Or.inl rfl))
      (pss_cons (ps_set (i := 5) sc_c_blocked.nd rfl (Or.inr rfl) (pe_call (ok_c_least T) hr2 rfl T.m_c_least T.F_c_least.kp (bd_c_least T) .nil pass0 (pa_cons (pv 1) (pa_cons (pv 3) pa_nil))))
      (pss_cons (ps_if (pt_cmpR EV.opIsN (pv 5) pe_non (nomark _))
        (pss_one (ps_ret (pv 3)))
        pss_nil)
      (pss_cons (ps_set (i := 6) sc_c_blocked.nd rfl (Or.inl rfl) (pe_slice (EV.slL (K := K) rfl) (pe_call (ok_shuffled T) hr2 rfl T.m_shuffled T.F_shuffled.kp (bd_shuffled T) .nil pass0 (pa_cons (pv 0) (pa_cons (pe_listRg rfl (by rfl) T.b_list (prg_1 (by rfl) T.b_range (pe_callB (EV.cLen (K := K) rfl) (by rfl) T.b_len (by decide +kernel) (pa_cons (pv 1) pa_nil)))) pa_nil))) po_none (po_some (pe_op op_add pe_int (pe_call (ok_pick T) hr1 rfl T.m_pick T.F_pick.kp (bd_pick T) .nil pass0 (pa_cons (pv 0) (pa_cons (pe_callB (EV.cMin2 rfl) (by rfl) T.b_min (by decide +kernel) (pa_cons pe_int (pa_cons (pe_callB (EV.cLen (K := K) rfl) (by rfl) T.b_len (by decide +kernel) (pa_cons (pv 1) pa_nil)) pa_nil))) pa_nil)))))))
      (pss_cons (ps_set (i := 7) sc_c_blocked.nd rfl (Or.inr rfl) (pe_callTy (EV.cTuple (K := K) rfl) (by rfl) T.b_tuple (by decide +kernel) (pa_cons (pe_lc (own := [("p", 8)]) rfl sc_c_blocked.nd (EV.piL (K := K) rfl (pv 6)) (blkOk_by (own := [("p", 8)]) (N := ["s", "menus", "demands", "out", "turn", "found", "places", "row", "p", "x"]) (sc := defScope s_c_blocked) (by decide +kernel)) (fun _ _ _ _ _ => (pg_name (i := 8) sc_c_blocked.nd rfl (Or.inl rfl))) (fun _ _ _ _ _ => pts_nil) (fun _ _ _ _ _ => (pe_ix (EV.ixL (K := K) rfl) (pv 5) (pv 8) (fun _ _ => rfl)))) pa_nil)))
      (pss_one (ps_expr (EV.peBm (K := K) rfl PySem.F.plainAttrs_list PySem.F.slot_list_append PySem.F.type_list_append mt_append (pv 3) (pa_cons (pe_tup (pa_cons (pv 6) (pa_cons (pe_lc (own := [("x", 9)]) rfl sc_c_blocked.nd (EV.piL (K := K) rfl (pe_call (ok_product T) hr1 rfl T.m_product T.F_product.kp (bd_product T) .nil pass0 (pa_cons (pe_lc (own := [("p", 8)]) rfl sc_c_blocked.nd (EV.piL (K := K) rfl (pv 6)) (blkOk_by (own := [("p", 8)]) (N := ["s", "menus", "demands", "out", "turn", "found", "places", "row", "p", "x"]) (sc := defScope s_c_blocked) (by decide +kernel)) (fun _ _ _ _ _ => (pg_name (i := 8) sc_c_blocked.nd rfl (Or.inl rfl))) (fun _ _ _ _ _ => pts_nil) (fun _ _ _ _ _ => (pe_ix (EV.ixL (K := K) rfl) (pv 1) (pv 8) (fun _ _ => rfl)))) pa_nil))) (blkOk_by (own := [("x", 9)]) (N := ["s", "menus", "demands", "out", "turn", "found", "places", "row", "p", "x"]) (sc := defScope s_c_blocked) (by decide +kernel)) (fun _ _ _ _ _ => (pg_name (i := 9) sc_c_blocked.nd rfl (Or.inl rfl))) (fun _ _ _ _ _ => pts_one (pt_cmpR (EV.opNeP (K := K) rfl hr.units) (pv 9) (pv 7) (nomark _))) (fun _ _ _ _ _ => (pv 9))) pa_nil))) pa_nil)))))))))
    (pss_one (ps_ret (pe_op op_cat (pv 3) (pe_lst (pa_cons (pe_tup (pa_cons (pe_lst pa_nil) (pa_cons (pe_lst pa_nil) pa_nil))) pa_nil))))))), ?_⟩
    walk_at "r"
    intro L hL
    have nLs : L ≠ s := hR.ne hL
    have DL := rg.free hL
    have BL := sbB.free nLs hL
    walk_at "r"
    have hmvl := P2.len pm
    have hdvl0 := P2.len pd0
    have hfN : fN ms < 100000 := by
      have h1 := fN_bound ms hm3
      have h2 : 3 ^ (ms.length + 1) ≤ 3 ^ 8 := Nat.pow_le_pow_right (by decide) (by omega)
      have h3 : (3 : Nat) ^ 8 = 6561 := by decide
      omega
    refine for_range (n := 30) (fun i σ H' => ∃ (v4 v5 v6 v7 v8 v9 : Option V) (dvs : List V) (ds : List Dem), σ = [some (.ref s), some (.ref ml), some (.ref dl), some (.ref L), v4, v5, v6, v7, v8, v9] ∧
        Rng H' s ∧ Sb s B H' ∧ H' L = some (.lst dvs) ∧ Same D (mask s L H') ∧ Paired (rDemF B (mask s L H')) dvs ds ∧ ds.length ≤ 100 + i ∧ (∀ d ∈ ds, d.1.length ≤ 3 ∧ d.2.length ≤ 100 ∧ ∀ r ∈ d.2, r.length ≤ 3) ∧ WF n ds ∧ (i = 0 ∧ ds = ds0 ∨ sol ds0 [] ms ≠ none))
      ⟨_, _, _, _, _, _, dvs0, ds0, rfl, hR.new hL, sbB.new hL, upd_same, Same.masked (Same.new rg.same hL) rg.out DL, P2.mono pd0 fun _ _ h => mDemF.up (Same.masked (Same.new rg.same hL) rg.out DL) h, by omega, hdz, hwf, .inl ⟨rfl, rfl⟩⟩ ?_ ?_
    · clear pd0 hdz hwf hd200 hd100 hdvl0
      rintro i σ H1 hi ⟨v4, v5, v6, v7, v8, v9, dvs, ds, rfl, hR1, sb1, eL1, sD1, pd, hdl, hdz, hwf, hfst⟩
      have hml1 := mask_le _ _ (sD1 _ _ hml)
      have hdvl := P2.len pd
      have hMen : rMenus D (.ref ml) ms := ⟨ml, mvs, rfl, hml, pm⟩
      walk_at "r"
      refine ⟨_, _, ms, ds, rfl, mMenus.up (fun b o e => mask_le _ _ (sD1 b o e)) hMen, ⟨L, dvs, rfl, eL1, P2.mono pd fun _ _ h => (mDemF.up mask_le h).dem⟩, ⟨by omega, fun m hm => by have := hm3 m hm; omega, by omega, fun d hd => by have := hdz d hd; omega⟩, by rw [hmn]; exact hwf, hfN, fun H2 v2 s2 hv2 => ?_⟩
      have eL2 := s2 _ _ eL1
      have hR2 : Rng H2 s := by
        obtain ⟨a1, a2, a3, e⟩ := hR1
        exact ⟨a1, a2, a3, s2 _ _ e⟩
      have k2 : Kp s L H1 H2 := Kp.refl.same s2
      cases hsol : sol ds [] ms with
      | none =>
        rw [hsol] at hv2
        cases hv2
        walk_at "r"
        refine ite_t (by rfl) ?_
        walk_at "r"
        have rgm : Reg (mask s L H2) H2 s := ⟨mask_le, mask_s⟩
        have rgL := rgm.add eL2 mask_L nLs
        have sL : Same (mask s L H2) (upd (mask s L H2) L (.lst dvs)) := same_add mask_L
        exact k _ _ _ ds rgL (sD1.trans (k2.up.trans sL)) hR2 (fun b o n e => s2 _ _ (sb1 b o n e)) ⟨hmn, hm3, by omega, hdz, hwf⟩ ⟨⟨L, dvs, rfl, upd_same, P2.mono pd fun _ _ h => mDemF.up (k2.up.trans sL) h⟩, L, rfl, BL⟩ hsol (hfst.elim (fun e => .inl e.2) .inr)
      | some c =>
        rw [hsol] at hv2
        have hcl : c.length = n := by
          have h1 := find_prod ds ms
          rw [hsol] at h1
          rw [prodL_len ms c (List.mem_of_find?_eq_some h1), hmn]
        obtain ⟨fp, rfl, hfp⟩ := hv2.at
        have nfs : fp ≠ s := by
          rintro rfl
          obtain ⟨a1, a2, a3, e⟩ := hR2
          rw [hfp] at e
          cases c with
          | nil => cases e
          | cons a t => cases e
        have nfL : fp ≠ L := by
          rintro rfl
          rw [hfp] at eL2
          cases c with
          | nil => rw [List.length_nil] at hcl; omega
          | cons a t =>
            cases eL2
            cases pd with
            | cons h _ =>
              obtain ⟨p, _, _, e, _⟩ := h
              cases e
        walk_at "r"
        refine ite_f (by rfl) ?_
        have hml2 := s2 _ _ hml1
        walk_at "r"
        refine i_lrg ?_
        walk_at "r"
        refine ⟨RgOk.of_le (by decide) (by omega) (by decide) (by omega), fun q3 hq3 => ?_⟩
        have nq3s : q3 ≠ s := hR2.ne hq3
        have hrgl := rgV_length 0 (mvs.length : Int)
        walk_at "r"
        refine ⟨_, q3, _, rfl, hR2.new hq3, upd_same, nq3s, by omega, fun H4 q4 ys4 sb4 hR4 hq4 eq4 hperm => ?_⟩
        have sb24 : Sb s H2 H4 := ((Sb.refl s H2).new hq3).trans sb4
        have eL4 := sb24 _ _ nLs eL2
        have nq4s : q4 ≠ s := (hR2.new hq3).ne hq4
        obtain ⟨ps4, rfl, hps4⟩ := perm_nats (n := mvs.length) fun y hy => hperm.subset hy
        have k4 := k2.sb sb24
        have hml4 := mask_le _ _ (k4.up _ _ (sD1 _ _ hml))
        walk_at "r"
        refine ⟨_, _, rfl, hR4, by split <;> omega, fun H5 r5 sb5 hR5 r50 r51 => ?_⟩
        have r52 : r5 ≤ 2 := by
          split at r51 <;> omega
        walk_at "r"
        have er : (1 + r5 : Int) = ((1 + r5.toNat : Nat) : Int) := by omega
        rw [er]
        have eq5 := sb5 _ _ nq4s eq4
        obtain ⟨ps, eps, hpsl, hpsm⟩ := cut_nats ps4 (1 + r5.toNat)
        have hpsn : ∀ p ∈ ps, p < n := fun p hp => by have := hps4 p (hpsm p hp); omega
        refine ⟨q4, _, rfl, SqL.of eq5, fun D4 hD4 => ?_⟩
        rw [eps]
        have eL5 := sb5 _ _ nLs eL4
        have nD4s : D4 ≠ s := hR5.ne hD4
        have nD4L : D4 ≠ L := (ne_of_none eL5 hD4).symm
        have BD4 := ((k4.sb sb5).sbB sb1 BL).free nD4s hD4
        have k5 : Kp s L H1 (upd H5 D4 (.lst (ps.map fun n : Nat => V.int (n : Int)))) := (k4.sb sb5).new hD4
        have eL5 := upd_old (o := .lst (ps.map fun n : Nat => V.int (n : Int))) eL5 hD4
        have hR5 := hR5.new (o := .lst (ps.map fun n : Nat => V.int (n : Int))) hD4
        have eD5 : upd H5 D4 (.lst (ps.map fun n : Nat => V.int (n : Int))) D4 = some (.lst (ps.map fun n : Nat => V.int (n : Int))) := upd_same
        have hfp5 : upd H5 D4 (.lst (ps.map fun n : Nat => V.int (n : Int))) fp = some (.lst (c.map V.str)) := upd_old (sb5 _ _ nfs (sb24 _ _ nfs hfp)) hD4
        generalize upd H5 D4 (.lst (ps.map fun n : Nat => V.int (n : Int))) = H6 at k5 eL5 hR5 eD5 hfp5 ⊢
        walk_at "r"
        intro D7 hD7
        refine lc_mapL (S := rS) (ys' := rowOf c ps) mS (mask_le (s := s) (L := L) (H := H6)) eD5 (by simp [rowOf]) (by simp [rowOf]; omega) hD7 ?_ ?_
        · intro j v y G H7 hv hy g k3 hk3
          rw [List.getElem?_map] at hv
          obtain ⟨p, hp, rfl⟩ := Option.map_eq_some_iff.mp hv
          unfold rowOf at hy
          rw [List.getElem?_map, hp] at hy
          cases hy
          have hpt : p < c.length := by rw [hcl]; exact hpsn p (List.mem_of_getElem? hp)
          have hfp7 := g.hh _ _ hfp5
          walk_at "r"
          refine i_ixL hfp7 (atI_nat (j := p) (v := .str (c.getD p Str.empty)) (by rw [List.getElem?_map, List.getD_eq_getElem?_getD, List.getElem?_eq_getElem hpt]; rfl)) ?_
          exact hk3 _ G H7 (Grow.refl g.gh) rfl
        · intro H7 G7 acc7 g7 gd7 ed7 pa7
          rw [strs_eq pa7] at ed7
          walk_at "r"
          intro tp htp
          have k7 : Kp s L H1 (upd H7 tp (.tup ((rowOf c ps).map V.str))) := (k5.same g7.hh).new htp
          have hR7 : Rng (upd H7 tp (.tup ((rowOf c ps).map V.str))) s := by
            obtain ⟨a1, a2, a3, e⟩ := hR5
            exact ⟨a1, a2, a3, upd_old (g7.hh _ _ e) htp⟩
          have eL7 := upd_old (o := .tup ((rowOf c ps).map V.str)) (g7.hh _ _ eL5) htp
          have eD7 := upd_old (o := .tup ((rowOf c ps).map V.str)) (g7.hh _ _ eD5) htp
          have etp7 : upd H7 tp (.tup ((rowOf c ps).map V.str)) tp = some (.tup ((rowOf c ps).map V.str)) := upd_same
          generalize upd H7 tp (.tup ((rowOf c ps).map V.str)) = H8 at k7 hR7 eL7 eD7 etp7 ⊢
          obtain ⟨M', mvs5, e, hM5, pm5⟩ := mMenus.up (sD1.trans k7.up) hMen
          cases e
          have hM5' := mask_le _ _ hM5
          walk_at "r"
          intro D5 hD5
          refine lc_mapL (S := rStrs) (ys' := ps.map fun p => ms.getD p []) mStrs (mask_le (s := s) (L := L) (H := H8)) eD7 (by simp) (by simp; omega) hD5 ?_ ?_
          · intro j v y G H9 hv hy g k3 hk3
            rw [List.getElem?_map] at hv hy
            obtain ⟨p, hp, rfl⟩ := Option.map_eq_some_iff.mp hv
            rw [hp] at hy
            cases hy
            have hpn' := hpsn p (List.mem_of_getElem? hp)
            have hmp : ms[p]? = some (ms.getD p []) := by rw [List.getD_eq_getElem?_getD, List.getElem?_eq_getElem (by omega)]; rfl
            obtain ⟨mx, hmx, hmr⟩ := P2.at pm5 hmp
            have hM6 := g.hh _ _ hM5'
            walk_at "r"
            refine i_ixL hM6 (atI_nat hmx) ?_
            exact hk3 _ G H9 (Grow.refl g.gh) (mStrs.up g.gg hmr)
          · intro H9 G9 acc9 g9 gd9 ed9 pa9
            have hR9 : Rng H9 s := by
              obtain ⟨a1, a2, a3, e⟩ := hR7
              exact ⟨a1, a2, a3, g9.hh _ _ e⟩
            have k9 : Kp s L H1 H9 := k7.same g9.hh
            have eL9 := g9.hh _ _ eL7
            have etp9 := g9.hh _ _ etp7
            have eD9 := g9.hh _ _ eD7
            have hp3 : ∀ m ∈ ps.map (fun p => ms.getD p []), m.length ≤ 3 := by
              intro m hm
              obtain ⟨p, hp, rfl⟩ := List.mem_map.mp hm
              have hpn' := hpsn p hp
              rw [List.getD_eq_getElem?_getD, List.getElem?_eq_getElem (by omega)]
              exact hm3 _ (List.getElem_mem _)
            have hpb : ∀ k, (prodL ((ps.map fun p => ms.getD p []).take k)).length ≤ 27 := fun k => prodL_all (n := 3) hp3 (by rw [List.length_map]; omega) k
            walk_at "r"
            refine ⟨_, _, rfl, ⟨D5, acc9, rfl, ed9, P2.mono pa9 fun _ _ h => mStrs.up g9.gh h⟩, by rw [List.length_map]; omega, fun k => Nat.le_trans (hpb k) (by decide), fun H10 q s10 hq hrows => ?_⟩
            have hrl : (prodL (ps.map fun p => ms.getD p [])).length ≤ 27 := by
              have := hpb (ps.map fun p => ms.getD p []).length
              rw [List.take_length] at this
              exact this
            have hrl3 : ∀ r ∈ prodL (ps.map fun p => ms.getD p []), r.length ≤ 3 := fun r hr => by rw [prodL_len _ _ hr, List.length_map]; omega
            generalize prodL (ps.map fun p => ms.getD p []) = prow at hrows hrl hrl3
            obtain ⟨q', rvs, e, hq10, pr⟩ := hrows
            cases e
            have hrvl := P2.len pr
            have eL10 := s10 _ _ eL9
            have etp10 := s10 _ _ etp9
            have k10 := k9.same s10
            walk_at "r"
            intro D11 hD11
            have nD11s : D11 ≠ s := by
              obtain ⟨a1, a2, a3, e⟩ := hR9
              exact (ne_of_none (s10 _ _ e) hD11).symm
            have nD11L : D11 ≠ L := (ne_of_none eL10 hD11).symm
            have BD11 := (k10.sbB sb1 BL).free nD11s hD11
            refine lc_list (xs := rvs) (fun i H' => ∃ ys, Same H10 H' ∧ H' D11 = some (.lst ys) ∧ ys.Sublist (rvs.take i))
              ⟨[], Same.new (Same.refl _) hD11, upd_same, by simp⟩ (fun i H' _ ⟨_, sb, _⟩ => SqL.of (sb _ _ hq10)) ?_ ?_
            · rintro i2 x H12 hx ⟨ys, s12, e12, su⟩
              obtain ⟨rx, _, hrx⟩ := P2.at' pr hx
              have et : rvs.take (i2 + 1) = rvs.take i2 ++ [x] := by rw [List.take_add_one, hx]; rfl
              have hyl : ys.length ≤ rvs.length := by
                have h1 := su.length_le
                rw [List.length_take] at h1
                omega
              walk_at "r"
              refine w_ne eRow (mRow.up s12 hrx) (rRow.of (s12 _ _ etp10)) ?_
              walk_at "r"
              refine ite_b (fun _ => ?_) (fun _ => ?_)
              · walk_at "r"
                refine ⟨_, e12, sz4' (by omega), ys ++ [x], ?_, upd_same, by rw [et]; exact su.append (List.Sublist.refl _)⟩
                exact Same.mut s12 hD11
              · exact ⟨ys, s12, e12, by rw [et]; exact su.trans (List.sublist_append_left _ _)⟩
            · rintro H12 ⟨ys, s12, e12, su⟩
              rw [List.take_length] at su
              have hysl := su.length_le
              have k12 := k10.same s12
              have k1012 : Kp s L H10 H12 := Kp.refl.same s12
              have eL12 := s12 _ _ eL10
              have hR12 : Rng H12 s := by
                obtain ⟨a1, a2, a3, e⟩ := hR9
                exact ⟨a1, a2, a3, s12 _ _ (s10 _ _ e)⟩
              have eD12 := s12 _ _ (s10 _ _ eD9)
              walk_at "r"
              refine ⟨szb rfl, fun T5 hT5 => ?_⟩
              have nT5s : T5 ≠ s := hR12.ne hT5
              have nT5L : T5 ≠ L := (ne_of_none eL12 hT5).symm
              walk_at "r"
              refine i_app (upd_old eL12 hT5) (sz4' (by omega)) ?_
              walk_at "r"
              have kN : Kp s L H12 (upd (upd H12 T5 (.tup [.ref D4, .ref D11])) L (.lst (dvs ++ [.ref T5]))) := (Kp.refl.new hT5).mut
              obtain ⟨rows5, p5s⟩ := P2.of_mem (R := fun y x => rRow (mask s L (upd (upd H12 T5 (.tup [.ref D4, .ref D11])) L (.lst (dvs ++ [.ref T5])))) y x ∧ x.length ≤ 3) (ys := ys) fun y hy => by
                obtain ⟨r7, hm7, hr7⟩ := P2.mem pr (su.subset hy)
                obtain ⟨a1, a2, a3, e⟩ := hR9
                exact ⟨r7, mRow.up (k1012.trans kN).up (rRow.masked (s10 _ _ e) eL10 hr7), hrl3 _ hm7⟩
              have p5 := P2.mono (S := rRow (mask s L (upd (upd H12 T5 (.tup [.ref D4, .ref D11])) L (.lst (dvs ++ [.ref T5]))))) p5s fun _ _ h => h.1
              have hl5 := P2.len p5
              have k1N := k12.trans kN
              refine ⟨_, _, _, _, _, _, dvs ++ [.ref T5], ds ++ [(ps, rows5)], rfl, (hR12.new hT5).other nLs.symm, k1N.sbB sb1 BL, upd_same, sD1.trans k1N.up, P2.snoc (P2.mono pd fun _ _ h => mDemF.up k1N.up h) ?_, by rw [List.length_append]; show _ + 1 ≤ _; omega, ?_, ?_, .inr (hfst.elim (fun e => by rw [← e.2, hsol]; exact fun h => nomatch h) id)⟩
              · refine ⟨T5, D4, D11, rfl, ?_, rNats.of (p := D4) ?_, ⟨D11, ys, rfl, ?_, p5⟩, BD4, BD11⟩
                · rw [mask_at nT5s nT5L]
                  exact upd_oth nT5L upd_same
                · rw [mask_at nD4s nD4L]
                  exact kN _ _ nD4s nD4L eD12
                · rw [mask_at nD11s nD11L]
                  exact kN _ _ nD11s nD11L e12
              · intro d hd
                rcases List.mem_append.mp hd with hd | hd
                · exact hdz d hd
                · rw [List.mem_singleton] at hd
                  subst hd
                  exact ⟨by show ps.length ≤ 3; omega, by show rows5.length ≤ 100; omega, P2.snd p5s⟩
              · intro d hd
                rcases List.mem_append.mp hd with hd | hd
                · exact hwf d hd
                · rw [List.mem_singleton] at hd
                  subst hd
                  exact hpsn
    · rintro σ H1 ⟨v4, v5, v6, v7, v8, v9, dvs, ds, rfl, hR1, sb1, eL1, sD1, pd, hdl, hdz, hwf, hfst⟩
      have hdvl := P2.len pd
      walk_at "r"
      refine ⟨szb rfl, fun a1 h1 => ?_⟩
      walk_at "r"
      refine ⟨szb rfl, fun a2 h2 => ?_⟩
      walk_at "r"
      refine ⟨szb rfl, fun a3 h3 => ?_⟩
      walk_at "r"
      refine ⟨szb rfl, fun a4 h4 => ?_⟩
      refine i_cat (upd_old (upd_old (upd_old (upd_old eL1 h1) h2) h3) h4) upd_same (by show _ + 1 ≤ _; omega) fun a5 h5 => ?_
      walk_at "r"
      have hRE := ((((hR1.new (o := .lst []) h1).new (o := .lst []) h2).new (o := .tup [.ref a1, .ref a2]) h3).new (o := .lst [.ref a3]) h4).new (o := .lst (dvs ++ [.ref a3])) h5
      have kE := ((((Kp.refl (s := s) (L := L) (H := H1)).new (o := .lst []) h1).new (o := .lst []) h2).new (o := .tup [.ref a1, .ref a2]) h3).new (o := .lst [.ref a3]) h4 |>.new (o := .lst (dvs ++ [.ref a3])) h5
      have eLE := upd_old (o := .lst (dvs ++ [.ref a3])) (upd_old (o := .lst [.ref a3]) (upd_old (o := .tup [.ref a1, .ref a2]) (upd_old (o := .lst []) (upd_old (o := .lst []) eL1 h1) h2) h3) h4) h5
      have f1 := upd_old (o := .lst (dvs ++ [.ref a3])) (upd_old (o := .lst [.ref a3]) (upd_old (o := .tup [.ref a1, .ref a2]) (upd_old (o := .lst []) (upd_same (H := H1) (a := a1) (o := .lst [])) h2) h3) h4) h5
      have f2 := upd_old (o := .lst (dvs ++ [.ref a3])) (upd_old (o := .lst [.ref a3]) (upd_old (o := .tup [.ref a1, .ref a2]) (upd_same (H := upd H1 a1 (.lst [])) (a := a2) (o := .lst [])) h3) h4) h5
      have f3 := upd_old (o := .lst (dvs ++ [.ref a3])) (upd_old (o := .lst [.ref a3]) (upd_same (H := upd (upd H1 a1 (.lst [])) a2 (.lst [])) (a := a3) (o := .tup [.ref a1, .ref a2])) h4) h5
      have f5 := upd_same (H := upd (upd (upd (upd H1 a1 (.lst [])) a2 (.lst [])) a3 (.tup [.ref a1, .ref a2])) a4 (.lst [.ref a3])) (a := a5) (o := .lst (dvs ++ [.ref a3]))
      have n1 : a1 ≠ s := hR1.ne h1
      have n2 : a2 ≠ s := (hR1.new h1).ne h2
      have n3 : a3 ≠ s := ((hR1.new h1).new h2).ne h3
      have n5 : a5 ≠ s := ((((hR1.new h1).new h2).new h3).new h4).ne h5
      have sbE := kE.sbB sb1 BL
      have m1 : a1 ≠ L := (ne_of_none eL1 h1).symm
      have m2 : a2 ≠ L := (ne_of_none (upd_old eL1 h1) h2).symm
      have m3 : a3 ≠ L := (ne_of_none (upd_old (upd_old eL1 h1) h2) h3).symm
      have m5 : a5 ≠ L := (ne_of_none (upd_old (upd_old (upd_old (upd_old eL1 h1) h2) h3) h4) h5).symm
      refine k _ (mask s L (upd (upd (upd (upd (upd H1 a1 (.lst [])) a2 (.lst [])) a3 (.tup [.ref a1, .ref a2])) a4 (.lst [.ref a3])) a5 (.lst (dvs ++ [.ref a3])))) _ (ds ++ [([], [])]) ⟨mask_le, mask_s⟩ (sD1.trans kE.up) hRE sbE ⟨hmn, hm3, by rw [List.length_append]; show _ + 1 ≤ _; omega, ?_, ?_⟩ ⟨⟨a5, _, rfl, ?_, P2.snoc (P2.mono pd fun _ _ h => mDemF.up kE.up h) ⟨a3, a1, a2, rfl, ?_, ⟨a1, [], rfl, ?_, .nil⟩, ⟨a2, [], rfl, ?_, .nil⟩, sb1.free n1 h1, (sb1.new h1).free n2 h2⟩⟩, a5, rfl, ((((sb1.new h1).new h2).new h3).new h4).free n5 h5⟩ (sol_shut ds ms) (.inr (hfst.elim (fun e => absurd e.1 (by decide)) id))
      · intro d hd
        rcases List.mem_append.mp hd with hd | hd
        · exact hdz d hd
        · rw [List.mem_singleton] at hd
          subst hd
          exact ⟨Nat.zero_le _, Nat.zero_le _, fun _ h => nomatch h⟩
      · intro d hd
        rcases List.mem_append.mp hd with hd | hd
        · exact hwf d hd
        · rw [List.mem_singleton] at hd
          subst hd
          intro p hp
          cases hp
      · rw [mask_at n5 m5]; exact f5
      · rw [mask_at n3 m3]; exact f3
      · rw [mask_at n1 m1]; exact f1
      · rw [mask_at n2 m2]; exact f2
end
end K9
end
section
set_option Elab.async false
set_option maxRecDepth 100000
set_option pp.maxSteps 6000
set_option maxHeartbeats 8000000
namespace K9
open PySem PySem.Spec L2 EV
def cutG {α : Type} (ys : List α) (lo hi : Option Int) : List α := (ys.drop (HT.sIx ys.length 0 lo)).take (HT.sIx ys.length ys.length hi - HT.sIx ys.length 0 lo)
theorem P2.cut {α : Type} {R : V → α → Prop} {xs : List V} {ys : List α} (h : Paired R xs ys) (lo hi : Option Int) : Paired R (cutV xs lo hi) (cutG ys lo hi) := by
  unfold cutV cutG
  rw [P2.len h]
  exact P2.take (P2.drop h _) _
theorem nnB_cut (b : List (Str × Tz)) (lo hi : Option Int) : nnB (cutG b lo hi) ≤ nnB b := by
  unfold cutG
  exact Nat.le_trans (nnB_take _ _) (nnB_drop _ _)
def KN (D : Hp) (t : Tz) (v : V) : Prop := ∃ wy d brs, rWy D v (wy, .knot d brs) ∧ At t wy (.knot d brs)
def LF (D : Hp) (t : Tz) (v : V) : Prop := ∃ wy k, rWy D v (wy, .leaf k) ∧ At t wy (.leaf k)
theorem Int_of {xs : List V} (h : ∀ v ∈ xs, ∃ i : Int, v = .int i) {ys : List V} (h2 : ∀ v ∈ ys, ∃ i : Int, v = .int i) : ∀ v ∈ xs ++ ys, ∃ i : Int, v = .int i := fun v hv => (List.mem_append.mp hv).elim (h v) (h2 v)
local macro_rules | `(tactic| walk_at "hp") => `(tactic| first | assumption | exact upd_same | (refine upd_old ?_ (by assumption); walk_at "hp") | (refine upd_oth (by first | assumption | (apply Ne.symm; assumption)) ?_; walk_at "hp"))
local macro_rules | `(tactic| walk_at "kb") => `(tactic| first | exact kb_NoneType_bool | exact kb_NoneType_int | exact kb_NoneType_str | exact kb_NoneType_dict | exact kb_NoneType_list | exact kb_NoneType_tuple | exact kb_bool_bool | exact kb_bool_int | exact kb_bool_str | exact kb_bool_dict | exact kb_bool_list | exact kb_bool_tuple | exact kb_int_bool | exact kb_int_int | exact kb_int_str | exact kb_int_dict | exact kb_int_list | exact kb_int_tuple | exact kb_str_bool | exact kb_str_int | exact kb_str_str | exact kb_str_dict | exact kb_str_list | exact kb_str_tuple | exact kb_list_bool | exact kb_list_int | exact kb_list_str | exact kb_list_dict | exact kb_list_list | exact kb_list_tuple | exact kb_tuple_bool | exact kb_tuple_int | exact kb_tuple_str | exact kb_tuple_dict | exact kb_tuple_list | exact kb_tuple_tuple)
local macro_rules | `(tactic| walk_at "ty") => `(tactic| first | exact tx_int | exact tx_str | exact tx_non | exact tx_bl | exact tx_lst (by walk_at "hp") | exact tx_tup (by walk_at "hp"))
local macro_rules | `(tactic| walk_at "r1") => `(tactic| first
  | ((with_reducible refine' i_var ?e1 ?_); (case e1 => rfl)) | with_reducible refine i_seq ?_ | with_reducible refine i_c ?_ | with_reducible refine i_op ?_ | with_reducible refine i_I0 ?_
  | with_reducible refine i_asg ?_ | with_reducible refine i_gname ?_ | with_reducible refine i_nil ?_ | with_reducible refine i_cons ?_ | with_reducible refine i_cb ?_ | with_reducible refine i_call ?_
  | with_reducible refine i_test ?_ | with_reducible refine i_tB ?_ | with_reducible refine i_bl ?_ | with_reducible refine i_int ?_ | with_reducible refine i_if ?_ | with_reducible refine i_ifx ?_
  | with_reducible refine i_ret ?_ | with_reducible refine i_retN ?_ | with_reducible refine i_drop ?_ | with_reducible refine i_next ?_ | with_reducible refine i_break ?_ | with_reducible refine i_cont ?_
  | with_reducible refine i_par ?_ | with_reducible refine i_par1 ?_ | with_reducible refine i_and ?_ | with_reducible refine i_or ?_ | with_reducible refine i_not ?_ | with_reducible refine i_truth ?_
  | with_reducible refine i_andV ?_ | with_reducible refine i_orV ?_ | with_reducible refine i_tup ?_ | with_reducible refine i_lst ?_ | with_reducible refine i_un ?_ | with_reducible refine i_U ?_
  | with_reducible refine i_bm ?_ | with_reducible refine i_bm0 ?_ | with_reducible refine i_sl ?_ | with_reducible refine i_nopart ?_ | with_reducible refine i_part ?_ | with_reducible refine i_fld ?_
  | with_reducible refine i_gsub ?_ | with_reducible refine i_gcons ?_ | with_reducible refine i_gnil ?_
  | ((with_reducible refine' i_eq ?e1 ?_); (case e1 => rfl)) | ((with_reducible refine' i_ne ?e1 ?_); (case e1 => rfl))
  | ((with_reducible refine' i_I ?e1 ?_); (case e1 => first | decide | exact .inr ⟨by decide, by decide⟩ | exact ⟨by decide, by decide⟩ | assumption))
  | ((with_reducible refine' i_ixL ?e1 ?e2 ?_); (case e1 => walk_at "hp"); (case e2 => first | rfl | assumption))
  | ((with_reducible refine' i_ixT ?e1 ?e2 ?_); (case e1 => walk_at "hp"); (case e2 => first | rfl | assumption))
  | ((with_reducible refine' i_len ?e1 ?_); (case e1 => walk_at "hp")) | ((with_reducible refine' i_lenT ?e1 ?_); (case e1 => walk_at "hp"))
  | ((with_reducible refine' i_gtup ?e1 ?e2 ?_); (case e1 => walk_at "hp"); (case e2 => rfl))
  | ((with_reducible refine' i_set ?e1 ?e2 ?_); (case e1 => walk_at "hp"); (case e2 => rfl))
  | with_reducible refine i_int1 ?_ | with_reducible refine i_abs1 ?_ | with_reducible refine i_max2 ?_ | with_reducible refine i_min2 ?_ | with_reducible refine i_non ?_ | with_reducible refine i_nnon ?_
  | with_reducible refine i_for ?_ | with_reducible refine i_irng1 ?_ | with_reducible refine i_ilist ?_ | with_reducible refine i_itup ?_ | with_reducible refine i_ienum ?_ | with_reducible refine i_irev ?_ | with_reducible refine i_izip ?_ | with_reducible refine i_lc ?_ | with_reducible refine i_yes ?_ | with_reducible refine i_notV ?_ | ((with_reducible refine' i_isi ?e1 ?e2 ?_); (case e1 => walk_at "ty"); (case e2 => walk_at "kb")) | with_reducible refine i_meth ?_ | with_reducible refine i_make ?_ | with_reducible refine i_din ?_ | with_reducible refine i_dni ?_ | with_reducible refine i_dget ?_ | with_reducible refine i_dcT ?_ | with_reducible refine i_sfld ?_ | with_reducible refine i_chain ?_ | ((with_reducible refine' i_tuple ?e1 ?_); (case e1 => walk_at "hp")) | ((with_reducible refine' i_list ?e1 ?_); (case e1 => walk_at "hp")) | with_reducible refine iteT ?_ | with_reducible refine iteF ?_ | with_reducible refine iteNF ?_ | with_reducible refine iteNT ?_
  | ((with_reducible refine' i_ilistE ?e1 ?_); (case e1 => walk_at "hp")) | ((with_reducible refine' i_itupE ?e1 ?_); (case e1 => walk_at "hp")) | ((with_reducible refine' i_ienumE ?e1 ?_); (case e1 => walk_at "hp")) | ((with_reducible refine' i_irevE ?e1 ?_); (case e1 => walk_at "hp"))
  | ((with_reducible refine' i_rng1 ?e1 ?_); (case e1 => first | omega | decide); (try with_reducible rw [Int.toNat_natCast]))
  | ((with_reducible refine' And.intro ?e1 ?_); (case e1 => first | exact i_ty (by walk_at "hp") | rfl)))
local macro_rules | `(tactic| walk_at "r") => `(tactic| repeat walk_at "r1")

section
variable {P : Program} {w : World} {K : PySem.W.Frag} {mg : Str → Option Value} {base : Heap}
theorem put_fin {s : Addr} {D H D1 H1 : Hp} {tv wv xv : V} {t p q : Tz} {w : List Nat} {Q : VK} {E : XK} (g : GrS s D H D1 H1) (ht : rTz D1 tv t) (hw : rWay D1 wv w) (hp : rTz D1 xv p) (hat : At t w q) (hN : t.nn ≤ 1000) (hpn : p.nn ≤ 4000)
    (k : ∀ H' D' v t', GrS s D H D' H' → rTz D' v t' → t'.nn ≤ 5000 → Q v H') : spPut [tv, wv, xv] H1 Q E :=
  ⟨D1, tv, wv, xv, t, p, q, w, rfl, g.rg.same, ht, hw, hp, hat, by omega, fun H' D' v p' g' hp' hnn => k _ _ _ p' (g.trans (g'.toS g.rg g.rn)) hp' (by omega)⟩
def spChange : Sp := fun vs H Q _ => ∃ (D : Hp) (s : Addr) (mv dv tv : V) (ms : List (List Str)) (ds : List Dem) (t : Tz), vs = [.ref s, mv, dv, tv] ∧ Reg D H s ∧ Rng H s ∧ rMenus D mv ms ∧ rDems D dv ds ∧ rTz D tv t ∧ t.nn ≤ 1000 ∧ ms.length ≤ 1000 ∧ ds.length ≤ 1000 ∧
  ∀ H' D' v t', GrS s D H D' H' → rTz D' v t' → t'.nn ≤ 5000 → Q v H'
theorem ok_k10_change (T : Txt K mg) : FnOk P w K mg base CX0 3 T.a_k10_change T.fd_k10_change ["s", "menus", "demands", "tree"] spChange := by
  refine T.F_k10_change.ok sc_k10_change (fun vs H Q E h => ?_) (fun cdv A outer s0 H vs Q E hr h => ?_)
  · obtain ⟨_, _, _, _, _, _, _, _, rfl, _⟩ := h; rfl
  · obtain ⟨D, s, mv, dv, tv, ms, ds, t, rfl, rg, hR, hm, hd, ht, hN, hms, hds, k⟩ := h
    have hr1 : Room 1 _ := hr.mono (by decide); have hr2 : Room 2 _ := hr.mono (by decide)
    obtain ⟨ml, mvs, rfl, hml, pm⟩ := id hm
    obtain ⟨dl, dvs, rfl, hdl, pd⟩ := id hd
    have hmvl := P2.len pm
    have hdvl := P2.len pd
    refine ⟨_, (pss_cons (ps_set (i := 4) sc_k10_change.nd rfl (Or.inl rfl) (pe_call (ok_c_knots T) hr1 rfl T.m_c_knots T.F_c_knots.kp (bd_c_knots T) .nil pass0 (pa_cons (pv 3) pa_nil)))
    (pss_cons (ps_setLc (i := 5) (own := [("x", 16)]) rfl sc_k10_change.nd rfl rfl (sw_true rfl rfl rfl (by decide +kernel)) (EV.piL (K := K) rfl (pv 4)) (blkOk_by (own := [("x", 16)]) (N := ["s", "menus", "demands", "tree", "ways", "knots", "leaves", "form", "way", "part", "branches", "at", "above", "now", "k", "variable", "x"]) (sc := defScope s_k10_change) (by decide +kernel)) (fun _ _ _ _ _ => (pg_name (i := 16) sc_k10_change.nd rfl (Or.inl rfl))) (fun _ _ _ _ _ => pts_one (pt_cmpR op_eq (pe_ix (EV.ixT (K := K) rfl) (pe_ix (EV.ixT (K := K) rfl) (pv 16) pe_int (fun _ _ => rfl)) pe_int (fun _ _ => rfl)) pe_str (nomark _))) (fun _ _ _ _ _ => (pv 16)))
    (pss_cons (ps_setLc (i := 6) (own := [("x", 16)]) rfl sc_k10_change.nd rfl rfl (sw_true rfl rfl rfl (by decide +kernel)) (EV.piL (K := K) rfl (pv 4)) (blkOk_by (own := [("x", 16)]) (N := ["s", "menus", "demands", "tree", "ways", "knots", "leaves", "form", "way", "part", "branches", "at", "above", "now", "k", "variable", "x"]) (sc := defScope s_k10_change) (by decide +kernel)) (fun _ _ _ _ _ => (pg_name (i := 16) sc_k10_change.nd rfl (Or.inl rfl))) (fun _ _ _ _ _ => pts_one (pt_cmpR op_eq (pe_ix (EV.ixT (K := K) rfl) (pe_ix (EV.ixT (K := K) rfl) (pv 16) pe_int (fun _ _ => rfl)) pe_int (fun _ _ => rfl)) pe_str (nomark _))) (fun _ _ _ _ _ => (pv 16)))
    (pss_cons (ps_set (i := 7) sc_k10_change.nd rfl (Or.inl rfl) (pe_call (ok_pick T) hr1 rfl T.m_pick T.F_pick.kp (bd_pick T) .nil pass0 (pa_cons (pv 0) (pa_cons pe_int pa_nil))))
    (pss_cons (EV.psIfM (PW.pt (pw_and (pt_cmpR op_lt (pv 7) pe_int (nomark _)) (pw_and1 (EV.ptTruth (K := K) rfl (pv 5)))))
      (pss_cons (ps_asg (pe_call (ok_one T) hr2 rfl T.m_one T.F_one.kp (bd_one T) .nil pass0 (pa_cons (pv 0) (pa_cons (pv 5) pa_nil))) (EV.pgT (K := K) (n := 2) rfl rfl (pgs_cons (pg_name (i := 8) sc_k10_change.nd rfl (Or.inl rfl)) (pgs_cons (pg_name (i := 9) sc_k10_change.nd rfl (Or.inl rfl)) pgs_nil))))
      (pss_cons (ps_par (i := 10) (j := 11) rfl sc_k10_change.nd rfl rfl (by decide) rfl rfl (pa_cons (pe_callTy (EV.cList (K := K) rfl) (by rfl) T.b_list (by decide +kernel) (pa_cons (pe_ix (EV.ixT (K := K) rfl) (pv 9) pe_int (fun _ _ => rfl)) pa_nil)) (pa_cons (pe_call (ok_pick T) hr1 rfl T.m_pick T.F_pick.kp (bd_pick T) .nil pass0 (pa_cons (pv 0) (pa_cons (pe_callB (EV.cLen (K := K) rfl) (by rfl) T.b_len (by decide +kernel) (pa_cons (pe_ix (EV.ixT (K := K) rfl) (pv 9) pe_int (fun _ _ => rfl)) pa_nil)) pa_nil))) pa_nil)) (by rfl))
      (EV.pssCut (ps_if (pt_cmpR op_eq (pv 7) pe_int (nomark _))
        (pss_one (ps_set (i := 10) sc_k10_change.nd rfl (Or.inl rfl) (pe_op op_cat (pe_slice (EV.slL (K := K) rfl) (pv 10) po_none (po_some (pv 11))) (pe_slice (EV.slL (K := K) rfl) (pv 10) (po_some (pe_op op_add (pv 11) pe_int)) po_none))))
        (pss_one (ps_if (pt_cmpR op_eq (pv 7) pe_int (nomark _))
          (pss_one (ps_set (i := 10) sc_k10_change.nd rfl (Or.inl rfl) (pe_op op_cat (pv 10) (pe_slice (EV.slL (K := K) rfl) (pv 10) (po_some (pv 11)) (po_some (pe_op op_add (pv 11) pe_int))))))
          (pss_one (ps_if (pt_cmpR op_eq (pv 7) pe_int (nomark _))
            (pss_one (ps_set (i := 10) sc_k10_change.nd rfl (Or.inl rfl) (pe_op op_cat (pe_slice (EV.slL (K := K) rfl) (pv 10) (po_some pe_int) po_none) (pe_slice (EV.slL (K := K) rfl) (pv 10) po_none (po_some pe_int)))))
            (pss_one (ps_if (EV.ptTruth (K := K) rfl (pv 10))
              (pss_one (ps_asg (pe_tup (pa_cons pe_str (pa_cons (pe_ix (EV.ixT (K := K) rfl) (pe_ix (EV.ixL (K := K) rfl) (pv 10) (pv 11) (fun _ _ => rfl)) pe_int (fun _ _ => rfl)) pa_nil))) (pg_sub (pv 10) (pv 11) set_list)))
              pss_nil)))))))
      (pss_one (ps_ret (pe_call (ok_c_put T) hr1 rfl T.m_c_put T.F_c_put.kp (bd_c_put T) .nil pass0 (pa_cons (pv 3) (pa_cons (pv 8) (pa_cons (pe_tup (pa_cons pe_str (pa_cons (pe_ix (EV.ixT (K := K) rfl) (pv 9) pe_int (fun _ _ => rfl)) (pa_cons (pv 10) pa_nil)))) pa_nil)))))))))
      pss_nil)
    (pss_cons (EV.psIfM (PW.pt (pw_and (pt_cmpR op_lt (pv 7) pe_int (nomark _)) (pw_and1 (EV.ptTruth (K := K) rfl (pv 5)))))
      (pss_cons (ps_asg (pe_call (ok_one T) hr2 rfl T.m_one T.F_one.kp (bd_one T) .nil pass0 (pa_cons (pv 0) (pa_cons (pv 5) pa_nil))) (EV.pgT (K := K) (n := 2) rfl rfl (pgs_cons (pg_name (i := 8) sc_k10_change.nd rfl (Or.inl rfl)) (pgs_cons (pg_name (i := 9) sc_k10_change.nd rfl (Or.inl rfl)) pgs_nil))))
      (pss_cons (ps_par (i := 12) (j := 13) rfl sc_k10_change.nd rfl rfl (by decide) rfl rfl (pa_cons (pe_lst pa_nil) (pa_cons (pv 3) pa_nil)) (by rfl))
      (pss_cons (ps_for PassesOwn.never rfl (EV.piT (K := K) rfl (pv 8)) (pg_name (i := 14) sc_k10_change.nd rfl (Or.inl rfl))
        (pss_cons (ps_expr (EV.peBm (K := K) rfl PySem.F.plainAttrs_list PySem.F.slot_list_append PySem.F.type_list_append mt_append (pv 12) (pa_cons (pe_ix (EV.ixT (K := K) rfl) (pv 13) pe_int (fun _ _ => rfl)) pa_nil)))
        (pss_one (ps_set (i := 13) sc_k10_change.nd rfl (Or.inl rfl) (pe_ix (EV.ixT (K := K) rfl) (pe_ix (EV.ixL (K := K) rfl) (pe_ix (EV.ixT (K := K) rfl) (pv 13) pe_int (fun _ _ => rfl)) (pv 14) (fun _ _ => rfl)) pe_int (fun _ _ => rfl))))))
      (pss_cons (ps_set (i := 15) sc_k10_change.nd rfl (Or.inl rfl) (pe_call (ok_one T) hr2 rfl T.m_one T.F_one.kp (bd_one T) .nil pass0 (pa_cons (pv 0) (pa_cons (pe_op op_cat (pv 12) (pe_lst (pa_cons (pe_callB (EV.cLen (K := K) rfl) (by rfl) T.b_len (by decide +kernel) (pa_cons (pv 1) pa_nil)) (pa_cons (pe_op op_sub pe_int pe_int) (pa_cons (pe_op op_sub pe_int (pe_callB (EV.cLen (K := K) rfl) (by rfl) T.b_len (by decide +kernel) (pa_cons (pv 1) pa_nil))) (pa_cons (pe_op op_add (pe_callB (EV.cLen (K := K) rfl) (by rfl) T.b_len (by decide +kernel) (pa_cons (pv 1) pa_nil)) pe_int) (pa_cons (pe_call (ok_pick T) hr1 rfl T.m_pick T.F_pick.kp (bd_pick T) .nil pass0 (pa_cons (pv 0) (pa_cons (pe_callB (EV.cLen (K := K) rfl) (by rfl) T.b_len (by decide +kernel) (pa_cons (pv 1) pa_nil)) pa_nil))) pa_nil))))))) pa_nil))))
      (pss_one (ps_ret (pe_call (ok_c_put T) hr1 rfl T.m_c_put T.F_c_put.kp (bd_c_put T) .nil pass0 (pa_cons (pv 3) (pa_cons (pv 8) (pa_cons (pe_tup (pa_cons pe_str (pa_cons (pv 15) (pa_cons (pe_ix (EV.ixT (K := K) rfl) (pv 9) pe_int (fun _ _ => rfl)) pa_nil)))) pa_nil))))))))))
      pss_nil)
    (pss_cons (EV.psIfM (PW.pt (pw_and (pt_cmpR op_lt (pv 7) pe_int (nomark _)) (pw_and1 (EV.ptTruth (K := K) rfl (pv 6)))))
      (pss_cons (ps_asg (pe_call (ok_one T) hr2 rfl T.m_one T.F_one.kp (bd_one T) .nil pass0 (pa_cons (pv 0) (pa_cons (pv 6) pa_nil))) (EV.pgT (K := K) (n := 2) rfl rfl (pgs_cons (pg_name (i := 8) sc_k10_change.nd rfl (Or.inl rfl)) (pgs_cons (pg_name (i := 9) sc_k10_change.nd rfl (Or.inl rfl)) pgs_nil))))
      (pss_one (ps_ret (pe_call (ok_c_put T) hr1 rfl T.m_c_put T.F_c_put.kp (bd_c_put T) .nil pass0 (pa_cons (pv 3) (pa_cons (pv 8) (pa_cons (pe_tup (pa_cons pe_str (pa_cons (pe_call (ok_one T) hr2 rfl T.m_one T.F_one.kp (bd_one T) .nil pass0 (pa_cons (pv 0) (pa_cons (pe_op op_cat (pe_listRg rfl (by rfl) T.b_list (prg_1 (by rfl) T.b_range (pe_callB (EV.cLen (K := K) rfl) (by rfl) T.b_len (by decide +kernel) (pa_cons (pv 2) pa_nil)))) (pe_lst (pa_cons (pe_callB (EV.cLen (K := K) rfl) (by rfl) T.b_len (by decide +kernel) (pa_cons (pv 2) pa_nil)) (pa_cons (pe_op op_sub pe_int pe_int) (pa_cons (pe_op op_sub pe_int (pe_callB (EV.cLen (K := K) rfl) (by rfl) T.b_len (by decide +kernel) (pa_cons (pv 2) pa_nil))) pa_nil))))) pa_nil))) pa_nil))) pa_nil)))))))
      pss_nil)
    (pss_cons (ps_asg (pe_call (ok_one T) hr2 rfl T.m_one T.F_one.kp (bd_one T) .nil pass0 (pa_cons (pv 0) (pa_cons (pv 4) pa_nil))) (EV.pgT (K := K) (n := 2) rfl rfl (pgs_cons (pg_name (i := 8) sc_k10_change.nd rfl (Or.inl rfl)) (pgs_cons (pg_name (i := 9) sc_k10_change.nd rfl (Or.inl rfl)) pgs_nil))))
    (pss_one (ps_ret (pe_call (ok_c_put T) hr1 rfl T.m_c_put T.F_c_put.kp (bd_c_put T) .nil pass0 (pa_cons (pv 3) (pa_cons (pv 8) (pa_cons (pe_tup (pa_cons pe_str (pa_cons (pe_call (ok_pick T) hr1 rfl T.m_pick T.F_pick.kp (bd_pick T) .nil pass0 (pa_cons (pv 0) (pa_cons (pe_callB (EV.cLen (K := K) rfl) (by rfl) T.b_len (by decide +kernel) (pa_cons (pv 2) pa_nil)) pa_nil))) pa_nil))) pa_nil)))))))))))))), ?_⟩
    walk_at "r"
    refine ⟨D, _, t, rfl, rg.same, ht, by omega, fun H1 D1 v1 g1 hv1 hl1 hl0 hat1 => ?_⟩
    obtain ⟨wl, wvs, rfl, hwl, pw⟩ := hv1
    have gs1 := g1.toS rg hR
    have hwl1 := g1.gh _ _ hwl
    have hwvl := P2.len pw
    have ht1 := mTz.up g1.gg ht
    walk_at "r"
    intro kl hkl
    refine lc_list (xs := wvs) (fun i H' => ∃ ks : List V, Same H1 H' ∧ H' kl = some (.lst ks) ∧ (∀ v ∈ ks, KN D1 t v) ∧ ks.length ≤ i)
      ⟨[], Same.new (Same.refl _) hkl, upd_same, (fun _ h => by cases h), Nat.le_refl _⟩ (fun i H' _ ⟨_, s2, _⟩ => SqL.of (s2 _ _ hwl1)) ?_ ?_
    · rintro i x H2 hx ⟨ks, s12, ek2, hks, hkll⟩
      obtain ⟨⟨wy, tr⟩, hy, a, wv, r, rfl, ha, hwy, htr⟩ := P2.at' pw hx
      have hat := hat1 _ (List.mem_of_getElem? hy)
      have hi := (List.getElem?_eq_some_iff.mp hx).1
      have ha2 := s12 _ _ (g1.gh _ _ ha)
      cases tr with
      | leaf k' =>
        obtain ⟨tp, rfl, htp⟩ := htr.leaf_at
        have htp2 := s12 _ _ (g1.gh _ _ htp)
        walk_at "r"
        refine ite_f (by rfl) ?_
        exact ⟨ks, s12, ek2, hks, by omega⟩
      | knot d brs =>
        obtain ⟨tp, tq, bvs, rfl, htp, htq, pb⟩ := id htr.knot_at
        have htp2 := s12 _ _ (g1.gh _ _ htp)
        walk_at "r"
        refine ite_t (by rfl) ?_
        walk_at "r"
        refine ⟨ks, ek2, sz4' (by omega), ks ++ [.ref a], Same.mut s12 hkl, upd_same, ?_, by rw [List.length_append]; show _ + 1 ≤ _ + 1; omega⟩
        intro v hv
        rcases List.mem_append.mp hv with hv | hv
        · exact hks v hv
        · rw [List.mem_singleton] at hv
          subst hv
          exact ⟨wy, d, brs, ⟨a, wv, _, rfl, ha, hwy, htr⟩, hat⟩
    · rintro H2 ⟨ks, s12, ek2, hks, hkll⟩
      have gs2 : GrS s D H D1 H2 := gs1.sb (fun b o _ h => s12 b o h) (by obtain ⟨a1, a2, a3, e⟩ := gs1.rn; exact ⟨a1, a2, a3, s12 _ _ e⟩)
      have hwl2 := s12 _ _ hwl1
      walk_at "r"
      intro ll hll
      refine lc_list (xs := wvs) (fun i H' => ∃ ls : List V, Same H2 H' ∧ H' ll = some (.lst ls) ∧ (∀ v ∈ ls, LF D1 t v) ∧ ls.length ≤ i)
        ⟨[], Same.new (Same.refl _) hll, upd_same, (fun _ h => by cases h), Nat.le_refl _⟩ (fun i H' _ ⟨_, s2, _⟩ => SqL.of (s2 _ _ hwl2)) ?_ ?_
      · rintro i x H3 hx ⟨ls, s23, el3, hls, hlll⟩
        obtain ⟨⟨wy, tr⟩, hy, a, wv, r, rfl, ha, hwy, htr⟩ := P2.at' pw hx
        have hat := hat1 _ (List.mem_of_getElem? hy)
        have hi := (List.getElem?_eq_some_iff.mp hx).1
        have ha2 := s23 _ _ (s12 _ _ (g1.gh _ _ ha))
        cases tr with
        | leaf k' =>
          obtain ⟨tp, rfl, htp⟩ := id htr.leaf_at
          have htp2 := s23 _ _ (s12 _ _ (g1.gh _ _ htp))
          walk_at "r"
          refine ite_t (by rfl) ?_
          walk_at "r"
          refine ⟨ls, el3, sz4' (by omega), ls ++ [.ref a], Same.mut s23 hll, upd_same, ?_, by rw [List.length_append]; show _ + 1 ≤ _ + 1; omega⟩
          intro v hv
          rcases List.mem_append.mp hv with hv | hv
          · exact hls v hv
          · rw [List.mem_singleton] at hv
            subst hv
            exact ⟨wy, k', ⟨a, wv, _, rfl, ha, hwy, htr⟩, hat⟩
        | knot d brs =>
          obtain ⟨tp, tq, bvs, rfl, htp, htq, pb⟩ := htr.knot_at
          have htp2 := s23 _ _ (s12 _ _ (g1.gh _ _ htp))
          walk_at "r"
          refine ite_f (by rfl) ?_
          exact ⟨ls, s23, el3, hls, by omega⟩
      · rintro H3 ⟨ls, s23, el3, hls, hlll⟩
        have gs3 : GrS s D H D1 H3 := gs2.sb (fun b o _ h => s23 b o h) (by obtain ⟨a1, a2, a3, e⟩ := gs2.rn; exact ⟨a1, a2, a3, s23 _ _ e⟩)
        have hwl3 := s23 _ _ hwl2
        have ek3 := s23 _ _ ek2
        have nks : kl ≠ s := gs1.rn.ne hkl
        have nls : ll ≠ s := gs2.rn.ne hll
        have nws : wl ≠ s := gs1.rg.ne hwl
        walk_at "r"
        refine ⟨_, _, rfl, gs3.rn, by decide, fun H4 r sb4 hR4 r0 r1 => ?_⟩
        have gs4 := gs3.sb sb4 hR4
        have hwl4 := sb4 _ _ nws hwl3
        have ek4 := sb4 _ _ nks ek3
        have el4 := sb4 _ _ nls el3
        clear gs3 hwl3 ek3 el3 gs2 hwl2 ek2 gs1 hwl1 s23 s12 sb4
        walk_at "r"
        refine i_ifM (fun b H' => (b = true → ks ≠ []) ∧ H' = H4) ?_ ?_
        · walk_at "r"
          refine ite_b (fun _ => ?_) (fun _ => ?_)
          · walk_at "r"
            refine ⟨!ks.isEmpty, .inl ⟨_, SqL.of ek4, rfl⟩, ?_⟩
            refine ⟨fun h => ?_, rfl⟩
            rintro rfl
            cases h
          · exact ⟨fun h => (nomatch h), rfl⟩
        · rintro b H5 ⟨hb, rfl⟩
          refine ite_b (fun h => ?_) (fun h => ?_)
          · have hne := hb h
            walk_at "r"
            refine ⟨_, _, _, rfl, hR4, ek4, nks, List.length_pos_iff.mpr hne, by omega, fun H6 v6 sb6 hR6 hv6 => ?_⟩
            obtain ⟨wy, d, brs, ⟨a, wv, r6, rfl, ha, hwy, htr⟩, hat⟩ := hks _ hv6
            obtain ⟨np, nq, bvs, rfl, hnp, hnq, pb⟩ := htr.knot_at
            have gs6 := gs4.sb sb6 hR6
            have hle := hat.le
            rw [nn_knot] at hle
            have hbz := nnB_len brs
            have hbvl := P2.len pb
            have ha6 := gs6.rg.same _ _ ha
            have hnp6 := gs6.rg.same _ _ hnp
            have hnq6 := gs6.rg.same _ _ hnq
            walk_at "r"
            intro bl hbl
            have nbs : bl ≠ s := hR6.ne hbl
            have gs7 := gs6.tmp (o := .lst bvs) hbl
            have hnp7 := gs7.rg.same _ _ hnp
            have hnq7 := gs7.rg.same _ _ hnq
            have eb7 : upd H6 bl (.lst bvs) bl = some (.lst bvs) := upd_same
            have D1b : D1 bl = none := gs6.rg.free hbl
            have Hbn : H bl = none := by
              cases e : H bl with
              | none => rfl
              | some u =>
                rw [gs6.hh bl u nbs e] at hbl
                cases hbl
            generalize upd H6 bl (.lst bvs) = H7 at gs7 hnp7 hnq7 eb7 ⊢
            walk_at "r"
            refine ⟨_, _, rfl, gs7.rn, by omega, fun H8 r8 sb8 hR8 r80 r81 => ?_⟩
            have gs8 := gs7.sb sb8 hR8
            have hnp8 := gs8.rg.same _ _ hnp
            have eb8 := sb8 _ _ nbs eb7
            obtain ⟨r8, rfl⟩ : ∃ n : Nat, r8 = (n : Int) := ⟨r8.toNat, by omega⟩
            walk_at "r"
            refine i_mid (fun σ' H' => ∃ (b2 : Addr) (bvs2 : List V) (brs2 : List (Str × Tz)) (D2 : Hp) (v12 v13 v14 v15 v16 : Option V), σ' = [some (.ref s), some (.ref ml), some (.ref dl), some tv, some (.ref wl), some (.ref kl), some (.ref ll), some (.int r), some wv, some (.ref np), some (.ref b2), some (.int (r8 : Int)), v12, v13, v14, v15, v16] ∧
                GrS s D H D2 H' ∧ Same D1 D2 ∧ D2 b2 = none ∧ H b2 = none ∧ b2 ≠ s ∧ H' b2 = some (.lst bvs2) ∧ Paired (rBz D2) bvs2 brs2 ∧ nnB brs2 ≤ 3 * t.nn) ?_ ?_
            · have new : ∀ (H' : Hp) (b2 : Addr) (o : HO), Same H8 H' → H' b2 = none → GrS s D H D1 (upd H' b2 o) ∧ D1 b2 = none ∧ H b2 = none ∧ b2 ≠ s := by
                intro H' b2 o s8 hb2
                have g9 : GrS s D H D1 H' := gs8.sb (fun b o _ h => s8 b o h) (by obtain ⟨a1, a2, a3, e⟩ := gs8.rn; exact ⟨a1, a2, a3, s8 _ _ e⟩)
                have n2 := g9.rn.ne hb2
                refine ⟨g9.tmp hb2, g9.rg.free hb2, ?_, n2⟩
                cases e : H b2 with
                | none => rfl
                | some u =>
                  rw [g9.hh b2 u n2 e] at hb2
                  cases hb2
              walk_at "r"
              refine ite_b (fun _ => ?_) (fun _ => ?_)
              · walk_at "r"
                refine ⟨bl, _, rfl, SqL.of eb8, fun p9 hp9 => ?_⟩
                walk_at "r"
                refine ⟨bl, _, rfl, SqL.of (upd_old eb8 hp9), fun p10 hp10 => ?_⟩
                have pc1 := P2.cut pb none (some (r8 : Int))
                have pc2 := P2.cut pb (some ((r8 : Int) + 1)) none
                have l1 := P2.len pc1
                have l2 := P2.len pc2
                have b1 := nnB_len (cutG brs none (some (r8 : Int)))
                have b2 := nnB_len (cutG brs (some ((r8 : Int) + 1)) none)
                have n1 := nnB_cut brs none (some (r8 : Int))
                have n2 := nnB_cut brs (some ((r8 : Int) + 1)) none
                refine i_cat (upd_old upd_same hp10) upd_same (by omega) fun p11 hp11 => ?_
                obtain ⟨q1, q2, q3, q4⟩ := new _ p11 (.lst (cutV bvs none (some (r8 : Int)) ++ cutV bvs (some ((r8 : Int) + 1)) none)) (Same.new (Same.new (Same.refl _) hp9) hp10) hp11
                walk_at "r"
                exact ⟨p11, _, _, D1, _, _, _, _, _, rfl, q1, Same.refl _, q2, q3, q4, upd_same, P2.app pc1 pc2, by rw [nnB_app]; omega⟩
              · walk_at "r"
                refine ite_b (fun _ => ?_) (fun _ => ?_)
                · walk_at "r"
                  refine ⟨bl, _, rfl, SqL.of eb8, fun p9 hp9 => ?_⟩
                  have pc2 := P2.cut pb (some (r8 : Int)) (some ((r8 : Int) + 1))
                  have l2 := P2.len pc2
                  have b2 := nnB_len (cutG brs (some (r8 : Int)) (some ((r8 : Int) + 1)))
                  have n2 := nnB_cut brs (some (r8 : Int)) (some ((r8 : Int) + 1))
                  refine i_cat (upd_old eb8 hp9) upd_same (by omega) fun p11 hp11 => ?_
                  obtain ⟨q1, q2, q3, q4⟩ := new _ p11 (.lst (bvs ++ cutV bvs (some (r8 : Int)) (some ((r8 : Int) + 1)))) (Same.new (Same.refl _) hp9) hp11
                  walk_at "r"
                  exact ⟨p11, _, _, D1, _, _, _, _, _, rfl, q1, Same.refl _, q2, q3, q4, upd_same, P2.app pb pc2, by rw [nnB_app]; omega⟩
                · walk_at "r"
                  refine ite_b (fun _ => ?_) (fun _ => ?_)
                  · walk_at "r"
                    refine ⟨bl, _, rfl, SqL.of eb8, fun p9 hp9 => ?_⟩
                    walk_at "r"
                    refine ⟨bl, _, rfl, SqL.of (upd_old eb8 hp9), fun p10 hp10 => ?_⟩
                    have pc1 := P2.cut pb (some 1) none
                    have pc2 := P2.cut pb none (some 1)
                    have l1 := P2.len pc1
                    have l2 := P2.len pc2
                    have b1 := nnB_len (cutG brs (some 1) none)
                    have b2 := nnB_len (cutG brs none (some 1))
                    have n1 := nnB_cut brs (some 1) none
                    have n2 := nnB_cut brs none (some 1)
                    refine i_cat (upd_old upd_same hp10) upd_same (by omega) fun p11 hp11 => ?_
                    obtain ⟨q1, q2, q3, q4⟩ := new _ p11 (.lst (cutV bvs (some 1) none ++ cutV bvs none (some 1))) (Same.new (Same.new (Same.refl _) hp9) hp10) hp11
                    walk_at "r"
                    exact ⟨p11, _, _, D1, _, _, _, _, _, rfl, q1, Same.refl _, q2, q3, q4, upd_same, P2.app pc1 pc2, by rw [nnB_app]; omega⟩
                  · walk_at "r"
                    refine ⟨!bvs.isEmpty, .inl ⟨_, SqL.of eb8, rfl⟩, ?_⟩
                    refine ite_b (fun hb8 => ?_) (fun hb8 => ?_)
                    · have hbne : 0 < bvs.length := by
                        cases bvs with
                        | nil => cases hb8
                        | cons _ _ => exact Nat.succ_pos _
                      obtain ⟨bx, hbx⟩ : ∃ x, bvs[r8]? = some x := ⟨_, List.getElem?_eq_getElem (by omega)⟩
                      obtain ⟨xb, hxb, ba, bw, rfl, hba, hbt⟩ := P2.at' pb hbx
                      have hba8 := gs8.rg.same _ _ hba
                      walk_at "r"
                      refine i_ixL eb8 (atI_nat hbx) ?_
                      walk_at "r"
                      refine ⟨szb rfl, fun p9 hp9 => ?_⟩
                      walk_at "r"
                      refine i_set (upd_old eb8 hp9) (ixN_pos (by omega) (by omega)) ?_
                      rw [Int.toNat_natCast]
                      walk_at "r"
                      have g9 := gs8.new (o := .tup [.str (Str.ofString "no.value"), bw]) hp9
                      have n9 : bl ≠ p9 := ne_of_none eb8 hp9
                      have s9 : Same D1 (upd D1 p9 (.tup [.str (Str.ofString "no.value"), bw])) := same_add (gs8.rg.free hp9)
                      have D9b : upd D1 p9 (.tup [.str (Str.ofString "no.value"), bw]) bl = none := by rw [upd_ne n9]; exact D1b
                      have hset := nnB_set (y := ((Str.ofString "no.value"), xb.2)) hxb
                      replace hset : nnB (brs.set r8 ((Str.ofString "no.value"), xb.2)) + xb.2.nn = nnB brs + xb.2.nn := hset
                      exact ⟨bl, _, brs.set r8 ((Str.ofString "no.value"), xb.2), _, _, _, _, _, _, rfl, g9.mut Hbn D9b nbs.symm, s9, D9b, Hbn, nbs, upd_same, P2.setz (P2.mono pb fun _ _ h => mBz.up s9 h) ⟨p9, bw, rfl, upd_same, mTz.up s9 hbt⟩, by omega⟩
                    · walk_at "r"
                      exact ⟨bl, bvs, brs, D1, _, _, _, _, _, rfl, gs8, Same.refl _, D1b, Hbn, nbs, eb8, pb, by omega⟩
            · rintro σ H9 ⟨b2, bvs2, brs2, D2, v12, v13, v14, v15, v16, rfl, gs9, s12, D2b, Hb2, nb2, eb9, pb2, hn2⟩
              have hnp9 := gs9.rg.same _ _ (s12 _ _ hnp)
              walk_at "r"
              refine ⟨szb rfl, fun t10 ht10 => ?_⟩
              walk_at "r"
              have g10 := (gs9.add Hb2 D2b eb9 nb2.symm).new (o := .tup [.str (Str.ofString "knot"), .int d, .ref b2]) ht10
              have n10 : b2 ≠ t10 := ne_of_none eb9 ht10
              have s10 : Same D2 (upd (upd D2 b2 (.lst bvs2)) t10 (.tup [.str (Str.ofString "knot"), .int d, .ref b2])) := fun b o e => same_add ((gs9.add Hb2 D2b eb9 nb2.symm).rg.free ht10) _ _ (same_add D2b _ _ e)
              refine put_fin g10 (mTz.up (s12.trans s10) ht1) (mWay.up (s12.trans s10) hwy) (p := .knot d brs2) (rTz.mk upd_same (upd_oth n10 upd_same) (P2.mono pb2 fun _ _ h => mBz.up s10 h)) hat hN (by rw [nn_knot]; omega) k
          · walk_at "r"
            refine i_ifM (fun b H' => (b = true → ks ≠ []) ∧ H' = H5) ?_ ?_
            · walk_at "r"
              refine ite_b (fun _ => ?_) (fun _ => ?_)
              · walk_at "r"
                refine ⟨!ks.isEmpty, .inl ⟨_, SqL.of ek4, rfl⟩, ?_⟩
                refine ⟨fun h => ?_, rfl⟩
                rintro rfl
                cases h
              · exact ⟨fun h => (nomatch h), rfl⟩
            · rintro b H5 ⟨hb, rfl⟩
              refine ite_b (fun h => ?_) (fun h => ?_)
              · have hne := hb h
                walk_at "r"
                refine ⟨_, _, _, rfl, hR4, ek4, nks, List.length_pos_iff.mpr hne, by omega, fun H6 v6 sb6 hR6 hv6 => ?_⟩
                obtain ⟨wy, d, brs, ⟨a, wv, r6, rfl, ha, hwy, htr⟩, hat⟩ := hks _ hv6
                obtain ⟨np, nq, bvs, rfl, hnp, hnq, pb⟩ := htr.knot_at
                obtain ⟨wp, rfl, hwp⟩ := id hwy.at
                have gs6 := gs4.sb sb6 hR6
                have hle := hat.le
                rw [nn_knot] at hle
                have ha6 := gs6.rg.same _ _ ha
                have hnp6 := gs6.rg.same _ _ hnp
                have hwp6 := gs6.rg.same _ _ hwp
                walk_at "r"
                refine ⟨szb rfl, fun al hal => ?_⟩
                have nas : al ≠ s := hR6.ne hal
                have D1a : D1 al = none := gs6.rg.free hal
                have Han : H al = none := by
                  cases e : H al with
                  | none => rfl
                  | some u =>
                    rw [gs6.hh al u nas e] at hal
                    cases hal
                walk_at "r"
                refine for_tup (xs := nv wy) (fun i σ H' => ∃ (v10 v11 v14 v15 v16 : Option V) (nv' : V) (node : Tz) (avs : List V), σ = [some (.ref s), some (.ref ml), some (.ref dl), some tv, some (.ref wl), some (.ref kl), some (.ref ll), some (.int r), some (.ref wp), some (.ref np), v10, v11, some (.ref al), some nv', v14, v15, v16] ∧
                    GrS s D H D1 H' ∧ H' al = some (.lst avs) ∧ (∀ v ∈ avs, ∃ i : Int, v = .int i) ∧ avs.length = i ∧ rTz D1 nv' node ∧ At node (wy.drop i) (.knot d brs))
                  ⟨_, _, _, _, _, tv, t, [], rfl, gs6.tmp hal, upd_same, (fun _ h => by cases h), rfl, ht1, hat⟩ (fun i σ H' _ ⟨_, _, _, _, _, _, _, _, _, g, _⟩ => SqT.of (g.rg.same _ _ hwp)) ?_ ?_
                · rintro i x σ H7 hx ⟨v10, v11, v14, v15, v16, nv', node, avs, rfl, g7, ea7, hav, hal7, hnode, hat7⟩
                  rw [nv, List.getElem?_map] at hx
                  obtain ⟨kk, hkk, rfl⟩ := Option.map_eq_some_iff.mp hx
                  have hil := (List.getElem?_eq_some_iff.mp hkk).1
                  rw [drop_at hkk] at hat7
                  cases hat7 with
                  | @cons d2 brs2 _ xb _ _ hxb hat2 =>
                    obtain ⟨np2, nq2, bvs2, rfl, hnp2, hnq2, pb2⟩ := hnode.knot_at
                    obtain ⟨bx, hbx, ba, bw, rfl, hba, hbt⟩ := P2.at pb2 hxb
                    have hnp7 := g7.rg.same _ _ hnp2
                    walk_at "r"
                    refine i_app ea7 (sz4' (by omega)) ?_
                    have g8 := g7.mut (o := .lst (avs ++ [.int d2])) Han D1a nas.symm
                    have ea8 : upd H7 al (.lst (avs ++ [.int d2])) al = some (.lst (avs ++ [.int d2])) := upd_same
                    generalize upd H7 al (.lst (avs ++ [.int d2])) = H8 at g8 ea8 ⊢
                    have hnp8 := g8.rg.same _ _ hnp2
                    have hnq8 := g8.rg.same _ _ hnq2
                    have hba8 := g8.rg.same _ _ hba
                    walk_at "r"
                    refine i_ixL hnq8 (atI_nat hbx) ?_
                    walk_at "r"
                    exact ⟨_, _, _, _, _, bw, xb.2, _, rfl, g8, ea8, Int_of hav (fun v hv => ⟨d2, by simpa using hv⟩), by rw [List.length_append, hal7]; rfl, hbt, hat2⟩
                · rintro σ H7 ⟨v10, v11, v14, v15, v16, nv', node, avs, rfl, g7, ea7, hav, hal7, hnode, hat7⟩
                  rw [List.length_map] at hal7
                  have hml7 := g7.same _ _ hml
                  walk_at "r"
                  refine ⟨_, _, rfl, g7.rn, by omega, fun H8 r8 sb8 hR8 r80 r81 => ?_⟩
                  walk_at "r"
                  refine ⟨szb rfl, fun p9 hp9 => ?_⟩
                  have g8 := g7.sb sb8 hR8
                  have ea8 := sb8 _ _ nas ea7
                  refine i_cat (upd_old ea8 hp9) upd_same (by show avs.length + 5 ≤ _; omega) fun p10 hp10 => ?_
                  have g10 := (g8.tmp (o := .lst [.int (mvs.length : Int), .int (0 - 1), .int (0 - (mvs.length : Int)), .int ((mvs.length : Int) + 3), .int r8]) hp9).tmp (o := .lst (avs ++ [.int (mvs.length : Int), .int (0 - 1), .int (0 - (mvs.length : Int)), .int ((mvs.length : Int) + 3), .int r8])) hp10
                  walk_at "r"
                  refine ⟨_, _, _, rfl, g10.rn, upd_same, ((g8.tmp hp9).rn).ne hp10, by rw [List.length_append]; show 0 < avs.length + 5; omega, by rw [List.length_append]; show avs.length + 5 < _; omega, fun H11 v11' sb11 hR11 hv11 => ?_⟩
                  obtain ⟨iv, rfl⟩ : ∃ i : Int, v11' = .int i := by
                    refine Int_of hav (fun v hv => ?_) _ hv11
                    simp only [List.mem_cons, List.not_mem_nil, or_false] at hv
                    rcases hv with e | e | e | e | e <;> exact ⟨_, e⟩
                  have g11 := g10.sb sb11 hR11
                  have hnp11 := g11.rg.same _ _ hnp
                  walk_at "r"
                  refine ⟨szb rfl, fun t12 ht12 => ?_⟩
                  walk_at "r"
                  have g12 := g11.new (o := .tup [.str (Str.ofString "knot"), .int iv, .ref nq]) ht12
                  have s12 : Same D1 (upd D1 t12 (.tup [.str (Str.ofString "knot"), .int iv, .ref nq])) := same_add (g11.rg.free ht12)
                  exact put_fin g12 (mTz.up s12 ht1) (mWay.up s12 hwy) (p := .knot iv brs) (rTz.mk upd_same (s12 _ _ hnq) (P2.mono pb fun _ _ h => mBz.up s12 h)) hat hN (by rw [nn_knot]; omega) k
              · walk_at "r"
                refine i_ifM (fun b H' => (b = true → ls ≠ []) ∧ H' = H5) ?_ ?_
                · walk_at "r"
                  refine ite_b (fun _ => ?_) (fun _ => ?_)
                  · walk_at "r"
                    refine ⟨!ls.isEmpty, .inl ⟨_, SqL.of el4, rfl⟩, ?_⟩
                    refine ⟨fun h => ?_, rfl⟩
                    rintro rfl
                    cases h
                  · exact ⟨fun h => (nomatch h), rfl⟩
                · rintro b H5 ⟨hb, rfl⟩
                  refine ite_b (fun h => ?_) (fun h => ?_)
                  · have hne := hb h
                    walk_at "r"
                    refine ⟨_, _, _, rfl, hR4, el4, nls, List.length_pos_iff.mpr hne, by omega, fun H6 v6 sb6 hR6 hv6 => ?_⟩
                    obtain ⟨wy, k6, ⟨a, wv, r6, rfl, ha, hwy, htr⟩, hat⟩ := hls _ hv6
                    have gs6 := gs4.sb sb6 hR6
                    have ha6 := gs6.rg.same _ _ ha
                    have hdl6 := gs6.same _ _ hdl
                    walk_at "r"
                    refine i_lrg ?_
                    walk_at "r"
                    refine ⟨RgOk.of_le (by decide) (by omega) (by decide) (by omega), fun q3 hq3 => ?_⟩
                    have hdl7 := upd_old (o := .lst (rgV 0 (dvs.length : Int))) hdl6 hq3
                    have hrgl := rgV_length 0 (dvs.length : Int)
                    walk_at "r"
                    refine ⟨szb rfl, fun p9 hp9 => ?_⟩
                    refine i_cat (upd_old upd_same hp9) upd_same (by rw [hrgl]; show _ + 3 ≤ _; omega) fun p10 hp10 => ?_
                    have g10 := ((gs6.tmp (o := .lst (rgV 0 (dvs.length : Int))) hq3).tmp (o := .lst [.int (dvs.length : Int), .int (0 - 1), .int (0 - (dvs.length : Int))]) hp9).tmp (o := .lst (rgV 0 (dvs.length : Int) ++ [.int (dvs.length : Int), .int (0 - 1), .int (0 - (dvs.length : Int))])) hp10
                    walk_at "r"
                    refine ⟨_, _, _, rfl, g10.rn, upd_same, (((gs6.tmp hq3).tmp hp9).rn).ne hp10, by rw [List.length_append]; show 0 < _ + 3; omega, by rw [List.length_append, hrgl]; show _ + 3 < _; omega, fun H11 v11' sb11 hR11 hv11 => ?_⟩
                    obtain ⟨iv, rfl⟩ : ∃ i : Int, v11' = .int i := by
                      refine Int_of (fun v hv => ?_) (fun v hv => ?_) _ hv11
                      · unfold rgV at hv
                        obtain ⟨z, _, ez⟩ := List.mem_map.mp hv
                        exact ⟨_, ez.symm⟩
                      · simp only [List.mem_cons, List.not_mem_nil, or_false] at hv
                        rcases hv with e | e | e <;> exact ⟨_, e⟩
                    have g11 := g10.sb sb11 hR11
                    walk_at "r"
                    refine ⟨szb rfl, fun t12 ht12 => ?_⟩
                    walk_at "r"
                    have g12 := g11.new (o := .tup [.str (Str.ofString "leaf"), .int iv]) ht12
                    have s12 : Same D1 (upd D1 t12 (.tup [.str (Str.ofString "leaf"), .int iv])) := same_add (g11.rg.free ht12)
                    exact put_fin g12 (mTz.up s12 ht1) (mWay.up s12 hwy) (p := .leaf iv) (.leaf upd_same) hat hN (by rw [nn_leaf]; omega) k
                  · walk_at "r"
                    refine ⟨_, _, _, rfl, hR4, hwl4, nws, by omega, by omega, fun H6 v6 sb6 hR6 hv6 => ?_⟩
                    obtain ⟨⟨wy, tr⟩, hy, a, wv, r6, rfl, ha, hwy, htr⟩ := P2.mem pw hv6
                    have hat := hat1 _ hy
                    have gs6 := gs4.sb sb6 hR6
                    have ha6 := gs6.rg.same _ _ ha
                    have hdl6 := gs6.same _ _ hdl
                    walk_at "r"
                    refine ⟨_, _, rfl, gs6.rn, by omega, fun H8 r8 sb8 hR8 r80 r81 => ?_⟩
                    have g8 := gs6.sb sb8 hR8
                    walk_at "r"
                    refine ⟨szb rfl, fun t12 ht12 => ?_⟩
                    walk_at "r"
                    have g12 := g8.new (o := .tup [.str (Str.ofString "leaf"), .int r8]) ht12
                    have s12 : Same D1 (upd D1 t12 (.tup [.str (Str.ofString "leaf"), .int r8])) := same_add (g8.rg.free ht12)
                    exact put_fin g12 (mTz.up s12 ht1) (mWay.up s12 hwy) (p := .leaf r8) (.leaf upd_same) hat hN (by rw [nn_leaf]; omega) k
end
end K9
end
section
set_option Elab.async false
set_option maxRecDepth 100000
set_option maxHeartbeats 8000000
namespace K9
open PySem PySem.Spec L2 EV
def CPowB (i j : Int) : Prop := 0 ≤ j ∧ (Builtin.Int.intBits i : Int) * j ≤ 2 ^ 27
theorem op_powB {X : Cx} : OpR X (binaryOp .Pow) (rI CPowB fun i j => .int (i ^ j.toNat)) := opI fun _ _ _ _ _ _ _ hc q => PyProof.Rows.pow_int hc.1 hc.2 q
local macro_rules | `(tactic| walk_at "hp") => `(tactic| first | assumption | exact upd_same | (refine upd_old ?_ (by assumption); walk_at "hp") | (refine upd_oth (by first | assumption | (apply Ne.symm; assumption)) ?_; walk_at "hp"))
local macro_rules | `(tactic| walk_at "kb") => `(tactic| first | exact kb_NoneType_bool | exact kb_NoneType_int | exact kb_NoneType_str | exact kb_NoneType_dict | exact kb_NoneType_list | exact kb_NoneType_tuple | exact kb_bool_bool | exact kb_bool_int | exact kb_bool_str | exact kb_bool_dict | exact kb_bool_list | exact kb_bool_tuple | exact kb_int_bool | exact kb_int_int | exact kb_int_str | exact kb_int_dict | exact kb_int_list | exact kb_int_tuple | exact kb_str_bool | exact kb_str_int | exact kb_str_str | exact kb_str_dict | exact kb_str_list | exact kb_str_tuple | exact kb_list_bool | exact kb_list_int | exact kb_list_str | exact kb_list_dict | exact kb_list_list | exact kb_list_tuple | exact kb_tuple_bool | exact kb_tuple_int | exact kb_tuple_str | exact kb_tuple_dict | exact kb_tuple_list | exact kb_tuple_tuple)
local macro_rules | `(tactic| walk_at "ty") => `(tactic| first | exact tx_int | exact tx_str | exact tx_non | exact tx_bl | exact tx_lst (by walk_at "hp") | exact tx_tup (by walk_at "hp"))
local macro_rules | `(tactic| walk_at "r1") => `(tactic| first
  | ((with_reducible refine' i_var ?e1 ?_); (case e1 => rfl)) | with_reducible refine i_seq ?_ | with_reducible refine i_c ?_ | with_reducible refine i_op ?_ | with_reducible refine i_I0 ?_
  | with_reducible refine i_asg ?_ | with_reducible refine i_gname ?_ | with_reducible refine i_nil ?_ | with_reducible refine i_cons ?_ | with_reducible refine i_cb ?_ | with_reducible refine i_call ?_
  | with_reducible refine i_test ?_ | with_reducible refine i_tB ?_ | with_reducible refine i_bl ?_ | with_reducible refine i_int ?_ | with_reducible refine i_if ?_ | with_reducible refine i_ifx ?_
  | with_reducible refine i_ret ?_ | with_reducible refine i_retN ?_ | with_reducible refine i_drop ?_ | with_reducible refine i_next ?_ | with_reducible refine i_break ?_ | with_reducible refine i_cont ?_
  | with_reducible refine i_par ?_ | with_reducible refine i_par1 ?_ | with_reducible refine i_and ?_ | with_reducible refine i_or ?_ | with_reducible refine i_not ?_ | with_reducible refine i_truth ?_
  | with_reducible refine i_andV ?_ | with_reducible refine i_orV ?_ | with_reducible refine i_tup ?_ | with_reducible refine i_lst ?_ | with_reducible refine i_un ?_ | with_reducible refine i_U ?_
  | with_reducible refine i_bm ?_ | with_reducible refine i_bm0 ?_ | with_reducible refine i_sl ?_ | with_reducible refine i_nopart ?_ | with_reducible refine i_part ?_ | with_reducible refine i_fld ?_
  | with_reducible refine i_gsub ?_ | with_reducible refine i_gcons ?_ | with_reducible refine i_gnil ?_
  | ((with_reducible refine' i_eq ?e1 ?_); (case e1 => rfl)) | ((with_reducible refine' i_ne ?e1 ?_); (case e1 => rfl))
  | ((with_reducible refine' i_I ?e1 ?_); (case e1 => first | decide | exact .inr ⟨by decide, by decide⟩ | exact ⟨by decide, by decide⟩ | assumption))
  | ((with_reducible refine' i_ixL ?e1 ?e2 ?_); (case e1 => walk_at "hp"); (case e2 => first | rfl | assumption))
  | ((with_reducible refine' i_ixT ?e1 ?e2 ?_); (case e1 => walk_at "hp"); (case e2 => first | rfl | assumption))
  | ((with_reducible refine' i_len ?e1 ?_); (case e1 => walk_at "hp")) | ((with_reducible refine' i_lenT ?e1 ?_); (case e1 => walk_at "hp"))
  | ((with_reducible refine' i_gtup ?e1 ?e2 ?_); (case e1 => walk_at "hp"); (case e2 => rfl))
  | ((with_reducible refine' i_set ?e1 ?e2 ?_); (case e1 => walk_at "hp"); (case e2 => rfl))
  | with_reducible refine i_int1 ?_ | with_reducible refine i_abs1 ?_ | with_reducible refine i_max2 ?_ | with_reducible refine i_min2 ?_ | with_reducible refine i_non ?_ | with_reducible refine i_nnon ?_
  | with_reducible refine i_for ?_ | with_reducible refine i_irng1 ?_ | with_reducible refine i_ilist ?_ | with_reducible refine i_itup ?_ | with_reducible refine i_ienum ?_ | with_reducible refine i_irev ?_ | with_reducible refine i_izip ?_ | with_reducible refine i_lc ?_ | with_reducible refine i_yes ?_ | with_reducible refine i_notV ?_ | ((with_reducible refine' i_isi ?e1 ?e2 ?_); (case e1 => walk_at "ty"); (case e2 => walk_at "kb")) | with_reducible refine i_meth ?_ | with_reducible refine i_make ?_ | with_reducible refine i_din ?_ | with_reducible refine i_dni ?_ | with_reducible refine i_dget ?_ | with_reducible refine i_dcT ?_ | with_reducible refine i_sfld ?_ | with_reducible refine i_chain ?_ | ((with_reducible refine' i_tuple ?e1 ?_); (case e1 => walk_at "hp")) | ((with_reducible refine' i_list ?e1 ?_); (case e1 => walk_at "hp")) | with_reducible refine iteT ?_ | with_reducible refine iteF ?_ | with_reducible refine iteNF ?_ | with_reducible refine iteNT ?_
  | ((with_reducible refine' i_ilistE ?e1 ?_); (case e1 => walk_at "hp")) | ((with_reducible refine' i_itupE ?e1 ?_); (case e1 => walk_at "hp")) | ((with_reducible refine' i_ienumE ?e1 ?_); (case e1 => walk_at "hp")) | ((with_reducible refine' i_irevE ?e1 ?_); (case e1 => walk_at "hp"))
  | ((with_reducible refine' i_rng1 ?e1 ?_); (case e1 => first | omega | decide); (try with_reducible rw [Int.toNat_natCast]))
  | ((with_reducible refine' And.intro ?e1 ?_); (case e1 => first | exact i_ty (by walk_at "hp") | rfl)))
local macro_rules | `(tactic| walk_at "r") => `(tactic| repeat walk_at "r1")

section
variable {P : Program} {w : World} {K : PySem.W.Frag} {mg : Str → Option Value} {base : Heap}
def spSource : Sp := fun vs H Q _ => ∃ (a : Addr) (ns : List Int) (j : Nat), vs = [.ref a, .int (j : Int)] ∧ SqL K H a (ns.map V.int) ∧ ns.length ≤ 63 ∧ ∀ H' (s : Addr), Same H H' → H s = none → Rng H' s → Q (.ref s) H'
theorem ok_source (T : Txt K mg) : FnOk P w K mg base CX0 1 T.a_source T.fd_source ["script", "at"] (spSource (K := K)) := by
  refine T.F_source.ok sc_source (fun vs H Q E h => ?_) (fun cdv A outer s H vs Q E hr h => ?_)
  · obtain ⟨_, _, _, rfl, _⟩ := h; rfl
  · obtain ⟨a, ns, j, rfl, ha, hz, k⟩ := h
    refine ⟨_, (pss_cons (ps_setLc (i := 2) (own := [("x", 4)]) rfl sc_source.nd rfl rfl (sw_true rfl rfl rfl (by decide +kernel)) (EV.piL (K := K) rfl (pe_slice (EV.slL (K := K) rfl) (pv 0) po_none (po_some pe_int))) (blkOk_by (own := [("x", 4)]) (N := ["script", "at", "cells", "mix", "x", "own"]) (sc := defScope s_source) (by decide +kernel)) (fun _ _ _ _ _ => (pg_name (i := 4) sc_source.nd rfl (Or.inl rfl))) (fun _ _ _ _ _ => pts_nil) (fun _ _ _ _ _ => (pe_callTy EV.cInt (by rfl) T.b_int (by decide +kernel) (pa_cons (pv 4) pa_nil))))
    (pss_cons (ps_set (i := 3) sc_source.nd rfl (Or.inl rfl) (pe_op op_add pe_int (pe_op op_mul (pv 1) pe_int)))
    (pss_cons (ps_for PassesOwn.never rfl (EV.piL (K := K) rfl (pv 2)) (pg_name (i := 4) sc_source.nd rfl (Or.inl rfl))
      (pss_one (ps_if (pt_chain op_lt op_lt (pe_un un_neg (pe_op op_pow pe_int pe_int)) (pv 4) (pe_op op_pow pe_int pe_int))
        (pss_one (ps_set (i := 3) sc_source.nd rfl (Or.inl rfl) (pe_op op_mod (pe_op op_add (pe_op op_add (pe_op op_mul (pv 3) pe_int) (pe_op op_mod (pv 4) pe_int)) pe_int) pe_int)))
        pss_nil)))
    (pss_cons (ps_set (i := 5) sc_source.nd rfl (Or.inl rfl) (pe_ifExp (EV.ptTruth (K := K) rfl (pv 2)) (pe_callB EV.cAbs (by rfl) T.b_abs (by decide +kernel) (pa_cons (pe_ix (EV.ixL (K := K) rfl) (pv 2) (pe_op op_mod (pv 1) (pe_callB (EV.cLen (K := K) rfl) (by rfl) T.b_len (by decide +kernel) (pa_cons (pv 2) pa_nil))) (fun _ _ => rfl)) pa_nil)) pe_int))
    (pss_one (ps_ret (pe_lst (pa_cons (pe_ifExp (pt_cmpR op_ge (pv 5) (pe_op op_pow pe_int pe_int) (nomark _)) (pe_op op_mod (pv 5) (pe_op op_powB (pe_op op_pow pe_int pe_int) pe_int)) pe_int) (pa_cons (pv 3) (pa_cons (pe_op op_add (pv 1) pe_int) pa_nil)))))))))), ?_⟩
    walk_at "r"
    refine ⟨a, _, rfl, ha, fun p hp => ?_⟩
    obtain ⟨ns', hns, hns63⟩ : ∃ ns' : List Int, cutV (ns.map V.int) none (some 63) = ns'.map V.int ∧ ns'.length ≤ 63 := by
      have hl := cutV_length (ns.map V.int) none (some 63)
      rw [List.length_map] at hl
      refine ⟨(ns.drop (HT.sIx (ns.map V.int).length 0 none)).take (HT.sIx (ns.map V.int).length (ns.map V.int).length (some 63) - HT.sIx (ns.map V.int).length 0 none), ?_, ?_⟩
      · unfold cutV
        rw [← List.map_drop, ← List.map_take]
      · rw [List.length_take, List.length_drop]
        omega
    rw [hns]
    walk_at "r"
    have s1 : Same H (upd H p (.lst (ns'.map V.int))) := Same.new (Same.refl _) hp
    have hpp : upd H p (.lst (ns'.map V.int)) p = some (.lst (ns'.map V.int)) := upd_same
    generalize upd H p (.lst (ns'.map V.int)) = H1 at s1 hpp ⊢
    intro De hDe
    refine lc_mapL (S := rZ) (ys' := ns') mZ (Same.refl _) hpp (by simp) (by omega) hDe ?_ ?_
    · intro i v y G H2 hv hy g k2 hk2
      rw [List.getElem?_map, hy] at hv
      cases hv
      walk_at "r"
      exact hk2 _ G H2 (Grow.refl g.gh) rfl
    · intro H2 G acc g gd ed pa
      have ea : acc = ns'.map V.int := P2.eq_map pa
      subst ea
      have s2 : Same H H2 := fun b o e => g.hh _ _ (s1 _ _ e)
      have hDe0 : H De = none := s1.free hDe
      walk_at "r"
      refine for_list (xs := ns'.map V.int) (fun i σ H' => ∃ (mx : Int) (v4 v5 : Option V), σ = [some (.ref a), some (.int j), some (.ref De), some (.int mx), v4, v5] ∧ Same H2 H')
        ⟨_, _, _, rfl, Same.refl _⟩ (fun i σ H' _ ⟨_, _, _, _, s3⟩ => SqL.of (s3 _ _ ed)) ?_ ?_
      · rintro i x σ H3 hx ⟨mx, v4, v5, rfl, s3⟩
        rw [List.getElem?_map] at hx
        obtain ⟨z, hz, rfl⟩ := Option.map_eq_some_iff.mp hx
        walk_at "r"
        refine ite_b (fun h1 => ?_) (fun h1 => ?_)
        · walk_at "r"
          refine ite_b (fun h2 => ?_) (fun h2 => ?_)
          · walk_at "r"
            exact ⟨_, _, _, rfl, s3⟩
          · walk_at "r"
            exact ⟨_, _, _, rfl, s3⟩
        · walk_at "r"
          exact ⟨_, _, _, rfl, s3⟩
      · rintro σ H3 ⟨mx, v4, v5, rfl, s3⟩
        have ed3 := s3 _ _ ed
        have s4 : Same H H3 := s2.trans s3
        walk_at "r"
        refine ⟨_, .inl ⟨_, SqL.of ed3, rfl⟩, ?_⟩
        refine ite_b (fun h => ?_) (fun h => ?_)
        · have hq : (0 : Int) < ((ns'.map V.int).length : Nat) := by
            cases ns' with
            | nil => cases h
            | cons z t => simp
          walk_at "r"
          have hm0 := Int.emod_nonneg (j : Int) (Int.ne_of_gt hq)
          have hm1 := Int.emod_lt_of_pos (j : Int) hq
          have hm2 : ((j : Int) % ((ns'.map V.int).length : Nat)).toNat < ns'.length := by rw [List.length_map] at hm0 hm1 ⊢; omega
          refine i_ixL ed3 (atI_pos hm0 (v := .int ns'[((j : Int) % ((ns'.map V.int).length : Nat)).toNat]) (by rw [List.getElem?_map, List.getElem?_eq_getElem hm2]; rfl)) ?_
          walk_at "r"
          refine ite_b (fun h1 => ?_) (fun h1 => ?_)
          · walk_at "r"
            refine ⟨szb rfl, fun q hq => ?_⟩
            exact k _ q (Same.new s4 hq) (s4.free hq) ⟨_, _, _, upd_same⟩
          · walk_at "r"
            refine ⟨szb rfl, fun q hq => ?_⟩
            exact k _ q (Same.new s4 hq) (s4.free hq) ⟨_, _, _, upd_same⟩
        · walk_at "r"
          refine ite_b (fun h1 => ?_) (fun h1 => ?_)
          · walk_at "r"
            refine ⟨szb rfl, fun q hq => ?_⟩
            exact k _ q (Same.new s4 hq) (s4.free hq) ⟨_, _, _, upd_same⟩
          · walk_at "r"
            refine ⟨szb rfl, fun q hq => ?_⟩
            exact k _ q (Same.new s4 hq) (s4.free hq) ⟨_, _, _, upd_same⟩
end
end K9
end
section
set_option Elab.async false
set_option maxRecDepth 100000
set_option pp.maxSteps 2500
set_option maxHeartbeats 8000000
namespace K9
open PySem PySem.Spec L2 EV
def optD : Option Str → PyData
  | none => .none
  | some w => .str w
theorem optW.dat {H : Hp} (o : Option Str) : rDat H 12 (optW o) (optD o) := by
  cases o with
  | none => exact .non 11
  | some w => exact .str 11 w
theorem res_fault {ds : List Dem} {ms : List (List Str)} {t : Tz} {w : Str} (h : flt ds ms [] t = some w) : res ds ms [(t, [])] = some w := by
  have e := res_snoc ds ms [] (t, [])
  rw [List.nil_append] at e
  have h' : flt ds ms (t, ([] : Tl)).2 (t, ([] : Tl)).1 = some w := h
  rw [e, h']
theorem Small.size {n : Nat} {ms : List (List Str)} {ds : List Dem} (hn : n ≤ 7) (h : Small n ms ds) : SizeOk ms ds ∧ WF ms.length ds := by
  obtain ⟨h1, h2, h3, h4, h5⟩ := h
  exact ⟨⟨by omega, fun m hm => by have := h2 m hm; omega, by omega, fun d hd => by have := h4 d hd; omega⟩, by rw [h1]; exact h5⟩
theorem nb_le : ∀ n, n ≤ 5 → nb n ≤ 364
  | 0, _ => by decide
  | 1, _ => by decide
  | 2, _ => by decide
  | 3, _ => by decide
  | 4, _ => by decide
  | 5, _ => by decide
  | n + 6, h => by omega
theorem solve_none {C : Addr} {D H : Hp} {v : V} {ms : List (List Str)} {ds : List Dem} {Q : VK} {E : XK} (sD : Same D H) (hp : rProb C D v (ms, ds)) (wf : WF ms.length ds) (hz : SizeOk ms ds) (hs : sol ds [] ms = none) (k : ∀ H' D' v' t, Grow D H D' H' → Closed ds ms [] t → rClosed D' H v' t → Q v' H') : spSolve C [v] H Q E :=
  ⟨D, v, ms, ds, rfl, sD, hp, wf, hz, fun H' D' v' c g hs' hS => (by rw [hs] at hs'; cases hs'), k⟩
local macro_rules | `(tactic| walk_at "hp") => `(tactic| first | assumption | exact upd_same | (refine upd_old ?_ (by assumption); walk_at "hp") | (refine upd_oth (by first | assumption | (apply Ne.symm; assumption)) ?_; walk_at "hp"))
local macro_rules | `(tactic| walk_at "kb") => `(tactic| first | exact kb_NoneType_bool | exact kb_NoneType_int | exact kb_NoneType_str | exact kb_NoneType_dict | exact kb_NoneType_list | exact kb_NoneType_tuple | exact kb_bool_bool | exact kb_bool_int | exact kb_bool_str | exact kb_bool_dict | exact kb_bool_list | exact kb_bool_tuple | exact kb_int_bool | exact kb_int_int | exact kb_int_str | exact kb_int_dict | exact kb_int_list | exact kb_int_tuple | exact kb_str_bool | exact kb_str_int | exact kb_str_str | exact kb_str_dict | exact kb_str_list | exact kb_str_tuple | exact kb_list_bool | exact kb_list_int | exact kb_list_str | exact kb_list_dict | exact kb_list_list | exact kb_list_tuple | exact kb_tuple_bool | exact kb_tuple_int | exact kb_tuple_str | exact kb_tuple_dict | exact kb_tuple_list | exact kb_tuple_tuple)
local macro_rules | `(tactic| walk_at "ty") => `(tactic| first | exact tx_int | exact tx_str | exact tx_non | exact tx_bl | exact tx_lst (by walk_at "hp") | exact tx_tup (by walk_at "hp"))
local macro_rules | `(tactic| walk_at "r1") => `(tactic| first
  | ((with_reducible refine' i_var ?e1 ?_); (case e1 => rfl)) | with_reducible refine i_seq ?_ | with_reducible refine i_c ?_ | with_reducible refine i_op ?_ | with_reducible refine i_I0 ?_
  | with_reducible refine i_asg ?_ | with_reducible refine i_gname ?_ | with_reducible refine i_nil ?_ | with_reducible refine i_cons ?_ | with_reducible refine i_cb ?_ | with_reducible refine i_call ?_
  | with_reducible refine i_test ?_ | with_reducible refine i_tB ?_ | with_reducible refine i_bl ?_ | with_reducible refine i_int ?_ | with_reducible refine i_if ?_ | with_reducible refine i_ifx ?_
  | with_reducible refine i_ret ?_ | with_reducible refine i_retN ?_ | with_reducible refine i_drop ?_ | with_reducible refine i_next ?_ | with_reducible refine i_break ?_ | with_reducible refine i_cont ?_
  | with_reducible refine i_par ?_ | with_reducible refine i_par1 ?_ | with_reducible refine i_and ?_ | with_reducible refine i_or ?_ | with_reducible refine i_not ?_ | with_reducible refine i_truth ?_
  | with_reducible refine i_andV ?_ | with_reducible refine i_orV ?_ | with_reducible refine i_tup ?_ | with_reducible refine i_lst ?_ | with_reducible refine i_un ?_ | with_reducible refine i_U ?_
  | with_reducible refine i_bm ?_ | with_reducible refine i_bm0 ?_ | with_reducible refine i_sl ?_ | with_reducible refine i_nopart ?_ | with_reducible refine i_part ?_ | with_reducible refine i_fld ?_
  | with_reducible refine i_gsub ?_ | with_reducible refine i_gcons ?_ | with_reducible refine i_gnil ?_
  | ((with_reducible refine' i_eq ?e1 ?_); (case e1 => rfl)) | ((with_reducible refine' i_ne ?e1 ?_); (case e1 => rfl))
  | ((with_reducible refine' i_I ?e1 ?_); (case e1 => first | decide | exact .inr ⟨by decide, by decide⟩ | exact ⟨by decide, by decide⟩ | assumption))
  | ((with_reducible refine' i_ixL ?e1 ?e2 ?_); (case e1 => walk_at "hp"); (case e2 => first | rfl | assumption))
  | ((with_reducible refine' i_ixT ?e1 ?e2 ?_); (case e1 => walk_at "hp"); (case e2 => first | rfl | assumption))
  | ((with_reducible refine' i_len ?e1 ?_); (case e1 => walk_at "hp")) | ((with_reducible refine' i_lenT ?e1 ?_); (case e1 => walk_at "hp"))
  | ((with_reducible refine' i_gtup ?e1 ?e2 ?_); (case e1 => walk_at "hp"); (case e2 => rfl))
  | ((with_reducible refine' i_set ?e1 ?e2 ?_); (case e1 => walk_at "hp"); (case e2 => rfl))
  | with_reducible refine i_int1 ?_ | with_reducible refine i_abs1 ?_ | with_reducible refine i_max2 ?_ | with_reducible refine i_min2 ?_ | with_reducible refine i_non ?_ | with_reducible refine i_nnon ?_
  | with_reducible refine i_for ?_ | with_reducible refine i_irng1 ?_ | with_reducible refine i_ilist ?_ | with_reducible refine i_itup ?_ | with_reducible refine i_ienum ?_ | with_reducible refine i_irev ?_ | with_reducible refine i_izip ?_ | with_reducible refine i_lc ?_ | with_reducible refine i_yes ?_ | with_reducible refine i_notV ?_ | ((with_reducible refine' i_isi ?e1 ?e2 ?_); (case e1 => walk_at "ty"); (case e2 => walk_at "kb")) | with_reducible refine i_meth ?_ | with_reducible refine i_make ?_ | with_reducible refine i_din ?_ | with_reducible refine i_dni ?_ | with_reducible refine i_dget ?_ | with_reducible refine i_dcT ?_ | with_reducible refine i_sfld ?_ | with_reducible refine i_chain ?_ | ((with_reducible refine' i_tuple ?e1 ?_); (case e1 => walk_at "hp")) | ((with_reducible refine' i_list ?e1 ?_); (case e1 => walk_at "hp")) | with_reducible refine iteT ?_ | with_reducible refine iteF ?_ | with_reducible refine iteNF ?_ | with_reducible refine iteNT ?_
  | ((with_reducible refine' i_ilistE ?e1 ?_); (case e1 => walk_at "hp")) | ((with_reducible refine' i_itupE ?e1 ?_); (case e1 => walk_at "hp")) | ((with_reducible refine' i_ienumE ?e1 ?_); (case e1 => walk_at "hp")) | ((with_reducible refine' i_irevE ?e1 ?_); (case e1 => walk_at "hp"))
  | ((with_reducible refine' i_rng1 ?e1 ?_); (case e1 => first | omega | decide); (try with_reducible rw [Int.toNat_natCast]))
  | ((with_reducible refine' And.intro ?e1 ?_); (case e1 => first | exact i_ty (by walk_at "hp") | rfl)))
local macro_rules | `(tactic| walk_at "r") => `(tactic| repeat walk_at "r1")

section
variable {P : Program} {w : World} {K : PySem.W.Frag} {mg : Str → Option Value} {base : Heap}
def spLaw (K : PySem.W.Frag) : Sp := fun vs H Q _ => ∃ (a : Addr) (ns : List Int), vs = [.ref a] ∧ SqL K H a (ns.map V.int) ∧ ns.length ≤ 63 ∧ ∀ H', Q (.bl true) H'
theorem ok_law (T : Txt K mg) : FnOk P w K mg base CX0 13 T.a_law T.fd_law ["script"] (spLaw K) := by
  refine T.F_law.ok sc_law (fun vs H Q E h => ?_) (fun cdv A outer s0 H vs Q E hr h => ?_)
  · obtain ⟨_, _, rfl, _⟩ := h; rfl
  · obtain ⟨a, ns, rfl, hS, hns, k⟩ := h
    have hr1 : Room 1 _ := hr.mono (by decide); have hr2 : Room 2 _ := hr.mono (by decide); have hr3 : Room 3 _ := hr.mono (by decide); have hr4 : Room 4 _ := hr.mono (by decide); have hr8 : Room 8 _ := hr.mono (by decide); have hr12 : Room 12 _ := hr.mono (by decide)
    refine ⟨_, (pss_cons (ps_set (i := 1) sc_law.nd rfl (Or.inl rfl) (pe_call (ok_source T) hr1 rfl T.m_source T.F_source.kp (bd_source T) .nil pass0 (pa_cons (pv 0) (pa_cons pe_int pa_nil))))
    (pss_cons (ps_set (i := 2) sc_law.nd rfl (Or.inl rfl) (pe_call (ok_one T) hr2 rfl T.m_one T.F_one.kp (bd_one T) .nil pass0 (pa_cons (pv 1) (pa_cons (pe_lst (pa_cons pe_int (pa_cons pe_int (pa_cons pe_int (pa_cons pe_int (pa_cons pe_int (pa_cons pe_int (pa_cons pe_int pa_nil)))))))) pa_nil))))
    (pss_cons (ps_asg (pe_call (ok_c_problem T) hr4 rfl T.m_c_problem T.F_c_problem.kp (bd_c_problem T) .nil pass0 (pa_cons (pv 1) (pa_cons (pv 2) (pa_cons pe_int pa_nil)))) (EV.pgT (K := K) (n := 2) rfl rfl (pgs_cons (pg_name (i := 3) sc_law.nd rfl (Or.inl rfl)) (pgs_cons (pg_name (i := 4) sc_law.nd rfl (Or.inl rfl)) pgs_nil))))
    (pss_cons (ps_set (i := 5) sc_law.nd rfl (Or.inl rfl) (pe_callTy (EV.cList (K := K) rfl) (by rfl) T.b_list (by decide +kernel) (pa_cons (pv 4) pa_nil)))
    (pss_cons (ps_set (i := 4) sc_law.nd rfl (Or.inl rfl) (pe_call (ok_c_blocked T) hr3 rfl T.m_c_blocked T.F_c_blocked.kp (bd_c_blocked T) .nil pass0 (pa_cons (pv 1) (pa_cons (pv 3) (pa_cons (pv 4) pa_nil)))))
    (pss_cons (ps_set (i := 6) sc_law.nd rfl (Or.inl rfl) (pe_make T.mk_Problem (ok_Problem_init T) hr2 rfl T.mc_Problem (bd_Problem_init T) .nil pass0 (pa_cons (pe_lc (own := [("x", 14)]) rfl sc_law.nd (EV.piL (K := K) rfl (pv 3)) (blkOk_by (own := [("x", 14)]) (N := ["script", "s", "many", "menus", "demands", "open_demands", "problem", "tree", "trees", "one", "turn", "due", "flat", "other", "x"]) (sc := defScope s_law) (by decide +kernel)) (fun _ _ _ _ _ => (pg_name (i := 14) sc_law.nd rfl (Or.inl rfl))) (fun _ _ _ _ _ => pts_nil) (fun _ _ _ _ _ => (pe_callTy (EV.cList (K := K) rfl) (by rfl) T.b_list (by decide +kernel) (pa_cons (pv 14) pa_nil)))) (pa_cons (pe_call (ok_k10_copy T) hr1 rfl T.m_k10_copy T.F_k10_copy.kp (bd_k10_copy T) .nil pass0 (pa_cons (pv 4) pa_nil)) pa_nil))))
    (pss_cons (ps_set (i := 7) sc_law.nd rfl (Or.inl rfl) (pe_call (ok_c_tree T) hr8 rfl T.m_c_tree T.F_c_tree.kp (bd_c_tree T) .nil pass0 (pa_cons (pv 1) (pa_cons (pv 3) (pa_cons (pv 4) (pa_cons pe_dnewK (pa_cons (pv 2) pa_nil)))))))
    (pss_cons (ps_set (i := 8) sc_law.nd rfl (Or.inl rfl) (pe_lst (pa_cons (pv 7) (pa_cons (pe_ix (EV.ixT (K := K) rfl) (pe_call (ok_solve_problem T) hr3 rfl T.m_solve_problem T.F_solve_problem.kp (bd_solve_problem T) .nil pass0 (pa_cons (pv 6) pa_nil)) pe_int (fun _ _ => rfl)) (pa_cons (pe_call (ok_c_tree T) hr8 rfl T.m_c_tree T.F_c_tree.kp (bd_c_tree T) .nil pass0 (pa_cons (pv 1) (pa_cons (pv 3) (pa_cons (pv 4) (pa_cons pe_dnewK (pa_cons (pv 2) pa_nil)))))) pa_nil)))))
    (pss_cons (ps_for PassesOwn.never rfl (EV.piL (K := K) rfl (pv 8)) (pg_name (i := 9) sc_law.nd rfl (Or.inl rfl))
      (pss_one (EV.psIfM (PW.pt (pw_or (pt_cmpR EV.opNotN (pe_call (ok_judge_tree T) hr2 rfl T.m_judge_tree T.F_judge_tree.kp (bd_judge_tree T) .nil pass0 (pa_cons (pv 6) (pa_cons (pv 9) pa_nil))) pe_non (nomark _)) (pw_or1 (pt_cmpR EV.opNotN (pe_call (ok_c_judged T) hr1 rfl T.m_c_judged T.F_c_judged.kp (bd_c_judged T) .nil pass0 (pa_cons (pv 3) (pa_cons (pv 4) (pa_cons (pv 9) pa_nil)))) pe_non (nomark _)))))
        (pss_one (ps_ret pe_bl))
        pss_nil)))
    (pss_cons (ps_for PassesOwn.never rfl (pi_range1 rfl T.b_range (pa_cons pe_int pa_nil)) (pg_name (i := 10) sc_law.nd rfl (Or.inl rfl))
      (pss_cons (ps_set (i := 9) sc_law.nd rfl (Or.inl rfl) (pe_call (ok_k10_change T) hr3 rfl T.m_k10_change T.F_k10_change.kp (bd_k10_change T) .nil pass0 (pa_cons (pv 1) (pa_cons (pv 3) (pa_cons (pv 4) (pa_cons (pe_call (ok_one T) hr2 rfl T.m_one T.F_one.kp (bd_one T) .nil pass0 (pa_cons (pv 1) (pa_cons (pe_lst (pa_cons (pv 7) (pa_cons (pe_ix (EV.ixL (K := K) rfl) (pv 8) pe_int (fun _ _ => rfl)) pa_nil))) pa_nil))) pa_nil))))))
      (pss_cons (ps_par (i := 11) (j := 12) rfl sc_law.nd rfl rfl (by decide) rfl rfl (pa_cons (pe_call (ok_c_judged T) hr1 rfl T.m_c_judged T.F_c_judged.kp (bd_c_judged T) .nil pass0 (pa_cons (pv 3) (pa_cons (pv 4) (pa_cons (pv 9) pa_nil)))) (pa_cons (pe_call (ok_k10_flat T) hr2 rfl T.m_k10_flat T.F_k10_flat.kp (bd_k10_flat T) .nil pass0 (pa_cons (pv 9) pa_nil)) pa_nil)) (by rfl))
      (pss_one (EV.psIfM (PW.pt (pw_or (pt_not (pt_val (pe_call (ok_same T) hr12 rfl T.m_same T.F_same.kp (bd_same T) .nil pass0 (pa_cons (pe_call (ok_judge_tree T) hr2 rfl T.m_judge_tree T.F_judge_tree.kp (bd_judge_tree T) .nil pass0 (pa_cons (pv 6) (pa_cons (pv 9) pa_nil))) (pa_cons (pv 11) pa_nil))))) (pw_or1 (pt_not (pt_val (pe_call (ok_same T) hr12 rfl T.m_same T.F_same.kp (bd_same T) .nil pass0 (pa_cons (pe_call (ok_k10_flat T) hr2 rfl T.m_k10_flat T.F_k10_flat.kp (bd_k10_flat T) .nil pass0 (pa_cons (pv 9) pa_nil)) (pa_cons (pv 12) pa_nil))))))))
        (pss_one (ps_ret pe_bl))
        pss_nil)))))
    (pss_cons (EV.psIfM (PW.pt (pw_or (pt_not (pt_val (pe_call (ok_same T) hr12 rfl T.m_same T.F_same.kp (bd_same T) .nil pass0 (pa_cons (pe_call (ok_judge_tree T) hr2 rfl T.m_judge_tree T.F_judge_tree.kp (bd_judge_tree T) .nil pass0 (pa_cons (pv 6) (pa_cons (pe_tup (pa_cons pe_str (pa_cons (pe_callB (EV.cLen (K := K) rfl) (by rfl) T.b_len (by decide +kernel) (pa_cons (pv 4) pa_nil)) pa_nil))) pa_nil))) (pa_cons pe_str pa_nil))))) (pw_or1 (pt_not (pt_val (pe_call (ok_same T) hr12 rfl T.m_same T.F_same.kp (bd_same T) .nil pass0 (pa_cons (pe_call (ok_judge_tree T) hr2 rfl T.m_judge_tree T.F_judge_tree.kp (bd_judge_tree T) .nil pass0 (pa_cons (pv 6) (pa_cons (pe_tup (pa_cons pe_str (pa_cons (pe_op op_sub pe_int pe_int) (pa_cons (pe_lst pa_nil) pa_nil)))) pa_nil))) (pa_cons pe_str pa_nil))))))))
      (pss_one (ps_ret pe_bl))
      pss_nil)
    (EV.pssCut (ps_if (pt_cmpR op_lt (pe_callB (EV.cLen (K := K) rfl) (by rfl) T.b_len (by decide +kernel) (pa_cons (pv 5) pa_nil)) (pe_callB (EV.cLen (K := K) rfl) (by rfl) T.b_len (by decide +kernel) (pa_cons (pv 4) pa_nil)) (nomark _))
      (pss_cons (ps_set (i := 13) sc_law.nd rfl (Or.inl rfl) (pe_make T.mk_Problem (ok_Problem_init T) hr2 rfl T.mc_Problem (bd_Problem_init T) .nil pass0 (pa_cons (pe_lc (own := [("x", 14)]) rfl sc_law.nd (EV.piL (K := K) rfl (pv 3)) (blkOk_by (own := [("x", 14)]) (N := ["script", "s", "many", "menus", "demands", "open_demands", "problem", "tree", "trees", "one", "turn", "due", "flat", "other", "x"]) (sc := defScope s_law) (by decide +kernel)) (fun _ _ _ _ _ => (pg_name (i := 14) sc_law.nd rfl (Or.inl rfl))) (fun _ _ _ _ _ => pts_nil) (fun _ _ _ _ _ => (pe_callTy (EV.cList (K := K) rfl) (by rfl) T.b_list (by decide +kernel) (pa_cons (pv 14) pa_nil)))) (pa_cons (pe_call (ok_k10_copy T) hr1 rfl T.m_k10_copy T.F_k10_copy.kp (bd_k10_copy T) .nil pass0 (pa_cons (pv 5) pa_nil)) pa_nil))))
      (pss_one (EV.psIfM (PW.pt (pw_or (pt_not (pt_val (pe_call (ok_same T) hr12 rfl T.m_same T.F_same.kp (bd_same T) .nil pass0 (pa_cons (pe_call (ok_judge_tree T) hr2 rfl T.m_judge_tree T.F_judge_tree.kp (bd_judge_tree T) .nil pass0 (pa_cons (pv 13) (pa_cons (pv 7) pa_nil))) (pa_cons (pe_call (ok_c_judged T) hr1 rfl T.m_c_judged T.F_c_judged.kp (bd_c_judged T) .nil pass0 (pa_cons (pv 3) (pa_cons (pv 5) (pa_cons (pv 7) pa_nil)))) pa_nil))))) (pw_or1 (pt_cmpR EV.opIsN (pe_call (ok_judge_tree T) hr2 rfl T.m_judge_tree T.F_judge_tree.kp (bd_judge_tree T) .nil pass0 (pa_cons (pv 13) (pa_cons (pv 7) pa_nil))) pe_non (nomark _)))))
        (pss_one (ps_ret pe_bl))
        pss_nil)))
      pss_nil)
    (pss_one (ps_ret (pe_and (pe_cmpR EV.opIsN (pe_call (ok_judge_tree T) hr2 rfl T.m_judge_tree T.F_judge_tree.kp (bd_judge_tree T) .nil pass0 (pa_cons (pv 6) (pa_cons (pv 7) pa_nil))) pe_non (nomark _)) (pe_and (pe_call (ok_same T) hr12 rfl T.m_same T.F_same.kp (bd_same T) .nil pass0 (pa_cons (pe_meth0 (pv 6) T.cl_Problem T.mt_Problem_demands (ok_Problem_demands T) hr1 (bd_Problem_demands T) .nil pass0) (pa_cons (pv 4) pa_nil))) (pe_one (pe_call (ok_same T) hr12 rfl T.m_same T.F_same.kp (bd_same T) .nil pass0 (pa_cons (pe_meth0 (pv 6) T.cl_Problem T.mt_Problem_choices (ok_Problem_choices T) hr1 (bd_Problem_choices T) .nil pass0) (pa_cons (pv 3) pa_nil)))))))))))))))))))), ?_⟩
    walk_at "r"
    refine ⟨a, ns, 0, rfl, hS, hns, fun H1 s s1 hs0 hR1 => ?_⟩
    walk_at "r"
    refine ⟨szb rfl, fun p1 hp1 => ?_⟩
    walk_at "r"
    refine ⟨_, _, _, rfl, hR1.new hp1, upd_same, hR1.ne hp1, by decide, by decide, fun H2 v2 sb2 hR2 hv2 => ?_⟩
    obtain ⟨n, rfl, hn1, hn5⟩ : ∃ n : Nat, v2 = V.int n ∧ 1 ≤ n ∧ n ≤ 5 := by
      simp only [List.mem_cons, List.not_mem_nil, or_false] at hv2
      rcases hv2 with e | e | e | e | e | e | e <;> subst e <;> first | exact ⟨1, rfl, by decide, by decide⟩ | exact ⟨2, rfl, by decide, by decide⟩ | exact ⟨3, rfl, by decide, by decide⟩ | exact ⟨4, rfl, by decide, by decide⟩ | exact ⟨5, rfl, by decide, by decide⟩
    clear hv2 sb2
    walk_at "r"
    refine ⟨fun _ => none, fun _ => none, s, n, 6, rfl, ⟨fun _ _ e => (nomatch e), rfl⟩, hR2, fun _ _ _ e => (nomatch e), by omega, by decide, fun H3 D3 v3 ms ds rg3 _ hR3 _ hsm hd100 hp3 => ?_⟩
    obtain ⟨p3, mv, dv, rfl, hp3, ⟨hm, _⟩, ⟨hd, _⟩⟩ := hp3
    obtain ⟨dl, dvs, rfl, hdl, pd⟩ := hd
    have hp33 := rg3.same _ _ hp3
    have hdl3 := rg3.same _ _ hdl
    have hdvl := P2.len pd
    walk_at "r"
    intro ol hol
    walk_at "r"
    have ols : ol ≠ s := hR3.ne hol
    have rg4 := (rg3.new (o := .lst dvs) hol).add upd_same (rg3.free hol) ols
    have s34 : Same D3 (upd D3 ol (.lst dvs)) := same_add (rg3.free hol)
    have hR4 := hR3.new (o := .lst dvs) hol
    have hD4 : upd D3 ol (.lst dvs) ol = some (.lst dvs) := upd_same
    have hm4 : rMenus (upd D3 ol (.lst dvs)) mv ms := mMenus.up s34 (mono2 (fun _ _ _ h => h.1) hm)
    have pd4 : Paired (rDemF (fun _ => none) (upd D3 ol (.lst dvs))) dvs ds := P2.mono pd fun _ _ h => mDemF.up s34 h
    have hdl4 := s34 _ _ hdl
    generalize upd D3 ol (.lst dvs) = D4 at rg4 hD4 hm4 pd4 hdl4
    generalize upd H3 ol (.lst dvs) = H4 at rg4 hR4 ⊢
    clear s34 hm pd hdl hdl3 hp33 hp3 rg3 hR3 hol ols
    walk_at "r"
    refine ⟨fun _ => none, D4, s, mv, .ref dl, ms, ds, n, rfl, rg4, hR4, fun _ _ _ e => (nomatch e), hm4, ⟨dl, dvs, rfl, hdl4, pd4⟩, hsm, hd100, by omega, by omega, fun H5 D5 v5 ds' rg5 s45 hR5 _ hsm' hd5 hsol hor => ?_⟩
    obtain ⟨hd5, _⟩ := hd5
    have hm5 := mMenus.up s45 hm4
    have hd5 : rDems D5 v5 ds' := mono2 (fun _ _ _ h => h.dem) hd5
    have ho5 : rDems D5 (.ref ol) ds := ⟨ol, dvs, rfl, s45 _ _ hD4, P2.mono pd4 fun _ _ h => (mDemF.up s45 h).dem⟩
    clear hm4 pd4 hdl4 hD4 rg4 hR4 s45
    obtain ⟨hz, hwf⟩ := Small.size (by omega) hsm
    obtain ⟨hz', hwf'⟩ := Small.size (by omega) hsm'
    have hmn : ms.length = n := hsm.1
    obtain ⟨ml, mvs, rfl, hml, pm⟩ := id hm5
    have hmvl := P2.len pm
    have hml5 := rg5.same _ _ hml
    walk_at "r"
    intro L1 hL1
    refine lc_mapL (S := rStrs) (ys' := ms) mStrs rg5.same hml5 (P2.len pm) (by omega) hL1 ?_ ?_
    · intro i v y G H6 hv hy g k2 hk2
      obtain ⟨y', hy', hr1⟩ := P2.at' pm hv
      rw [hy] at hy'
      cases hy'
      obtain ⟨l, rfl, hl⟩ := hr1.at
      have hl1 := g.base _ _ hl
      walk_at "r"
      intro p hp
      exact hk2 _ _ _ ((Grow.refl g.gh).new hp) (rStrs.of upd_same)
    intro H6 G acc g gd ed pa
    have g6 := (g.add hL1 gd ed).toS rg5 hR5
    have hm6 : rMenus (upd G L1 (.lst acc)) (.ref L1) ms := ⟨L1, acc, rfl, upd_same, P2.mono pa fun _ _ h => mStrs.up (same_add gd) h⟩
    generalize upd G L1 (.lst acc) = D6 at g6 hm6
    walk_at "r"
    refine ⟨D6, _, ds', rfl, g6.rg.same, mDems.up g6.gg hd5, hz'.2.2.1, fun H7 v7 D7 g7 hd7 => ?_⟩
    have gs7 := g6.trans (g7.toS g6.rg g6.rn)
    obtain ⟨dl7, dvs7, rfl, hdl7, pd7⟩ := hd7
    walk_at "r"
    intro x dx hx hdx nx
    refine ⟨D7, H7, x, dx, _, _, ms, ds', rfl, rfl, hx, hdx, nx, gs7.rg.same, mMenus.up (g7.gg.trans gs7.rg.same) hm6, ⟨dl7, dvs7, rfl, gs7.rg.same _ _ hdl7, P2.mono pd7 fun _ _ h => rDemX.of gs7.rg.same h⟩, hz', fun H8 D8 g8 hpr => ⟨rfl, ?_⟩⟩
    have gs8 := gs7.trans (g8.toS gs7.rg gs7.rn)
    clear g6 g7 g8 gs7 hm6 pd7 hdl7 pa ed gd g
    walk_at "r"
    intro d9 hd9
    have gs9 := gs8.new (o := .dK []) hd9
    have s89 : Same D8 (upd D8 d9 (.dK [])) := same_add (gs8.rg.free hd9)
    have hT9 : rTl (upd D8 d9 (.dK [])) (.ref d9) [] := ⟨d9, [], rfl, upd_same, Nat.le_refl _, fun _ => rfl⟩
    have hpr9 := mProb.up s89 hpr
    generalize upd D8 d9 (.dK []) = D9 at gs9 hT9 hpr9
    generalize upd H8 d9 (.dK []) = H9 at gs9 ⊢
    clear gs8 hpr s89
    have hd3' : ∀ d ∈ ds', d.1.length ≤ 3 := fun d hd => (hsm'.2.2.2.1 d hd).1
    walk_at "r"
    refine ⟨D9, s, _, _, _, ms, ds', [], n, rfl, gs9.rg, gs9.rn, mMenus.up gs9.gg hm5, mDems.up gs9.gg hd5, hT9, ⟨List.nodup_nil, fun _ h => nomatch h⟩, by rw [hmn]; exact Nat.zero_add _, by omega, by omega, hsm.2.1, hsm'.2.2.1, hd3', hwf', hsol, fun H10 D10 v10 t1 g10 ht1 hgood1 hnn1 => ?_⟩
    have gs10 := gs9.trans g10
    have hpr10 := mProb.up g10.gg hpr9
    walk_at "r"
    refine solve_none gs10.rg.same hpr10 hwf' hz' hsol fun H11 D11 v11 t2 g11 hcl2 hC2 => ?_
    obtain ⟨cp, w2, rfl, hcp, htr2, _⟩ := hC2
    have gs11 := gs10.trans (g11.toS gs10.rg gs10.rn)
    have hcp11 := gs11.rg.same _ _ hcp
    have hgood2 := hcl2.good
    walk_at "r"
    intro d12 hd12
    have gs12 := gs11.new (o := .dK []) hd12
    have s12 : Same D11 (upd D11 d12 (.dK [])) := same_add (gs11.rg.free hd12)
    have hT12 : rTl (upd D11 d12 (.dK [])) (.ref d12) [] := ⟨d12, [], rfl, upd_same, Nat.le_refl _, fun _ => rfl⟩
    generalize upd D11 d12 (.dK []) = D12 at gs12 hT12 s12
    generalize upd H11 d12 (.dK []) = H12 at gs12 ⊢
    walk_at "r"
    refine ⟨D12, s, _, _, _, ms, ds', [], n, rfl, gs12.rg, gs12.rn, mMenus.up gs12.gg hm5, mDems.up gs12.gg hd5, hT12, ⟨List.nodup_nil, fun _ h => nomatch h⟩, by rw [hmn]; exact Nat.zero_add _, by omega, by omega, hsm.2.1, hsm'.2.2.1, hd3', hwf', hsol, fun H13 D13 v13 t3 g13 ht3 hgood3 hnn3 => ?_⟩
    have gs13 := gs12.trans g13
    walk_at "r"
    refine ⟨szb rfl, fun tl htl => ?_⟩
    walk_at "r"
    have s1013 : Same D10 D13 := g11.gg.trans (s12.trans g13.gg)
    have gs14 := gs13.new (o := .lst [v10, w2, v13]) htl
    have s1314 : Same D13 (upd D13 tl (.lst [v10, w2, v13])) := same_add (gs13.rg.free htl)
    have htl14 : upd D13 tl (.lst [v10, w2, v13]) tl = some (.lst [v10, w2, v13]) := upd_same
    have ht1' := mTz.up (s1013.trans s1314) ht1
    have ht2' := mTz.up (s12.trans (g13.gg.trans s1314)) htr2.z
    have ht3' := mTz.up s1314 ht3
    have hpr14 := mProb.up (s1013.trans s1314) hpr10
    generalize upd D13 tl (.lst [v10, w2, v13]) = D14 at gs14 htl14 ht1' ht2' ht3' hpr14
    generalize upd H13 tl (.lst [v10, w2, v13]) = H14 at gs14 ⊢
    clear gs9 gs10 gs11 gs12 gs13 g10 g11 g13 s12 s1013 s1314 hpr9 hpr10 hT9 hT12 hcp11 hcp htr2 ht1 ht3
    have hn364 := nb_le n hn5
    have hm14 := mMenus.up gs14.gg hm5
    have hd14 := mDems.up gs14.gg hd5
    have ho14 := mDems.up gs14.gg ho5
    have rg14 := gs14.rg
    have hR14 := gs14.rn
    have hfN : fN ms < 100000 := by
      have h1 := fN_bound ms hsm.2.1
      have h2 : 3 ^ (ms.length + 1) ≤ 3 ^ 8 := Nat.pow_le_pow_right (by decide) (by omega)
      have h3 : (3 : Nat) ^ 8 = 6561 := by decide
      omega
    clear gs14 hm5 hd5 ho5
    have hall : ∀ u ∈ [v10, w2, v13], ∃ t, rTz D14 u t ∧ Good ds' ms [] t ∧ t.nn < 100000 := by
      intro u hu
      simp only [List.mem_cons, List.not_mem_nil, or_false] at hu
      rcases hu with rfl | rfl | rfl
      · exact ⟨t1, ht1', hgood1, by omega⟩
      · exact ⟨t2.z, ht2', hgood2.1, Nat.lt_of_le_of_lt hgood2.2 hfN⟩
      · exact ⟨t3, ht3', hgood3, by omega⟩
    refine for_list (xs := [v10, w2, v13]) (fun i σ H' => ∃ (u9 u10 u11 u12 u13 u14 : Option V), σ = [some (.ref a), some (.ref s), some (.int (n : Int)), some (.ref ml), some v5, some (.ref ol), some (.ref x), some v10, some (.ref tl), u9, u10, u11, u12, u13, u14] ∧ Reg D14 H' s ∧ Rng H' s)
      ⟨_, _, _, _, _, _, rfl, rg14, hR14⟩ (fun i σ H' _ ⟨_, _, _, _, _, _, _, r, _⟩ => SqL.of (r.same _ _ htl14)) ?_ ?_
    · clear rg14 hR14
      rintro i u σ H15 hu ⟨u9, u10, u11, u12, u13, u14, rfl, rg, hR⟩
      obtain ⟨t, ht, hg, hn⟩ := hall u (List.mem_of_getElem? hu)
      have hres := res_one.mpr hg
      walk_at "r"
      refine i_ifM (fun b H' => b = false ∧ Same H15 H') ?_ ?_
      · walk_at "r"
        refine ⟨D14, _, _, ms, ds', t, rfl, rg.same, hpr14, hz', mTz.up rg.same ht, hn, fun H16 s16 => ?_⟩
        rw [hres]
        walk_at "r"
        refine ite_f (by rfl) ?_
        walk_at "r"
        refine ⟨_, _, _, ms, ds', t, rfl, mMenus.up (rg.same.trans s16) hm14, mDems.up (rg.same.trans s16) hd14, hz', mTz.up (rg.same.trans s16) ht, hn, fun H17 s17 => ?_⟩
        rw [hres]
        walk_at "r"
        first | exact s16.trans s17 | exact ⟨rfl, s16.trans s17⟩
      · rintro b H16 ⟨rfl, s16⟩
        refine ite_f rfl ?_
        walk_at "r"
        exact ⟨_, _, _, _, _, _, rfl, rg.sb (fun b o _ h => s16 b o h), by obtain ⟨a1, a2, a3, e⟩ := hR; exact ⟨a1, a2, a3, s16 _ _ e⟩⟩
    · clear rg14 hR14
      rintro σ H15 ⟨u9, u10, u11, u12, u13, u14, rfl, rg, hR⟩
      walk_at "r"
      refine for_range (n := 14) (fun i σ H' => ∃ (u9 u10 u11 u12 u13 u14 : Option V), σ = [some (.ref a), some (.ref s), some (.int (n : Int)), some (.ref ml), some v5, some (.ref ol), some (.ref x), some v10, some (.ref tl), u9, u10, u11, u12, u13, u14] ∧ Reg D14 H' s ∧ Rng H' s)
        ⟨_, _, _, _, _, _, rfl, rg, hR⟩ ?_ ?_
      · clear rg hR u9 u10 u11 u12 u13 u14
        rintro i σ H16 hi ⟨u9, u10, u11, u12, u13, u14, rfl, rg, hR⟩
        have htl16 := rg.same _ _ htl14
        walk_at "r"
        refine ⟨szb rfl, fun p17 hp17 => ?_⟩
        walk_at "r"
        refine ⟨_, _, _, rfl, hR.new hp17, upd_same, hR.ne hp17, by show 0 < 2; decide, by show 2 < _; decide, fun H18 v18 sb18 hR18 hv18 => ?_⟩
        have rg18 := (rg.new (o := .lst [v10, v13]) hp17).sb sb18
        obtain ⟨t, ht, hn⟩ : ∃ t, rTz D14 v18 t ∧ t.nn ≤ 1000 := by
          have hv18 : v18 = v10 ∨ v18 = v13 := by simpa using hv18
          rcases hv18 with rfl | rfl
          · exact ⟨t1, ht1', by omega⟩
          · exact ⟨t3, ht3', by omega⟩
        walk_at "r"
        refine ⟨D14, s, _, _, _, ms, ds', t, rfl, rg18, hR18, hm14, hd14, ht, hn, by omega, by have := hsm'.2.2.1; omega, fun H19 D19 v19 t19 g19 ht19 hn19 => ?_⟩
        have s19 := g19.rg.same
        have sD := g19.same
        have hR19 := g19.rn
        have hres : ∃ r, res ds' ms [(t19, [])] = r := ⟨_, rfl⟩
        obtain ⟨rs, hres⟩ := hres
        walk_at "r"
        refine ⟨_, _, _, ms, ds', t19, rfl, mMenus.up sD hm14, mDems.up sD hd14, hz', mTz.up s19 ht19, by omega, fun H20 s20 => ?_⟩
        rw [hres]
        walk_at "r"
        refine ⟨_, t19, rfl, mTz.up (s19.trans s20) ht19, by omega, fun H21 v21 s21 hv21 => ?_⟩
        walk_at "r"
        have sA : Same D14 H21 := sD.trans (s20.trans s21)
        have sB : Same D19 H21 := s19.trans (s20.trans s21)
        refine i_ifM (fun b H' => b = false ∧ Same H21 H') ?_ ?_
        · walk_at "r"
          refine ⟨D14, _, _, ms, ds', t19, rfl, sA, hpr14, hz', mTz.up sB ht19, by omega, fun H22 s22 => ?_⟩
          rw [hres]
          walk_at "r"
          refine ⟨_, _, _, rfl, optW.dat rs, optW.dat rs, fun H23 s23 => ?_⟩
          walk_at "r"
          refine ⟨_, t19, rfl, mTz.up (sB.trans (s22.trans s23)) ht19, by omega, fun H24 v24 s24 hv24 => ?_⟩
          walk_at "r"
          refine ⟨_, _, _, rfl, rDat.le hv24 (by decide), rDat.le (rDat.up (s22.trans (s23.trans s24)) hv21) (by decide), fun H25 s25 => ?_⟩
          walk_at "r"
          have sE : Same H21 H25 := s22.trans (s23.trans (s24.trans s25))
          first | exact sE | exact ⟨rfl, sE⟩
        · rintro b H22 ⟨rfl, s22⟩
          refine ite_f rfl ?_
          walk_at "r"
          have hR22 : Rng H22 s := by
            obtain ⟨a1, a2, a3, e⟩ := hR19
            exact ⟨a1, a2, a3, s22 _ _ (s21 _ _ (s20 _ _ e))⟩
          exact ⟨_, _, _, _, _, _, rfl, ⟨sA.trans s22, rg.out⟩, hR22⟩
      · clear rg hR u9 u10 u11 u12 u13 u14
        rintro σ H16 ⟨u9, u10, u11, u12, u13, u14, rfl, rg, hR⟩
        obtain ⟨dl5, dvs5, rfl, hdl5, pd5⟩ := id hd14
        have hdvl5 := P2.len pd5
        have hdl16 := rg.same _ _ hdl5
        walk_at "r"
        refine i_ifM (fun b H' => b = false ∧ Same H16 H') ?_ ?_
        · walk_at "r"
          refine ⟨szb rfl, fun p17 hp17 => ?_⟩
          walk_at "r"
          have s17 : Same H16 (upd H16 p17 (.tup [.str (Str.ofString "leaf"), .int (dvs5.length : Int)])) := Same.new (Same.refl _) hp17
          refine ⟨D14, _, _, ms, ds', .leaf (dvs5.length : Int), rfl, rg.same.trans s17, hpr14, hz', .leaf upd_same, by rw [nn_leaf]; decide, fun H18 s18 => ?_⟩
          have e1 : res ds' ms [(Tz.leaf (dvs5.length : Int), [])] = some wLeaf := by
            have : lfB ds' [] (dvs5.length : Int) = true := by
              unfold lfB
              rw [if_pos (by omega), List.getElem?_eq_none (by omega)]
            refine res_fault ?_
            rw [flt_leaf, this]
            rfl
          rw [e1]
          walk_at "r"
          refine ⟨_, _, _, rfl, optW.dat (some wLeaf), .str 11 _, fun H19 s19 => ?_⟩
          walk_at "r"
          refine ⟨szb rfl, fun p20 hp20 => ?_⟩
          walk_at "r"
          refine ⟨szb rfl, fun p21 hp21 => ?_⟩
          walk_at "r"
          have s21 : Same H19 (upd (upd H19 p20 (.lst [])) p21 (.tup [.str (Str.ofString "knot"), .int (0 - 1), .ref p20])) := Same.new (Same.new (Same.refl _) hp20) hp21
          have sA : Same H16 (upd (upd H19 p20 (.lst [])) p21 (.tup [.str (Str.ofString "knot"), .int (0 - 1), .ref p20])) := s17.trans (s18.trans (s19.trans s21))
          refine ⟨D14, _, _, ms, ds', .knot (0 - 1) [], rfl, rg.same.trans sA, hpr14, hz', rTz.mk upd_same (upd_old upd_same hp21) .nil, by rw [nn_knot, nnB_nil]; decide, fun H22 s22 => ?_⟩
          have e2 : res ds' ms [(Tz.knot (0 - 1) [], [])] = some wKnot := by
            refine res_fault ?_
            rw [flt_knot]
            rfl
          rw [e2]
          walk_at "r"
          refine ⟨_, _, _, rfl, optW.dat (some wKnot), .str 11 _, fun H23 s23 => ?_⟩
          walk_at "r"
          have sE : Same H16 H23 := sA.trans (s22.trans s23)
          first | exact sE | exact ⟨rfl, sE⟩
        · rintro b H17 ⟨rfl, s17⟩
          refine ite_f rfl ?_
          have rg17 := rg.sb (fun b o _ h => s17 b o h)
          have hR17 : Rng H17 s := by
            obtain ⟨a1, a2, a3, e⟩ := hR
            exact ⟨a1, a2, a3, s17 _ _ e⟩
          clear rg hR s17 hdl16
          obtain ⟨ol', ovs, e, hol14, po⟩ := id ho14
          cases e
          have hovl := P2.len po
          have hdl17 := rg17.same _ _ hdl5
          have hol17 := rg17.same _ _ hol14
          walk_at "r"
          refine i_mid (fun σ' H' => ∃ (u9 u10 u11 u12 u13 u14 : Option V), σ' = [some (.ref a), some (.ref s), some (.int (n : Int)), some (.ref ml), some (.ref dl5), some (.ref ol), some (.ref x), some v10, some (.ref tl), u9, u10, u11, u12, u13, u14] ∧ Reg D14 H' s) ?_ ?_
          · walk_at "r"
            refine ite_b (fun hlt => ?_) (fun _ => ?_)
            · have hlt := of_decide_eq_true hlt
              have hne : res ds ms [(t1, [])] ≠ none := by
                intro h
                have h2 := (res_one.mp h).none
                rcases hor with e | h3
                · rw [e] at hdvl5
                  omega
                · exact h3 h2
              obtain ⟨ml', mvs', e, hml14, pm14⟩ := id hm14
              cases e
              have hml17 := rg17.same _ _ hml14
              walk_at "r"
              intro L1 hL1
              refine lc_mapL (S := rStrs) (ys' := ms) mStrs rg17.same hml17 (P2.len pm14) (by omega) hL1 ?_ ?_
              · intro i v y G H6 hv hy g k2 hk2
                obtain ⟨y', hy', hr1⟩ := P2.at' pm14 hv
                rw [hy] at hy'
                cases hy'
                obtain ⟨l, rfl, hl⟩ := hr1.at
                have hl1 := g.base _ _ hl
                walk_at "r"
                intro p hp
                exact hk2 _ _ _ ((Grow.refl g.gh).new hp) (rStrs.of upd_same)
              intro H18 G acc g gd ed pa
              have g18 := (g.add hL1 gd ed).toS rg17 hR17
              have hm18 : rMenus (upd G L1 (.lst acc)) (.ref L1) ms := ⟨L1, acc, rfl, upd_same, P2.mono pa fun _ _ h => mStrs.up (same_add gd) h⟩
              generalize upd G L1 (.lst acc) = D18 at g18 hm18
              walk_at "r"
              refine ⟨D18, _, ds, rfl, g18.rg.same, mDems.up g18.gg ho14, hz.2.2.1, fun H19 v19 D19 g19 hd19 => ?_⟩
              have gs19 := g18.trans (g19.toS g18.rg g18.rn)
              obtain ⟨dl19, dvs19, rfl, hdl19, pd19⟩ := hd19
              walk_at "r"
              intro x2 dx2 hx2 hdx2 nx2
              refine ⟨D19, H19, x2, dx2, _, _, ms, ds, rfl, rfl, hx2, hdx2, nx2, gs19.rg.same, mMenus.up (g19.gg.trans gs19.rg.same) hm18, ⟨dl19, dvs19, rfl, gs19.rg.same _ _ hdl19, P2.mono pd19 fun _ _ h => rDemX.of gs19.rg.same h⟩, hz, fun H20 D20 g20 hpr20 => ⟨rfl, ?_⟩⟩
              have gs20 := gs19.trans (g20.toS gs19.rg gs19.rn)
              have s20 := gs20.same
              walk_at "r"
              refine i_ifM (fun b H' => b = false ∧ Same H20 H') ?_ ?_
              · walk_at "r"
                refine ⟨D20, _, _, ms, ds, t1, rfl, gs20.rg.same, hpr20, hz, mTz.up s20 ht1', by omega, fun H21 s21 => ?_⟩
                walk_at "r"
                refine ⟨_, _, _, ms, ds, t1, rfl, mMenus.up (s20.trans s21) hm14, mDems.up (s20.trans s21) ho14, hz, mTz.up (s20.trans s21) ht1', by omega, fun H22 s22 => ?_⟩
                walk_at "r"
                refine ⟨_, _, _, rfl, optW.dat _, optW.dat _, fun H23 s23 => ?_⟩
                have sA : Same H20 H23 := s21.trans (s22.trans s23)
                walk_at "r"
                refine ⟨D20, _, _, ms, ds, t1, rfl, gs20.rg.same.trans sA, hpr20, hz, mTz.up (s20.trans sA) ht1', by omega, fun H24 s24 => ?_⟩
                obtain ⟨w24, hw24⟩ := Option.ne_none_iff_exists'.mp hne
                rw [hw24]
                walk_at "r"
                have sE : Same H20 H24 := sA.trans s24
                first | exact sE | exact ⟨rfl, sE⟩
              · rintro b H21 ⟨rfl, s21⟩
                refine ite_f rfl ?_
                walk_at "r"
                exact ⟨_, _, _, _, _, _, rfl, ⟨s20.trans s21, rg17.out⟩⟩
            · walk_at "r"
              exact ⟨_, _, _, _, _, _, rfl, rg17⟩
          · rintro σ H18 ⟨u9, u10, u11, u12, u13, u14, rfl, rg18⟩
            obtain ⟨pa, pdx, pc, pd, e, hpa, hpdx, _, _⟩ := id hpr14
            cases e
            have hpa18 := rg18.same _ _ hpa
            walk_at "r"
            refine ⟨D14, _, _, ms, ds', t1, rfl, rg18.same, hpr14, hz', mTz.up rg18.same ht1', by omega, fun H19 s19 => ?_⟩
            rw [res_one.mpr hgood1]
            walk_at "r"
            refine ite_t (by rfl) ?_
            walk_at "r"
            refine ⟨_, _, _, rfl, s19 _ _ hpa18, pf_no (by decide +kernel) (by decide +kernel), ?_⟩
            refine ⟨D14, _, (ms, ds'), rfl, rg18.same.trans s19, hpr14, hz', fun H20 v20 D20 g20 hd20 => ?_⟩
            have okd : OkL (fun d : Dem => OkL (fun _ => True) d.1 ∧ OkL (OkL fun _ => True) d.2) ds' := ⟨hz'.2.2.1, fun d hd => ⟨⟨(hz'.2.2.2 d hd).1, fun _ _ => trivial⟩, (hz'.2.2.2 d hd).2, fun r hr => ⟨Nat.le_trans ((hsm'.2.2.2.1 d hd).2.2 r hr) (by decide), fun _ _ => trivial⟩⟩⟩
            have okm : OkL (OkL fun _ : Str => True) ms := ⟨hz'.1, fun m hm => ⟨hz'.2.1 m hm, fun _ _ => trivial⟩⟩
            have sA : Same D14 H20 := rg18.same.trans (s19.trans g20.hh)
            walk_at "r"
            refine ⟨_, _, _, rfl, (tDems H20 _ ds' okd (mDems.up g20.gh (mono2 (fun _ _ _ h => h.dem) hd20.1))).le (by decide), (tDems H20 _ ds' okd (mDems.up sA hd14)).le (by decide), fun H21 s21 => ?_⟩
            walk_at "r"
            refine ⟨_, _, _, rfl, s21 _ _ (g20.hh _ _ (s19 _ _ hpa18)), pf_no (by decide +kernel) (by decide +kernel), ?_⟩
            refine ⟨D14, _, (ms, ds'), rfl, sA.trans s21, hpr14, hz', fun H22 v22 D22 g22 hd22 => ?_⟩
            have sB : Same D14 H22 := (sA.trans s21).trans g22.hh
            walk_at "r"
            refine ⟨_, _, _, rfl, (tMenus H22 _ ms okm (mMenus.up g22.gh (mono2 (fun _ _ _ h => h.1) hd22.1))).le (by decide), (tMenus H22 _ ms okm (mMenus.up sB hm14)).le (by decide), fun H23 s23 => ?_⟩
            walk_at "r"
            exact k _
end
end K9
end
set_option Elab.async false
set_option maxRecDepth 100000
set_option maxHeartbeats 0
namespace K9
open PySem PySem.Spec PyProof.Rows L2
theorem fun_of {K : PySem.W.Frag} {x qual : Str} {st : Stmt} {f : Addr} {fd : FuncData} {kws : List (Str × V)} (F : FunD K x qual (defArgs st) (defBody st) (defScope st) [] kws f fd) : Fun K x qual st f fd := by
  obtain ⟨oc, od, dV, kV, doc, pm, an, cdv, ct, osl, e, l, c, hd, _⟩ := F.ex
  rcases hd with ⟨_, e2⟩ | ⟨e2, _⟩
  · subst e2
    exact ⟨⟨oc, od, kV, doc, pm, an, cdv, ct, osl, e, l, c⟩, F.kp⟩
  · exact absurd rfl e2
def d_Problem_init : He.DefD := ⟨("Problem", some "__init__"), "__init__", "Problem.__init__", defArgs s_Problem_init, defBody s_Problem_init, defScope s_Problem_init, [], []⟩
def d_Problem_choices : He.DefD := ⟨("Problem", some "choices"), "choices", "Problem.choices", defArgs s_Problem_choices, defBody s_Problem_choices, defScope s_Problem_choices, [], []⟩
def d_Problem_demands : He.DefD := ⟨("Problem", some "demands"), "demands", "Problem.demands", defArgs s_Problem_demands, defBody s_Problem_demands, defScope s_Problem_demands, [], []⟩
def d_knot_fault : He.DefD := ⟨("knot_fault", none), "knot_fault", "knot_fault", defArgs s_knot_fault, defBody s_knot_fault, defScope s_knot_fault, [], []⟩
def d_leaf_fault : He.DefD := ⟨("leaf_fault", none), "leaf_fault", "leaf_fault", defArgs s_leaf_fault, defBody s_leaf_fault, defScope s_leaf_fault, [], []⟩
def d_judge_tree : He.DefD := ⟨("judge_tree", none), "judge_tree", "judge_tree", defArgs s_judge_tree, defBody s_judge_tree, defScope s_judge_tree, [], []⟩
def d_due_demands : He.DefD := ⟨("due_demands", none), "due_demands", "due_demands", defArgs s_due_demands, defBody s_due_demands, defScope s_due_demands, [], []⟩
def d_first_broken : He.DefD := ⟨("first_broken", none), "first_broken", "first_broken", defArgs s_first_broken, defBody s_first_broken, defScope s_first_broken, [], []⟩
def d_search_tree : He.DefD := ⟨("search_tree", none), "search_tree", "search_tree", defArgs s_search_tree, defBody s_search_tree, defScope s_search_tree, [], []⟩
def d_solve_problem : He.DefD := ⟨("solve_problem", none), "solve_problem", "solve_problem", defArgs s_solve_problem, defBody s_solve_problem, defScope s_solve_problem, [], []⟩
def d_source : He.DefD := ⟨("_law_source", none), "_law_source", "_law_source", defArgs s_source, defBody s_source, defScope s_source, [], []⟩
def d_pick : He.DefD := ⟨("_law_pick", none), "_law_pick", "_law_pick", defArgs s_pick, defBody s_pick, defScope s_pick, [], []⟩
def d_one : He.DefD := ⟨("_law_one", none), "_law_one", "_law_one", defArgs s_one, defBody s_one, defScope s_one, [], []⟩
def d_shuffled : He.DefD := ⟨("_law_shuffled", none), "_law_shuffled", "_law_shuffled", defArgs s_shuffled, defBody s_shuffled, defScope s_shuffled, [], []⟩
def d_name : He.DefD := ⟨("_law_name", none), "_law_name", "_law_name", defArgs s_name, defBody s_name, defScope s_name, [], []⟩
def d_product : He.DefD := ⟨("_law_product", none), "_law_product", "_law_product", defArgs s_product, defBody s_product, defScope s_product, [], []⟩
def d_half : He.DefD := ⟨("_law_half", none), "_law_half", "_law_half", defArgs s_half, defBody s_half, defScope s_half, [.int 1, .int 2], []⟩
def d_same : He.DefD := ⟨("_law_same", none), "_law_same", "_law_same", defArgs s_same, defBody s_same, defScope s_same, [], []⟩
def d_c_least : He.DefD := ⟨("_law_c_least", none), "_law_c_least", "_law_c_least", defArgs s_c_least, defBody s_c_least, defScope s_c_least, [], []⟩
def d_c_first : He.DefD := ⟨("_law_c_first", none), "_law_c_first", "_law_c_first", defArgs s_c_first, defBody s_c_first, defScope s_c_first, [], []⟩
def d_c_problem : He.DefD := ⟨("_law_c_problem", none), "_law_c_problem", "_law_c_problem", defArgs s_c_problem, defBody s_c_problem, defScope s_c_problem, [], []⟩
def d_c_blocked : He.DefD := ⟨("_law_c_blocked", none), "_law_c_blocked", "_law_c_blocked", defArgs s_c_blocked, defBody s_c_blocked, defScope s_c_blocked, [], []⟩
def d_c_tree : He.DefD := ⟨("_law_c_tree", none), "_law_c_tree", "_law_c_tree", defArgs s_c_tree, defBody s_c_tree, defScope s_c_tree, [], []⟩
def d_c_judged : He.DefD := ⟨("_law_c_judged", none), "_law_c_judged", "_law_c_judged", defArgs s_c_judged, defBody s_c_judged, defScope s_c_judged, [], []⟩
def d_c_knots : He.DefD := ⟨("_law_c_knots", none), "_law_c_knots", "_law_c_knots", defArgs s_c_knots, defBody s_c_knots, defScope s_c_knots, [], []⟩
def d_c_put : He.DefD := ⟨("_law_c_put", none), "_law_c_put", "_law_c_put", defArgs s_c_put, defBody s_c_put, defScope s_c_put, [], []⟩
def d_k10_change : He.DefD := ⟨("_law_k10_change", none), "_law_k10_change", "_law_k10_change", defArgs s_k10_change, defBody s_k10_change, defScope s_k10_change, [], []⟩
def d_k10_copy : He.DefD := ⟨("_law_k10_copy", none), "_law_k10_copy", "_law_k10_copy", defArgs s_k10_copy, defBody s_k10_copy, defScope s_k10_copy, [], []⟩
def d_k10_flat : He.DefD := ⟨("_law_k10_flat", none), "_law_k10_flat", "_law_k10_flat", defArgs s_k10_flat, defBody s_k10_flat, defScope s_k10_flat, [], []⟩
def d_law : He.DefD := ⟨("law", none), "law", "law", defArgs s_law, defBody s_law, defScope s_law, [], []⟩
def fn : List He.DefD := [d_Problem_init, d_Problem_choices, d_Problem_demands, d_knot_fault, d_leaf_fault, d_judge_tree, d_due_demands, d_first_broken, d_search_tree, d_solve_problem, d_source, d_pick, d_one, d_shuffled, d_name, d_product, d_half, d_same, d_c_least, d_c_first, d_c_problem, d_c_blocked, d_c_tree, d_c_judged, d_c_knots, d_c_put, d_k10_change, d_k10_copy, d_k10_flat, d_law]
def fa : List He.Fa := [.glo "knot_fault", .glo "leaf_fault", .glo "judge_tree", .glo "due_demands", .glo "first_broken", .glo "search_tree", .glo "solve_problem", .glo "_law_source", .glo "_law_pick", .glo "_law_one", .glo "_law_shuffled", .glo "_law_name", .glo "_law_product", .glo "_law_half", .glo "_law_same", .glo "_law_c_least", .glo "_law_c_first", .glo "_law_c_problem", .glo "_law_c_blocked", .glo "_law_c_tree", .glo "_law_c_judged", .glo "_law_c_knots", .glo "_law_c_put", .glo "_law_k10_change", .glo "_law_k10_copy", .glo "_law_k10_flat", .glo "law", .cls "Problem", .glo "Problem", .mkr "Problem", .meth "Problem" "choices", .meth "Problem" "demands", .noat "Problem" "_choices", .noat "Problem" "_demands", .free "abs", .free "all", .free "bool", .free "dict", .free "enumerate", .free "int", .free "isinstance", .free "len", .free "list", .free "max", .free "min", .free "range", .free "reversed", .free "str", .free "tuple", .free "zip"]
abbrev Rw : PySem.W.OpenRow := PySem.W.OpenLaw.row PySem.Challenge.rw_everychoir_k10_closed_trees_judged
abbrev hkE : PySem.W.Hook := He.hookD 5 fa fn
def obE (s : PySem.W.SharedT) : He.AlD := He.obsDG 5 fa fn (HandSHeadRun.getT s)
theorem obE_eq (s : PySem.W.SharedT) : obE s = hkE.obs s.abs := He.obsDG_eq (HandSHeadRun.getT_eq s)
def namesE : List PySem.Str := (["knot_fault", "leaf_fault", "judge_tree", "due_demands", "first_broken", "search_tree", "solve_problem", "_law_source", "_law_pick", "_law_one", "_law_shuffled", "_law_name", "_law_product", "_law_half", "_law_same", "_law_c_least", "_law_c_first", "_law_c_problem", "_law_c_blocked", "_law_c_tree", "_law_c_judged", "_law_c_knots", "_law_c_put", "_law_k10_change", "_law_k10_copy", "_law_k10_flat", "Problem"] : List PySem.Str)
theorem runE (w : World) : HandSHeadRun.RunEq Rw (PySem.W.view Rw.prog [30]) hkE obE 6000 namesE w := by
  intro os
  kernel_rfl
theorem mk_txt {K : PySem.W.Frag} {h : Heap} {mg : Str → Option Value} (X : K.In h) (G : h.Ns mainGlobals mg) (c : He.SaysD fa fn K) : ∃ T : Txt K mg, T.a_law = He.ga K "law" := by
  obtain ⟨fd0, F0⟩ := c.def_ 0 (d := d_Problem_init) rfl
  obtain ⟨fd1, F1⟩ := c.def_ 1 (d := d_Problem_choices) rfl
  obtain ⟨fd2, F2⟩ := c.def_ 2 (d := d_Problem_demands) rfl
  obtain ⟨fd3, F3⟩ := c.def_ 3 (d := d_knot_fault) rfl
  obtain ⟨fd4, F4⟩ := c.def_ 4 (d := d_leaf_fault) rfl
  obtain ⟨fd5, F5⟩ := c.def_ 5 (d := d_judge_tree) rfl
  obtain ⟨fd6, F6⟩ := c.def_ 6 (d := d_due_demands) rfl
  obtain ⟨fd7, F7⟩ := c.def_ 7 (d := d_first_broken) rfl
  obtain ⟨fd8, F8⟩ := c.def_ 8 (d := d_search_tree) rfl
  obtain ⟨fd9, F9⟩ := c.def_ 9 (d := d_solve_problem) rfl
  obtain ⟨fd10, F10⟩ := c.def_ 10 (d := d_source) rfl
  obtain ⟨fd11, F11⟩ := c.def_ 11 (d := d_pick) rfl
  obtain ⟨fd12, F12⟩ := c.def_ 12 (d := d_one) rfl
  obtain ⟨fd13, F13⟩ := c.def_ 13 (d := d_shuffled) rfl
  obtain ⟨fd14, F14⟩ := c.def_ 14 (d := d_name) rfl
  obtain ⟨fd15, F15⟩ := c.def_ 15 (d := d_product) rfl
  obtain ⟨fd16, F16⟩ := c.def_ 16 (d := d_half) rfl
  obtain ⟨fd17, F17⟩ := c.def_ 17 (d := d_same) rfl
  obtain ⟨fd18, F18⟩ := c.def_ 18 (d := d_c_least) rfl
  obtain ⟨fd19, F19⟩ := c.def_ 19 (d := d_c_first) rfl
  obtain ⟨fd20, F20⟩ := c.def_ 20 (d := d_c_problem) rfl
  obtain ⟨fd21, F21⟩ := c.def_ 21 (d := d_c_blocked) rfl
  obtain ⟨fd22, F22⟩ := c.def_ 22 (d := d_c_tree) rfl
  obtain ⟨fd23, F23⟩ := c.def_ 23 (d := d_c_judged) rfl
  obtain ⟨fd24, F24⟩ := c.def_ 24 (d := d_c_knots) rfl
  obtain ⟨fd25, F25⟩ := c.def_ 25 (d := d_c_put) rfl
  obtain ⟨fd26, F26⟩ := c.def_ 26 (d := d_k10_change) rfl
  obtain ⟨fd27, F27⟩ := c.def_ 27 (d := d_k10_copy) rfl
  obtain ⟨fd28, F28⟩ := c.def_ 28 (d := d_k10_flat) rfl
  obtain ⟨fd29, F29⟩ := c.def_ 29 (d := d_law) rfl
  exact ⟨{ a_Problem_init := He.fAd K d_Problem_init.at_, fd_Problem_init := fd0, F_Problem_init := fun_of F0, a_Problem_choices := He.fAd K d_Problem_choices.at_, fd_Problem_choices := fd1, F_Problem_choices := fun_of F1, a_Problem_demands := He.fAd K d_Problem_demands.at_, fd_Problem_demands := fd2, F_Problem_demands := fun_of F2, a_knot_fault := He.fAd K d_knot_fault.at_, fd_knot_fault := fd3, F_knot_fault := fun_of F3, m_knot_fault := He.glo_ok X G (c.fact 0 (f := .glo "knot_fault") rfl), a_leaf_fault := He.fAd K d_leaf_fault.at_, fd_leaf_fault := fd4, F_leaf_fault := fun_of F4, m_leaf_fault := He.glo_ok X G (c.fact 1 (f := .glo "leaf_fault") rfl), a_judge_tree := He.fAd K d_judge_tree.at_, fd_judge_tree := fd5, F_judge_tree := fun_of F5, m_judge_tree := He.glo_ok X G (c.fact 2 (f := .glo "judge_tree") rfl), a_due_demands := He.fAd K d_due_demands.at_, fd_due_demands := fd6, F_due_demands := fun_of F6, m_due_demands := He.glo_ok X G (c.fact 3 (f := .glo "due_demands") rfl), a_first_broken := He.fAd K d_first_broken.at_, fd_first_broken := fd7, F_first_broken := fun_of F7, m_first_broken := He.glo_ok X G (c.fact 4 (f := .glo "first_broken") rfl), a_search_tree := He.fAd K d_search_tree.at_, fd_search_tree := fd8, F_search_tree := fun_of F8, m_search_tree := He.glo_ok X G (c.fact 5 (f := .glo "search_tree") rfl), a_solve_problem := He.fAd K d_solve_problem.at_, fd_solve_problem := fd9, F_solve_problem := fun_of F9, m_solve_problem := He.glo_ok X G (c.fact 6 (f := .glo "solve_problem") rfl), a_source := He.fAd K d_source.at_, fd_source := fd10, F_source := fun_of F10, m_source := He.glo_ok X G (c.fact 7 (f := .glo "_law_source") rfl), a_pick := He.fAd K d_pick.at_, fd_pick := fd11, F_pick := fun_of F11, m_pick := He.glo_ok X G (c.fact 8 (f := .glo "_law_pick") rfl), a_one := He.fAd K d_one.at_, fd_one := fd12, F_one := fun_of F12, m_one := He.glo_ok X G (c.fact 9 (f := .glo "_law_one") rfl), a_shuffled := He.fAd K d_shuffled.at_, fd_shuffled := fd13, F_shuffled := fun_of F13, m_shuffled := He.glo_ok X G (c.fact 10 (f := .glo "_law_shuffled") rfl), a_name := He.fAd K d_name.at_, fd_name := fd14, F_name := fun_of F14, m_name := He.glo_ok X G (c.fact 11 (f := .glo "_law_name") rfl), a_product := He.fAd K d_product.at_, fd_product := fd15, F_product := fun_of F15, m_product := He.glo_ok X G (c.fact 12 (f := .glo "_law_product") rfl), a_half := He.fAd K d_half.at_, fd_half := fd16, F_half := F16, m_half := He.glo_ok X G (c.fact 13 (f := .glo "_law_half") rfl), a_same := He.fAd K d_same.at_, fd_same := fd17, F_same := fun_of F17, m_same := He.glo_ok X G (c.fact 14 (f := .glo "_law_same") rfl), a_c_least := He.fAd K d_c_least.at_, fd_c_least := fd18, F_c_least := fun_of F18, m_c_least := He.glo_ok X G (c.fact 15 (f := .glo "_law_c_least") rfl), a_c_first := He.fAd K d_c_first.at_, fd_c_first := fd19, F_c_first := fun_of F19, m_c_first := He.glo_ok X G (c.fact 16 (f := .glo "_law_c_first") rfl), a_c_problem := He.fAd K d_c_problem.at_, fd_c_problem := fd20, F_c_problem := fun_of F20, m_c_problem := He.glo_ok X G (c.fact 17 (f := .glo "_law_c_problem") rfl), a_c_blocked := He.fAd K d_c_blocked.at_, fd_c_blocked := fd21, F_c_blocked := fun_of F21, m_c_blocked := He.glo_ok X G (c.fact 18 (f := .glo "_law_c_blocked") rfl), a_c_tree := He.fAd K d_c_tree.at_, fd_c_tree := fd22, F_c_tree := fun_of F22, m_c_tree := He.glo_ok X G (c.fact 19 (f := .glo "_law_c_tree") rfl), a_c_judged := He.fAd K d_c_judged.at_, fd_c_judged := fd23, F_c_judged := fun_of F23, m_c_judged := He.glo_ok X G (c.fact 20 (f := .glo "_law_c_judged") rfl), a_c_knots := He.fAd K d_c_knots.at_, fd_c_knots := fd24, F_c_knots := fun_of F24, m_c_knots := He.glo_ok X G (c.fact 21 (f := .glo "_law_c_knots") rfl), a_c_put := He.fAd K d_c_put.at_, fd_c_put := fd25, F_c_put := fun_of F25, m_c_put := He.glo_ok X G (c.fact 22 (f := .glo "_law_c_put") rfl), a_k10_change := He.fAd K d_k10_change.at_, fd_k10_change := fd26, F_k10_change := fun_of F26, m_k10_change := He.glo_ok X G (c.fact 23 (f := .glo "_law_k10_change") rfl), a_k10_copy := He.fAd K d_k10_copy.at_, fd_k10_copy := fd27, F_k10_copy := fun_of F27, m_k10_copy := He.glo_ok X G (c.fact 24 (f := .glo "_law_k10_copy") rfl), a_k10_flat := He.fAd K d_k10_flat.at_, fd_k10_flat := fd28, F_k10_flat := fun_of F28, m_k10_flat := He.glo_ok X G (c.fact 25 (f := .glo "_law_k10_flat") rfl), a_law := He.fAd K d_law.at_, fd_law := fd29, F_law := fun_of F29, m_law := He.glo_ok X G (c.fact 26 (f := .glo "law") rfl), c_Problem := He.ga K "Problem", cl_Problem := He.cls_ok (c.fact 27 (f := .cls "Problem") rfl), mc_Problem := He.glo_ok X G (c.fact 28 (f := .glo "Problem") rfl), mk_Problem := He.mkr_ok (c.fact 29 (f := .mkr "Problem") rfl), mt_Problem_choices := He.meth_ok (c.fact 30 (f := .meth "Problem" "choices") rfl), mt_Problem_demands := He.meth_ok (c.fact 31 (f := .meth "Problem" "demands") rfl), na_Problem_choices := He.noat_ok (c.fact 32 (f := .noat "Problem" "_choices") rfl), na_Problem_demands := He.noat_ok (c.fact 33 (f := .noat "Problem" "_demands") rfl), b_abs := He.free_ok X G (c.fact 34 (f := .free "abs") rfl), b_all := He.free_ok X G (c.fact 35 (f := .free "all") rfl), b_bool := He.free_ok X G (c.fact 36 (f := .free "bool") rfl), b_dict := He.free_ok X G (c.fact 37 (f := .free "dict") rfl), b_enumerate := He.free_ok X G (c.fact 38 (f := .free "enumerate") rfl), b_int := He.free_ok X G (c.fact 39 (f := .free "int") rfl), b_isinstance := He.free_ok X G (c.fact 40 (f := .free "isinstance") rfl), b_len := He.free_ok X G (c.fact 41 (f := .free "len") rfl), b_list := He.free_ok X G (c.fact 42 (f := .free "list") rfl), b_max := He.free_ok X G (c.fact 43 (f := .free "max") rfl), b_min := He.free_ok X G (c.fact 44 (f := .free "min") rfl), b_range := He.free_ok X G (c.fact 45 (f := .free "range") rfl), b_reversed := He.free_ok X G (c.fact 46 (f := .free "reversed") rfl), b_str := He.free_ok X G (c.fact 47 (f := .free "str") rfl), b_tuple := He.free_ok X G (c.fact 48 (f := .free "tuple") rfl), b_zip := He.free_ok X G (c.fact 49 (f := .free "zip") rfl) }, rfl⟩
theorem factsE {P : Program} {w : World} {K : PySem.W.Frag} {h : Heap} {mg : Str → Option Value} {f : Addr} (X : K.In h) (G : h.Ns mainGlobals mg) (hfa : mg ("law" : Str) = some (.ref f)) (c : He.SaysD fa fn K) :
    ∃ fd : FuncData, (∀ (s : Shared) (v : Value), BindsTo s fd ⟨[v], []⟩ [("script", v)]) ∧ ∀ base : Heap, K.In base → base.Ns mainGlobals mg → FnOk P w K mg base CX0 13 f fd ["script"] (spLaw K) := by
  obtain ⟨T, e⟩ := mk_txt X G c
  have e2 := hfa.symm.trans T.m_law
  cases e2
  obtain ⟨fd, F⟩ := c.def_ 29 (d := d_law) rfl
  have b := FunD.bindsA (ps := ["script"]) F fun _ _ _ _ _ _ us hl => match us, hl with | [_], _ => rfl
  have efd : T.fd_law = fd := by
    obtain ⟨_, _, _, _, _, _, _, _, _, e3, l3, _⟩ := T.F_law.ex
    obtain ⟨_, _, _, _, _, _, _, _, _, _, e4, l4, _⟩ := F.ex
    have e' : T.a_law = He.fAd K d_law.at_ := e
    rw [e', l4] at l3
    injection l3 with l3
    injection l3 with _ _ l3 _
    injection l3 with l3
    exact l3.symm
  subst efd
  exact ⟨T.fd_law, fun s v => b s [v] rfl, fun base _ _ => ok_law T⟩
end K9
open PySem PySem.W PySem.Calls PyProof.Rows
set_option maxRecDepth 100000 in
set_option maxHeartbeats 0 in
theorem PySem.Challenge.cw_everychoir_k10_closed_trees_judged_holds : PySem.Challenge.rw_everychoir_k10_closed_trees_judged.Holds := by
  w_on; o_law
  refine HandSHeadRun.head_any (r := OpenLaw.row PySem.Challenge.rw_everychoir_k10_closed_trees_judged) (q := view (OpenLaw.row PySem.Challenge.rw_everychoir_k10_closed_trees_judged).prog [30]) (H := K9.hkE) (ob := K9.obE) (M := 6000) (loose := K9.namesE) (d := HandSHeadRun.topDef (OpenLaw.row PySem.Challenge.rw_everychoir_k10_closed_trees_judged).prog 30) (kwd := []) K9.obE_eq
    (by kernel_rfl) (fun s => by kernel_rfl) K9.runE (by kernel_rfl) (by kernel_rfl) (by kernel_rfl) (by rfl) (by first | assumption | decide +kernel) (by decide +kernel) ⟨rfl, rfl, rfl, rfl, rfl, by decide +kernel⟩ ?hw ?hc
  case hw => w_witness2
  case hc =>
    refine L2.walk_ofE (l := PySem.Challenge.rw_everychoir_k10_closed_trees_judged) (n := 63) (k := 13) (x := "script") (CX := L2.CX0) rfl (by decide) (by kernel_rfl) ⟨rfl, by decide, by decide⟩ ?F (fun _ _ _ _ z => z)
    intro w mg fa h Y G hmg0
    obtain ⟨K, KX, c⟩ := Y
    have hmg : mg ("law" : PySem.Str) = some (.ref fa) := by
      have e : (HandSHeadRun.topDef (OpenLaw.row PySem.Challenge.rw_everychoir_k10_closed_trees_judged).prog 30).name = ("law" : PySem.Str) := by kernel_rfl
      rw [← e]
      exact hmg0
    obtain ⟨fd, hb, hF⟩ := K9.factsE (P := (PySem.Challenge.rw_everychoir_k10_closed_trees_judged).prog) (w := w) KX G hmg c
    exact ⟨K, fd, K9.spLaw K, KX, hb, fun H a ns hl _ hS => ⟨a, ns, rfl, hS, hl, fun _ => rfl⟩, hF⟩
