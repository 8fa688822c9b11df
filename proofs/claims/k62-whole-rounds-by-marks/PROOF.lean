import PyProof.Rows.All
import Wide.All
import OpenK.AllK
import Wide.FinOn
import HandS.ForMost
import HandS.More
import HandS.Conv
import HandS.NoneIn
import HandS.Wide
import HandS.SortInts
import HandS.Sort
import HandS.Steps
import PySem.Challenge.RW_ringfloor_k62_whole_rounds_by_marks
set_option Elab.async false
section
set_option linter.all false
set_option maxRecDepth 100000
set_option maxHeartbeats 4000000
/-! RfA: names for the readings used here; what a caller knows of a def (Callee), what a def's body is (Der). -/
namespace Rf
open PySem PyProof.Rows L2

/-! ### names of readings by values -/
def rAddI : R2 := rI0 fun i j => .int (i + j)
def rSubI : R2 := rI0 fun i j => .int (i - j)
def rMulI : R2 := rI CMul fun i j => .int (i * j)
def rMulW : R2 := rI CMulW fun i j => .int (i * j)
def rModI : R2 := rI (fun _ j => 0 < j) fun i j => .int (i % j)
def rDivI : R2 := rI CDiv fun i j => .int (i / j)
def rPowI : R2 := rI CPow fun i j => .int (i ^ j.toNat)
def rLtI : R2 := rI0 fun i j => .bl (decide (i < j))
def rGtI : R2 := rI0 fun i j => .bl (decide (j < i))
def rGeI : R2 := rI0 fun i j => .bl (decide (j ≤ i))
def rNegI : V → Hp → VK → Prop := rU fun i => .int (-i)
def rLenS (K : PySem.W.Frag) : List V → Hp → VK → Prop := fun xs H Q => ∃ p ys, xs = [.ref p] ∧ (SqL K H p ys ∨ SqT K H p ys) ∧ Q (.int ys.length) H
def rLenD : List V → Hp → VK → Prop := fun xs H Q => ∃ (a : Addr) (kvs : List (Key × V)), xs = [.ref a] ∧ Rd H a (.dK kvs) ∧ Q (.int kvs.length) H
def rAbsI : List V → Hp → VK → Prop := fun xs H Q => ∃ i, xs = [.int i] ∧ Q (.int (if i < 0 then -i else i)) H
def rMaxI : List V → Hp → VK → Prop := fun xs H Q => ∃ i j, xs = [.int i, .int j] ∧ Q (.int (if j > i then j else i)) H
def rLstS (K : PySem.W.Frag) : List V → Hp → VK → Prop := fun xs H Q => ∃ p ys, xs = [.ref p] ∧ (SqL K H p ys ∨ SqT K H p ys) ∧ ∀ l, H l = none → Q (.ref l) (upd H l (.lst ys))
def rLstD : List V → Hp → VK → Prop := fun xs H Q => ∃ (a : Addr) (kvs : List (Key × V)), xs = [.ref a] ∧ Rd H a (.dK kvs) ∧ ∀ p, H p = none → Q (.ref p) (upd H p (.lst (kvs.map fun kv => kV kv.1)))
def rSortD : List V → Hp → VK → Prop := fun xs H Q => ∃ (a : Addr) (kvs : List (Key × V)) (ks : List Int), xs = [.ref a] ∧ Rd H a (.dK kvs) ∧ kvs.map (·.1) = ks.map Sum.inl ∧
  ∀ (ys : List Int) (p : Addr), ys.Perm ks → ys.Pairwise (· ≤ ·) → H p = none → Q (.ref p) (upd H p (.lst (ys.map V.int)))
def rInsert : V → List V → Hp → VK → Prop := fun x vs H Q => ∃ (l : Addr) (xs : List V) (i : Int) (y : V), x = .ref l ∧ vs = [.int i, y] ∧ H l = some (.lst xs) ∧ xs.length < sizeLine ∧ 0 ≤ i ∧ i < 2 ^ 63 ∧
  Q .non (upd H l (.lst (xs.take i.toNat ++ [y] ++ xs.drop i.toNat)))
section
variable {X : Cx}
theorem op_addI : OpR X (binaryOp .Add) rAddI := op_add
theorem op_subI : OpR X (binaryOp .Sub) rSubI := op_sub
theorem op_mulI : OpR X (binaryOp .Mult) rMulI := op_mul
theorem op_mulWI : OpR X (binaryOp .Mult) rMulW := op_mulW
theorem op_modI : OpR X (binaryOp .Mod) rModI := op_mod
theorem op_divI : OpR X (binaryOp .FloorDiv) rDivI := op_fdiv
theorem op_powI : OpR X (binaryOp .Pow) rPowI := op_pow
theorem op_ltI : OpR X (compareOp .Lt) rLtI := op_lt
theorem op_gtI : OpR X (compareOp .Gt) rGtI := op_gt
theorem op_geI : OpR X (compareOp .GtE) rGeI := op_ge
theorem un_negI : UnR X (unaryOp .USub) rNegI := un_neg
theorem cr_lenS : CallR X (.builtin "len") (rLenS X.K) := call_len_seq
theorem cr_lenD : CallR X (.builtin "len") rLenD := by
  intro pins s σ H xs us Q I r h
  obtain ⟨a, kvs, rfl, ha, q⟩ := h
  obtain ⟨u, rfl, ru⟩ := vals1 r
  cases ru
  exact d_len I ha fun t s' I' => ⟨.int kvs.length, H, I', ⟨t, rfl⟩, q⟩
theorem cr_absI : CallR X (.builtin "abs") rAbsI := call_abs
theorem cr_maxI (hc : X.calm = true) : CallR X (.builtin "max") rMaxI := call_max2 hc
theorem cr_lstS : CallR X (.type "list") (rLstS X.K) := call_list_of
theorem cr_lstD (hc : X.calm = true) : CallR X (.type "list") rLstD := call_listD hc
theorem mt_insertI : MtR X "list.insert" rInsert := mt_insert
end

/-! ### what a caller knows of a def -/
structure Callee (P : Program) (w : World) (K : PySem.W.Frag) (mg : Str → Option Value) (base : Heap) (x : Str) (k : Nat) (ps : List Str) (sp : Sp) : Prop where
  ex : ∃ (f : Addr) (fd : FuncData), FnOk P w K mg base CX0 k f fd ps sp ∧ mg x = some (.ref f) ∧ PySem.W.keepIn K (.ref f) = true ∧ Binds K fd ps []
/-- the names of built-ins that the text uses are not the module's -/
structure Bl (mg : Str → Option Value) : Prop where
  len : mg "len" = none
  sum : mg "sum" = none
  min : mg "min" = none
  max : mg "max" = none
  abs : mg "abs" = none
  list : mg "list" = none
  sorted : mg "sorted" = none
  range : mg "range" = none
  enumerate : mg "enumerate" = none
  reversed : mg "reversed" = none

theorem pe_callC {X : Cx} {x : Str} {j k : Nat} {ps : List Str} {sp : Sp} {e : Expr} {es : List Expr} {t : TA} {p pos : Pos} (c : Callee X.prog X.w X.K X.mg X.base x j ps sp) (hr : Room k X.A) (hjk : j ≤ k) (hg : Gl X x) (ha : PA X (e :: es) t)
    (hdb : (x == ("__debug__" : Str)) = false := by decide) (he : starEach (e :: es) X.env = (false, eval e X.env) :: starEach es X.env := by rfl) (hpl : (backTo pos (starEach es X.env)).any (·.1) = false := by rfl) :
    PE X (.Call (.Name x p) (e :: es) [] pos) (tCall sp [] E0 t) := by
  obtain ⟨f, fd, F, hm, hk, hb⟩ := c.ex
  exact pe_call F (hr.mono hjk) hg hm hk hb .nil pass0 ha (hdb := hdb) (he := he) (hpl := hpl)

/-- the body of the def st, run at level k, has the reading t -/
def Der (P : Program) (w : World) (K : PySem.W.Frag) (mg : Str → Option Value) (base : Heap) (k : Nat) (N : List Str) (qual : Str) (st : Stmt) (t : TS) : Prop :=
  ∀ (f : Addr) (cdv : Value) (A : Around) (outer : List Env) (s : Shared) (H : Hp) (E : XK), Room k (A.deeper (envOfC qual (defScope st) s.heap.objs.size f cdv)) →
    PSs (cxOf CX0 P w K mg base N qual (defScope st) f cdv A outer s H E).nox (defBody st) t

theorem callee_of {P : Program} {w : World} {K : PySem.W.Frag} {mg : Str → Option Value} {base : Heap} {x : Str} {st : Stmt} {f : Addr} {fd : FuncData} {k : Nat} {N ps : List Str} {sp : Sp} {t : TS}
    (F : Fun K x x st f fd) (hm : mg x = some (.ref f)) (S : FnScope N ps (defScope st)) (hb : Binds K fd ps []) (D : Der P w K mg base k N x st t)
    (len : ∀ vs H Q E, sp vs H Q E → vs.length = ps.length) (hrd : ∀ vs H Q E, sp vs H Q E → t { nx := fun _ H' => Q .non H', rt := Q } (start N vs) H) :
    Callee P w K mg base x (k + 1) ps sp :=
  ⟨f, fd, F.ok S len fun cdv A outer s H vs Q E hr h => ⟨t, D f cdv A outer s H E hr, hrd vs H Q E h⟩, hm, F.kp, hb⟩

/-! ### xs[i], by value, for xs[i] op= e (places counted from the front alone) -/
def rIxN (K : PySem.W.Frag) : V → V → Hp → VK → Prop := fun x y H Q => ∃ (p : Addr) (xs : List V) (j : Nat) (v : V), x = .ref p ∧ y = .int (j : Int) ∧ SqL K H p xs ∧ xs[j]? = some v ∧ Q v H
theorem get_list {X : Cx} : PGet X (rIxN X.K) := by
  intro pins s σ H o i ov iv Q I ro ri h
  obtain ⟨p, xs, j, v, rfl, rfl, hS, hv, q⟩ := h
  obtain ⟨t, rfl⟩ := ri
  cases ro
  obtain ⟨its, rv, pl, hz⟩ := I.list hS
  obtain ⟨u, hu, ru⟩ := rv.get hv
  have hj : j < xs.length := (List.getElem?_eq_some_iff.mp hv).1
  have h63 := line63
  have fits : (j : Int) < 2 ^ 63 := by omega
  have here : its.toArray[(j : Int).toNat]? = some u := by simpa using hu
  exact PySem.wpAny_getItem_list pl.isList (Int.natCast_nonneg j) fits here ⟨v, H, I, ru, q⟩
end Rf
end
section
set_option linter.all false
set_option maxRecDepth 100000
set_option maxHeartbeats 4000000
/-! RfB: a rule that the layer lacks: sorted(d) of a dict of any number of int keys. -/
namespace Rf
open PySem PySem.Spec PyProof.Rows L2
section
variable {X : Cx}

/-- the keys that were collected are the ints ks -/
theorem keys_ints {vs : List (Key × Value)} {ks : List Int} {acc : List Value} (hk : vs.map (·.1) = ks.map Sum.inl) (hn : acc.length = ks.length)
    (hat : ∀ (j : Nat) (v : Value), acc[j]? = some v → ∃ (k : Key) (x : Value), vs[j]? = some (k, x) ∧ keyIs k v = true) : IntsAre acc ks := by
  refine ints_each hn fun j v e => ?_
  obtain ⟨k, x, e1, e2⟩ := hat j v e
  have e3 : (ks.map (Sum.inl : Int → Key))[j]? = some k := by
    rw [← hk, List.getElem?_map, e1]
    rfl
  rw [List.getElem?_map] at e3
  obtain ⟨y, hy, rfl⟩ := Option.map_eq_some_iff.mp e3
  rcases keyIs_shape e2 with ⟨i, t, h1, h2⟩ | ⟨z, t, h1, h2⟩
  · cases h1
    exact ⟨y, t, hy, h2⟩
  · cases h1

theorem cr_sortD (hc : X.calm = true) : CallR X (.builtin "sorted") rSortD := by
  intro pins s σ H xs us Q I r h
  obtain ⟨a, kvs, ks, rfl, hd, hks, q⟩ := h
  obtain ⟨u, rfl, rx⟩ := vals1 r
  cases rx
  obtain ⟨hz, low, vs, rel, dd⟩ := dk_rd I.hok hd
  obtain ⟨ep, hat⟩ := dd.dictAt
  have hkeys : vs.map (·.1) = ks.map Sum.inl := rel.keys.symm.trans hks
  have hlen : vs.length = ks.length := by simpa using congrArg List.length hkeys
  have hzv : vs.length ≤ sizeLine := by
    have e := Paired.length rel
    omega
  refine Calls.call_function_entry kind_sorted plain_sorted entry_sorted (args_sorted1 _) ?_
  unfold Builtin.«sorted»
  refine wpAny_bind (m := checkCount "sorted" 1 1 _) (wpAny_pure ?_)
  refine wpAny_bind (PySem.W.kdu_collect (PySem.W.kdl_dict (knd := mixKind X.prog X.w) (kvs := vs) (ep := ep) low) (I.ok.hd hc) hat hzv fun h' tk acc hk hacc => ?_)
  have hal : acc.toList.length = ks.length := by rw [Array.length_toList, hacc.1, hlen]
  have hS : IntsAre acc.toList ks := keys_ints hkeys hal fun j v e => hacc.2 j v (by simpa using e)
  have I1 : Inv X pins σ H { s with heap := h', toks := tk } := I.kept hk
  have hzl : acc.toList.length ≤ sizeLine := by omega
  refine wpAny_bind (wpAny_newList ?_ hzl)
  have hoL : (h'.push (seqObj "list" acc.toList.toArray 0)).get? h'.objs.size = some (seqObj "list" acc.toList.toArray 0) := Heap.get?_push_size _ rfl
  show wpAny _ _ _ _ _ { s with heap := h'.push (seqObj "list" acc.toList.toArray 0), toks := tk }
  refine wpAny_bind (wpAny_holding (wpAny_call_entry slot_list_sort ⟨_, hoL, rfl⟩ entry_list_sort
    (SrtO.list_sort_ord SrtO.swo_int hoL hzl (fun h2 => SrtO.ints_sortable hS h2) fun out h1 h2 => ⟨_, rfl, ?_⟩) (args_list_sort _)))
  obtain ⟨k1, k2, k3⟩ := SrtO.ints_out hS h1 h2
  obtain ⟨e', he'⟩ := sortedHeap_at (vs := acc.toList) (out := out.toArray) hoL
  have hol : ((out.map SrtO.iv).map V.int).length ≤ sizeLine := by
    rw [List.length_map, k2.length_eq]
    omega
  have new : ObjOk X.prog X.w (upd H h'.objs.size (.lst ((out.map SrtO.iv).map V.int))) _ h'.objs.size (.lst ((out.map SrtO.iv).map V.int)) := ⟨hol, out, e', vals_of_ints k1, he'⟩
  refine wpAny_pure ⟨_, rfl, .ref h'.objs.size, _, I1.laid (t' := tk) (fun b u e => ?_) (Nat.le_refl _) new, rfl, q _ _ k2 k3 (I1.hok.fresh (Nat.le_refl _))⟩
  have hb : b < h'.objs.size := Heap.lt_size e
  rw [sortedHeap_old (Nat.ne_of_lt hb) (by rw [size_push']; exact Nat.lt_succ_of_lt hb)]
  exact Heap.get?_push_of_some _ e
end
end Rf
end
section
set_option linter.all false
/-! RfT: the readings of the defs' bodies (printed by gen.py). -/
namespace Rf
open PySem L2

/-- mate_of: 0 end -/
def t_mate_of (K : PySem.W.Frag) : TS :=
  (tRet (tOp rSubI (tOp rAddI (tVar 0) (tC (.int 1))) (tOp rMulI (tC (.int 2)) (tOp rModI (tVar 0) (tC (.int 2))))))
abbrev N_mate_of : List Str := ["end"]
abbrev ps_mate_of : List Str := ["end"]
/-- count_ends: 0 drawing, 1 row -/
def t_count_ends (K : PySem.W.Frag) : TS :=
  (tRet (tCB (rSum K) (tCons (tLc (iList K (tVar 0)) (gName 1) tYes (tCB (rLenS K) (tCons (tVar 1) tNil)) [1]) tNil)))
abbrev N_count_ends : List Str := ["drawing", "row"]
abbrev ps_count_ends : List Str := ["drawing"]
/-- seats_of: 0 drawing, 1 seats, 2 place, 3 row, 4 end -/
def t_seats_of (K : PySem.W.Frag) (sp_count_ends : Sp) : TS :=
  (tSeq (tAsg (tOp rRep (tLst (tCons (tC (.int 0)) tNil)) (tCall sp_count_ends [] E0 (tCons (tVar 0) tNil))) (gName 1))
    (tSeq (tFor (iEnum K (tCons (tVar 0) tNil)) (gTup K 2 (gCons (gName 2) (gCons (gName 3) gNil))) (tFor (iList K (tVar 3)) (gName 4) (tAsg (tVar 2) (gSub (tVar 1) (tVar 4) rSetL))))
    (tRet (tVar 1))))
abbrev N_seats_of : List Str := ["drawing", "seats", "place", "row", "end"]
abbrev ps_seats_of : List Str := ["drawing"]
/-- behind_of: 0 drawing, 1 behind, 2 row, 3 at, 4 end -/
def t_behind_of (K : PySem.W.Frag) (sp_count_ends : Sp) : TS :=
  (tSeq (tAsg (tOp rRep (tLst (tCons (tC (.int 0)) tNil)) (tCall sp_count_ends [] E0 (tCons (tVar 0) tNil))) (gName 1))
    (tSeq (tFor (iList K (tVar 0)) (gName 2) (tFor (iEnum K (tCons (tVar 2) tNil)) (gTup K 2 (gCons (gName 3) (gCons (gName 4) gNil))) (tAsg (tOp (rIxL K) (tVar 2) (tOp rModI (tOp rAddI (tVar 3) (tC (.int 1))) (tCB (rLenS K) (tCons (tVar 2) tNil)))) (gSub (tVar 1) (tVar 4) rSetL))))
    (tRet (tVar 1))))
abbrev N_behind_of : List Str := ["drawing", "behind", "row", "at", "end"]
abbrev ps_behind_of : List Str := ["drawing"]
/-- lands_of: 0 drawing, 1 behind, 2 seen, 3 lands, 4 start, 5 land, 6 end, 7 row -/
def t_lands_of (K : PySem.W.Frag) (sp_mate_of : Sp) (sp_behind_of : Sp) : TS :=
  (tSeq (tAsg (tCall sp_behind_of [] E0 (tCons (tVar 0) tNil)) (gName 1))
    (tSeq (tAsg (tOp rRep (tLst (tCons (tC (.bl false)) tNil)) (tCB (rLenS K) (tCons (tVar 1) tNil))) (gName 2))
    (tSeq (tAsg (tLst tNil) (gName 3))
    (tSeq (tFor (iRng1 (tCons (tCB (rLenS K) (tCons (tVar 1) tNil)) tNil)) (gName 4) (tSeq (tIfS (tB (tOp (rIxL K) (tVar 2) (tVar 4))) tCont tNext)
    (tSeq (tAsg (tLst tNil) (gName 5))
    (tSeq (tAsg (tVar 4) (gName 6))
    (tSeq (tWhile (tNot (tB (tOp (rIxL K) (tVar 2) (tVar 6)))) (tSeq (tAsg (tC (.bl true)) (gSub (tVar 2) (tVar 6) rSetL))
    (tSeq (tDrop (tBM K "list" rAppend (tVar 5) (tCons (tVar 6) tNil)))
    (tAsg (tOp (rIxL K) (tVar 1) (tCall sp_mate_of [] E0 (tCons (tVar 6) tNil))) (gName 6)))))
    (tDrop (tBM K "list" rAppend (tVar 3) (tCons (tVar 5) tNil))))))))
    (tSeq (tFor (iList K (tVar 0)) (gName 7) (tIfS (tTest (tOp rEq (tCB (rLenS K) (tCons (tVar 7) tNil)) (tC (.int 0)))) (tDrop (tBM K "list" rAppend (tVar 3) (tCons (tLst tNil) tNil))) tNext))
    (tRet (tVar 3)))))))
abbrev N_lands_of : List Str := ["drawing", "behind", "seen", "lands", "start", "land", "end", "row"]
abbrev ps_lands_of : List Str := ["drawing"]
/-- part_about: 0 drawing, 1 seats, 2 start, 3 seen, 4 waiting, 5 place, 6 end, 7 goal -/
def t_part_about (K : PySem.W.Frag) (sp_mate_of : Sp) : TS :=
  (tSeq (tAsg (tDisp [((tVar 2), (tC (.bl true)))]) (gName 3))
    (tSeq (tAsg (tLst (tCons (tVar 2) tNil)) (gName 4))
    (tSeq (tWhile (tTest (tOp rGtI (tCB (rLenS K) (tCons (tVar 4) tNil)) (tC (.int 0)))) (tSeq (tAsg (tBM0 K "list" rPop (tVar 4)) (gName 5))
    (tFor (iList K (tOp (rIxL K) (tVar 0) (tVar 5))) (gName 6) (tSeq (tAsg (tOp (rIxL K) (tVar 1) (tCall sp_mate_of [] E0 (tCons (tVar 6) tNil))) (gName 7))
    (tIfS (tB (tDNotIn (tVar 7) (tVar 3))) (tSeq (sDPut (tVar 3) (tVar 7) (tC (.bl true)))
    (tDrop (tBM K "list" rAppend (tVar 4) (tCons (tVar 7) tNil)))) tNext)))))
    (tRet (tCB rSortD (tCons (tVar 3) tNil))))))
abbrev N_part_about : List Str := ["drawing", "seats", "start", "seen", "waiting", "place", "end", "goal"]
abbrev ps_part_about : List Str := ["drawing", "seats", "start"]
/-- parts_of: 0 drawing, 1 seats, 2 seen, 3 parts, 4 start, 5 part, 6 place -/
def t_parts_of (K : PySem.W.Frag) (sp_part_about : Sp) (sp_seats_of : Sp) : TS :=
  (tSeq (tAsg (tCall sp_seats_of [] E0 (tCons (tVar 0) tNil)) (gName 1))
    (tSeq (tAsg tDNewK (gName 2))
    (tSeq (tAsg (tLst tNil) (gName 3))
    (tSeq (tFor (iRng1 (tCons (tCB (rLenS K) (tCons (tVar 0) tNil)) tNil)) (gName 4) (tIfS (tB (tDNotIn (tVar 4) (tVar 2))) (tSeq (tAsg (tCall sp_part_about [] E0 (tCons (tVar 0) (tCons (tVar 1) (tCons (tVar 4) tNil)))) (gName 5))
    (tSeq (tFor (iList K (tVar 5)) (gName 6) (sDPut (tVar 2) (tVar 6) (tC (.bl true))))
    (tDrop (tBM K "list" rAppend (tVar 3) (tCons (tVar 5) tNil))))) tNext))
    (tRet (tVar 3))))))
abbrev N_parts_of : List Str := ["drawing", "seats", "seen", "parts", "start", "part", "place"]
abbrev ps_parts_of : List Str := ["drawing"]
/-- holes_of: 0 drawing, 1 seats, 2 begun, 3 land, 4 holes, 5 part, 6 ends, 7 place, 8 many -/
def t_holes_of (K : PySem.W.Frag) (sp_parts_of : Sp) (sp_lands_of : Sp) (sp_seats_of : Sp) : TS :=
  (tSeq (tAsg (tCall sp_seats_of [] E0 (tCons (tVar 0) tNil)) (gName 1))
    (tSeq (tAsg (tOp rRep (tLst (tCons (tC (.int 0)) tNil)) (tCB (rLenS K) (tCons (tVar 0) tNil))) (gName 2))
    (tSeq (tFor (iList K (tCall sp_lands_of [] E0 (tCons (tVar 0) tNil))) (gName 3) (tIfS (tTest (tOp rGtI (tCB (rLenS K) (tCons (tVar 3) tNil)) (tC (.int 0)))) (tAugS (tVar 2) (tOp (rIxL K) (tVar 1) (tOp (rIxL K) (tVar 3) (tC (.int 0)))) (tC (.int 1)) (rIxN K) (ipI fun i j => i + j) rSetL) tNext))
    (tSeq (tAsg (tLst tNil) (gName 4))
    (tSeq (tFor (iList K (tCall sp_parts_of [] E0 (tCons (tVar 0) tNil))) (gName 5) (tSeq (tAsg (tCB (rSum K) (tCons (tLc (iList K (tVar 5)) (gName 7) tYes (tCB (rLenS K) (tCons (tOp (rIxL K) (tVar 0) (tVar 7)) tNil)) [7]) tNil)) (gName 6))
    (tSeq (tAsg (tCB (rSum K) (tCons (tLc (iList K (tVar 5)) (gName 7) tYes (tOp (rIxL K) (tVar 2) (tVar 7)) [7]) tNil)) (gName 8))
    (tSeq (tIfS (tTest (tOp rEq (tVar 6) (tC (.int 0)))) (tAsg (tC (.int 1)) (gName 8)) tNext)
    (tDrop (tBM K "list" rAppend (tVar 4) (tCons (tOp rDivI (tOp rSubI (tOp rAddI (tOp rSubI (tC (.int 2)) (tCB (rLenS K) (tCons (tVar 5) tNil))) (tOp rDivI (tVar 6) (tC (.int 2)))) (tVar 8)) (tC (.int 2))) tNil)))))))
    (tRet (tVar 4)))))))
abbrev N_holes_of : List Str := ["drawing", "seats", "begun", "land", "holes", "part", "ends", "place", "many"]
abbrev ps_holes_of : List Str := ["drawing"]
/-- tree_from: 0 drawing, 1 root, 2 seats, 3 nearer, 4 waiting, 5 at, 6 end, 7 goal -/
def t_tree_from (K : PySem.W.Frag) (sp_mate_of : Sp) (sp_seats_of : Sp) : TS :=
  (tSeq (tAsg (tCall sp_seats_of [] E0 (tCons (tVar 0) tNil)) (gName 2))
    (tSeq (tAsg (tDisp [((tVar 1), (tUn rNegI (tC (.int 1))))]) (gName 3))
    (tSeq (tAsg (tLst (tCons (tVar 1) tNil)) (gName 4))
    (tSeq (tAsg (tC (.int 0)) (gName 5))
    (tSeq (tWhile (tTest (tOp rLtI (tVar 5) (tCB (rLenS K) (tCons (tVar 4) tNil)))) (tSeq (tFor (iList K (tOp (rIxL K) (tVar 0) (tOp (rIxL K) (tVar 4) (tVar 5)))) (gName 6) (tSeq (tAsg (tOp (rIxL K) (tVar 2) (tCall sp_mate_of [] E0 (tCons (tVar 6) tNil))) (gName 7))
    (tIfS (tB (tDNotIn (tVar 7) (tVar 3))) (tSeq (sDPut (tVar 3) (tVar 7) (tCall sp_mate_of [] E0 (tCons (tVar 6) tNil)))
    (tDrop (tBM K "list" rAppend (tVar 4) (tCons (tVar 7) tNil)))) tNext)))
    (tAug 5 (tC (.int 1)) (ipI fun i j => i + j))))
    (tRet (tVar 3)))))))
abbrev N_tree_from : List Str := ["drawing", "root", "seats", "nearer", "waiting", "at", "end", "goal"]
abbrev ps_tree_from : List Str := ["drawing", "root"]
/-- way_up: 0 seats, 1 nearer, 2 place, 3 way -/
def t_way_up (K : PySem.W.Frag) (sp_mate_of : Sp) : TS :=
  (tSeq (tAsg (tLst tNil) (gName 3))
    (tSeq (tWhile (tTest (tOp rGeI (tDGet (tVar 1) (tVar 2)) (tC (.int 0)))) (tSeq (tDrop (tBM K "list" rAppend (tVar 3) (tCons (tDGet (tVar 1) (tVar 2)) tNil)))
    (tAsg (tOp (rIxL K) (tVar 0) (tCall sp_mate_of [] E0 (tCons (tDGet (tVar 1) (tVar 2)) tNil))) (gName 2))))
    (tRet (tVar 3))))
abbrev N_way_up : List Str := ["seats", "nearer", "place", "way"]
abbrev ps_way_up : List Str := ["seats", "nearer", "place"]
/-- turned_about: 0 way, 1 end -/
def t_turned_about (K : PySem.W.Frag) (sp_mate_of : Sp) : TS :=
  (tRet (tLc (iRev K (tCons (tVar 0) tNil)) (gName 1) tYes (tCall sp_mate_of [] E0 (tCons (tVar 1) tNil)) [1]))
abbrev N_turned_about : List Str := ["way", "end"]
abbrev ps_turned_about : List Str := ["way"]
/-- round_along: 0 seats, 1 nearer, 2 end, 3 out, 4 back -/
def t_round_along (K : PySem.W.Frag) (sp_turned_about : Sp) (sp_way_up : Sp) (sp_mate_of : Sp) : TS :=
  (tSeq (tAsg (tCall sp_way_up [] E0 (tCons (tVar 0) (tCons (tVar 1) (tCons (tOp (rIxL K) (tVar 0) (tCall sp_mate_of [] E0 (tCons (tVar 2) tNil))) tNil)))) (gName 3))
    (tSeq (tAsg (tCall sp_way_up [] E0 (tCons (tVar 0) (tCons (tVar 1) (tCons (tOp (rIxL K) (tVar 0) (tVar 2)) tNil)))) (gName 4))
    (tSeq (tWhile (tAnd (tTest (tOp rGtI (tCB (rLenS K) (tCons (tVar 3) tNil)) (tC (.int 0)))) (tAnd (tTest (tOp rGtI (tCB (rLenS K) (tCons (tVar 4) tNil)) (tC (.int 0)))) (tTest (tOp rEq (tOp (rIxL K) (tVar 3) (tUn rNegI (tC (.int 1)))) (tOp (rIxL K) (tVar 4) (tUn rNegI (tC (.int 1)))))))) (tSeq (tDrop (tBM0 K "list" rPop (tVar 3)))
    (tDrop (tBM0 K "list" rPop (tVar 4)))))
    (tRet (tOp rCat (tOp rCat (tLst (tCons (tVar 2) tNil)) (tVar 3)) (tCall sp_turned_about [] E0 (tCons (tVar 4) tNil)))))))
abbrev N_round_along : List Str := ["seats", "nearer", "end", "out", "back"]
abbrev ps_round_along : List Str := ["seats", "nearer", "end"]
/-- land_numbers: 0 lands, 1 numbers, 2 number, 3 land, 4 end -/
def t_land_numbers (K : PySem.W.Frag) : TS :=
  (tSeq (tAsg tDNewK (gName 1))
    (tSeq (tFor (iEnum K (tCons (tVar 0) tNil)) (gTup K 2 (gCons (gName 2) (gCons (gName 3) gNil))) (tFor (iList K (tVar 3)) (gName 4) (sDPut (tVar 1) (tVar 4) (tVar 2))))
    (tRet (tVar 1))))
abbrev N_land_numbers : List Str := ["lands", "numbers", "number", "land", "end"]
abbrev ps_land_numbers : List Str := ["lands"]
/-- land_tree: 0 lands, 1 nearer, 2 first, 3 inside, 4 end, 5 numbers, 6 towards, 7 waiting, 8 at, 9 beyond -/
def t_land_tree (K : PySem.W.Frag) (sp_mate_of : Sp) (sp_land_numbers : Sp) : TS :=
  (tSeq (tAsg tDNewK (gName 3))
    (tSeq (tLock (tFor (iVals (tVar 1)) (gName 4) (sDPut (tVar 3) (tOp rDivI (tVar 4) (tC (.int 2))) (tC (.bl true)))))
    (tSeq (tAsg (tCall sp_land_numbers [] E0 (tCons (tVar 0) tNil)) (gName 5))
    (tSeq (tAsg (tDisp [((tVar 2), (tUn rNegI (tC (.int 1))))]) (gName 6))
    (tSeq (tAsg (tLst (tCons (tVar 2) tNil)) (gName 7))
    (tSeq (tAsg (tC (.int 0)) (gName 8))
    (tSeq (tWhile (tTest (tOp rLtI (tVar 8) (tCB (rLenS K) (tCons (tVar 7) tNil)))) (tSeq (tFor (iList K (tOp (rIxL K) (tVar 0) (tOp (rIxL K) (tVar 7) (tVar 8)))) (gName 4) (tSeq (tAsg (tDGet (tVar 5) (tCall sp_mate_of [] E0 (tCons (tVar 4) tNil))) (gName 9))
    (tIfS (tAnd (tB (tDNotIn (tOp rDivI (tVar 4) (tC (.int 2))) (tVar 3))) (tB (tDNotIn (tVar 9) (tVar 6)))) (tSeq (sDPut (tVar 6) (tVar 9) (tCall sp_mate_of [] E0 (tCons (tVar 4) tNil)))
    (tDrop (tBM K "list" rAppend (tVar 7) (tCons (tVar 9) tNil)))) tNext)))
    (tAug 8 (tC (.int 1)) (ipI fun i j => i + j))))
    (tRet (tVar 6)))))))))
abbrev N_land_tree : List Str := ["lands", "nearer", "first", "inside", "end", "numbers", "towards", "waiting", "at", "beyond"]
abbrev ps_land_tree : List Str := ["lands", "nearer", "first"]
/-- left_ties: 0 drawing, 1 nearer, 2 towards, 3 inside, 4 end, 5 left, 6 place -/
def t_left_ties (K : PySem.W.Frag) : TS :=
  (tSeq (tAsg tDNewK (gName 3))
    (tSeq (tLock (tFor (iVals (tVar 1)) (gName 4) (sDPut (tVar 3) (tOp rDivI (tVar 4) (tC (.int 2))) (tC (.bl true)))))
    (tSeq (tLock (tFor (iVals (tVar 2)) (gName 4) (sDPut (tVar 3) (tOp rDivI (tVar 4) (tC (.int 2))) (tC (.bl true)))))
    (tSeq (tAsg tDNewK (gName 5))
    (tSeq (tLock (tFor (iKeys (tVar 1)) (gName 6) (tFor (iList K (tOp (rIxL K) (tVar 0) (tVar 6))) (gName 4) (tIfS (tB (tDNotIn (tOp rDivI (tVar 4) (tC (.int 2))) (tVar 3))) (sDPut (tVar 5) (tOp rDivI (tVar 4) (tC (.int 2))) (tC (.bl true))) tNext))))
    (tRet (tCB rSortD (tCons (tVar 5) tNil))))))))
abbrev N_left_ties : List Str := ["drawing", "nearer", "towards", "inside", "end", "left", "place"]
abbrev ps_left_ties : List Str := ["drawing", "nearer", "towards"]
/-- both_trees: 0 drawing, 1 root, 2 lands, 3 nearer, 4 first, 5 towards -/
def t_both_trees (K : PySem.W.Frag) (sp_left_ties : Sp) (sp_land_tree : Sp) (sp_land_numbers : Sp) (sp_tree_from : Sp) (sp_lands_of : Sp) : TS :=
  (tSeq (tAsg (tCall sp_lands_of [] E0 (tCons (tVar 0) tNil)) (gName 2))
    (tSeq (tAsg (tCall sp_tree_from [] E0 (tCons (tVar 0) (tCons (tVar 1) tNil))) (gName 3))
    (tSeq (tAsg (tDGet (tCall sp_land_numbers [] E0 (tCons (tVar 2) tNil)) (tOp (rIxL K) (tOp (rIxL K) (tVar 0) (tVar 1)) (tC (.int 0)))) (gName 4))
    (tSeq (tAsg (tCall sp_land_tree [] E0 (tCons (tVar 2) (tCons (tVar 3) (tCons (tVar 4) tNil)))) (gName 5))
    (tRet (tTup (tCons (tVar 3) (tCons (tVar 5) (tCons (tCall sp_left_ties [] E0 (tCons (tVar 0) (tCons (tVar 3) (tCons (tVar 5) tNil)))) tNil)))))))))
abbrev N_both_trees : List Str := ["drawing", "root", "lands", "nearer", "first", "towards"]
abbrev ps_both_trees : List Str := ["drawing", "root"]
/-- is_ring: 0 drawing -/
def t_is_ring (K : PySem.W.Frag) (sp_holes_of : Sp) : TS :=
  (tRet (tOp (rEqD K) (tCall sp_holes_of [] E0 (tCons (tVar 0) tNil)) (tLst (tCons (tC (.int 1)) tNil))))
abbrev N_is_ring : List Str := ["drawing"]
abbrev ps_is_ring : List Str := ["drawing"]
/-- ask_ring: 0 drawing -/
def t_ask_ring (K : PySem.W.Frag) (sp_is_ring : Sp) : TS :=
  (tIfS (tNot (tB (tCall sp_is_ring [] E0 (tCons (tVar 0) tNil)))) tNever tNext)
abbrev N_ask_ring : List Str := ["drawing"]
abbrev ps_ask_ring : List Str := ["drawing"]
/-- mark_of: 0 marks, 1 end, 2 one, 3 two -/
def t_mark_of (K : PySem.W.Frag) : TS :=
  (tSeq (tAsg (tOp (rIxL K) (tVar 0) (tOp rDivI (tVar 1) (tC (.int 2)))) (gTup K 2 (gCons (gName 2) (gCons (gName 3) gNil))))
    (tSeq (tIfS (tTest (tOp rEq (tOp rModI (tVar 1) (tC (.int 2))) (tC (.int 1)))) (tRet (tTup (tCons (tUn rNegI (tVar 2)) (tCons (tUn rNegI (tVar 3)) tNil)))) tNext)
    (tRet (tTup (tCons (tVar 2) (tCons (tVar 3) tNil))))))
abbrev N_mark_of : List Str := ["marks", "end", "one", "two"]
abbrev ps_mark_of : List Str := ["marks", "end"]
/-- added: 0 marks, 1 ends, 2 one, 3 two, 4 end, 5 more -/
def t_added (K : PySem.W.Frag) (sp_mark_of : Sp) : TS :=
  (tSeq (tAsg (tC (.int 0)) (gName 2))
    (tSeq (tAsg (tC (.int 0)) (gName 3))
    (tSeq (tFor (iList K (tVar 1)) (gName 4) (tSeq (tAsg (tCall sp_mark_of [] E0 (tCons (tVar 0) (tCons (tVar 4) tNil))) (gName 5))
    (tSeq (tAug 2 (tOp (rIxT K) (tVar 5) (tC (.int 0))) (ipI fun i j => i + j))
    (tAug 3 (tOp (rIxT K) (tVar 5) (tC (.int 1))) (ipI fun i j => i + j)))))
    (tRet (tTup (tCons (tVar 2) (tCons (tVar 3) tNil)))))))
abbrev N_added : List Str := ["marks", "ends", "one", "two", "end", "more"]
abbrev ps_added : List Str := ["marks", "ends"]
/-- area_of: 0 marks, 1 land, 2 area, 3 one, 4 two, 5 end, 6 more -/
def t_area_of (K : PySem.W.Frag) (sp_mark_of : Sp) : TS :=
  (tSeq (tAsg (tC (.int 0)) (gName 2))
    (tSeq (tAsg (tC (.int 0)) (gName 3))
    (tSeq (tAsg (tC (.int 0)) (gName 4))
    (tSeq (tFor (iList K (tVar 1)) (gName 5) (tSeq (tAsg (tCall sp_mark_of [] E0 (tCons (tVar 0) (tCons (tVar 5) tNil))) (gName 6))
    (tSeq (tAug 2 (tOp rSubI (tOp rMulW (tVar 3) (tOp rAddI (tVar 4) (tOp (rIxT K) (tVar 6) (tC (.int 1))))) (tOp rMulW (tOp rAddI (tVar 3) (tOp (rIxT K) (tVar 6) (tC (.int 0)))) (tVar 4))) (ipI fun i j => i + j))
    (tSeq (tAug 3 (tOp (rIxT K) (tVar 6) (tC (.int 0))) (ipI fun i j => i + j))
    (tAug 4 (tOp (rIxT K) (tVar 6) (tC (.int 1))) (ipI fun i j => i + j))))))
    (tRet (tVar 2))))))
abbrev N_area_of : List Str := ["marks", "land", "area", "one", "two", "end", "more"]
abbrev ps_area_of : List Str := ["marks", "land"]
/-- areas_added: 0 marks, 1 lands, 2 land -/
def t_areas_added (K : PySem.W.Frag) (sp_area_of : Sp) : TS :=
  (tRet (tCB (rSum K) (tCons (tLc (iList K (tVar 1)) (gName 2) tYes (tCall sp_area_of [] E0 (tCons (tVar 0) (tCons (tVar 2) tNil))) [2]) tNil)))
abbrev N_areas_added : List Str := ["marks", "lands", "land"]
abbrev ps_areas_added : List Str := ["marks", "lands"]
/-- marks_of: 0 drawing, 1 nearer, 2 towards, 3 left, 4 lands, 5 marks, 6 land, 7 end, 8 one, 9 two -/
def t_marks_of (K : PySem.W.Frag) (sp_areas_added : Sp) (sp_added : Sp) (sp_lands_of : Sp) (sp_both_trees : Sp) (sp_ask_ring : Sp) : TS :=
  (tSeq (tDrop (tCall sp_ask_ring [] E0 (tCons (tVar 0) tNil)))
    (tSeq (tAsg (tCall sp_both_trees [] E0 (tCons (tVar 0) (tCons (tC (.int 0)) tNil))) (gTup K 3 (gCons (gName 1) (gCons (gName 2) (gCons (gName 3) gNil)))))
    (tSeq (tAsg (tCall sp_lands_of [] E0 (tCons (tVar 0) tNil)) (gName 4))
    (tSeq (tAsg (tOp rRep (tLst (tCons (tTup (tCons (tC (.int 0)) (tCons (tC (.int 0)) tNil))) tNil)) (tOp rDivI (tCB (rSum K) (tCons (tLc (iList K (tVar 4)) (gName 6) tYes (tCB (rLenS K) (tCons (tVar 6) tNil)) [6]) tNil)) (tC (.int 2)))) (gName 5))
    (tSeq (tAsg (tTup (tCons (tC (.int 1)) (tCons (tC (.int 0)) tNil))) (gSub (tVar 5) (tOp (rIxL K) (tVar 3) (tC (.int 0))) rSetL))
    (tSeq (tAsg (tTup (tCons (tC (.int 0)) (tCons (tC (.int 1)) tNil))) (gSub (tVar 5) (tOp (rIxL K) (tVar 3) (tC (.int 1))) rSetL))
    (tSeq (tFor (iRev K (tCons (tCB rLstD (tCons (tVar 2) tNil)) tNil)) (gName 6) (tSeq (tAsg (tDGet (tVar 2) (tVar 6)) (gName 7))
    (tIfS (tTest (tOp rGeI (tVar 7) (tC (.int 0)))) (tSeq (tAsg (tCall sp_added [] E0 (tCons (tVar 5) (tCons (tOp (rIxL K) (tVar 4) (tVar 6)) tNil))) (gTup K 2 (gCons (gName 8) (gCons (gName 9) gNil))))
    (tIfS (tTest (tOp rEq (tOp rModI (tVar 7) (tC (.int 2))) (tC (.int 0)))) (tAsg (tTup (tCons (tUn rNegI (tVar 8)) (tCons (tUn rNegI (tVar 9)) tNil))) (gSub (tVar 5) (tOp rDivI (tVar 7) (tC (.int 2))) rSetL)) (tAsg (tTup (tCons (tVar 8) (tCons (tVar 9) tNil))) (gSub (tVar 5) (tOp rDivI (tVar 7) (tC (.int 2))) rSetL)))) tNext)))
    (tSeq (tIfS (tTest (tOp rLtI (tCall sp_areas_added [] E0 (tCons (tVar 5) (tCons (tVar 4) tNil))) (tC (.int 0)))) (tRet (tLc (iList K (tVar 5)) (gTup K 2 (gCons (gName 8) (gCons (gName 9) gNil))) tYes (tTup (tCons (tVar 9) (tCons (tVar 8) tNil))) [8, 9])) tNext)
    (tRet (tVar 5))))))))))
abbrev N_marks_of : List Str := ["drawing", "nearer", "towards", "left", "lands", "marks", "land", "end", "one", "two"]
abbrev ps_marks_of : List Str := ["drawing"]
/-- is_walk: 0 drawing, 1 ends, 2 seats, 3 end, 4 at -/
def t_is_walk (K : PySem.W.Frag) (sp_mate_of : Sp) (sp_seats_of : Sp) : TS :=
  (tSeq (tAsg (tCall sp_seats_of [] E0 (tCons (tVar 0) tNil)) (gName 2))
    (tSeq (tFor (iList K (tVar 1)) (gName 3) (tIfS (tOr (tTest (tOp rLtI (tVar 3) (tC (.int 0)))) (tTest (tOp rGeI (tVar 3) (tCB (rLenS K) (tCons (tVar 2) tNil))))) (tRet (tC (.bl false))) tNext))
    (tSeq (tFor (iEnum K (tCons (tVar 1) tNil)) (gTup K 2 (gCons (gName 4) (gCons (gName 3) gNil))) (tIfS (tTest (tOp rNe (tOp (rIxL K) (tVar 2) (tCall sp_mate_of [] E0 (tCons (tOp (rIxL K) (tVar 1) (tOp rSubI (tVar 4) (tC (.int 1)))) tNil))) (tOp (rIxL K) (tVar 2) (tVar 3)))) (tRet (tC (.bl false))) tNext))
    (tRet (tC (.bl true))))))
abbrev N_is_walk : List Str := ["drawing", "ends", "seats", "end", "at"]
abbrev ps_is_walk : List Str := ["drawing", "ends"]
/-- ask_walk: 0 drawing, 1 ends -/
def t_ask_walk (K : PySem.W.Frag) (sp_is_walk : Sp) : TS :=
  (tIfS (tNot (tB (tCall sp_is_walk [] E0 (tCons (tVar 0) (tCons (tVar 1) tNil))))) tNever tNext)
abbrev N_ask_walk : List Str := ["drawing", "ends"]
abbrev ps_ask_walk : List Str := ["drawing", "ends"]
/-- left_counts: 0 drawing, 1 walk, 2 behind, 3 counts, 4 at, 5 goes, 6 comes, 7 end -/
def t_left_counts (K : PySem.W.Frag) (sp_mate_of : Sp) (sp_behind_of : Sp) : TS :=
  (tSeq (tAsg (tCall sp_behind_of [] E0 (tCons (tVar 0) tNil)) (gName 2))
    (tSeq (tAsg (tOp rRep (tLst (tCons (tC (.int 0)) tNil)) (tCB (rLenS K) (tCons (tVar 2) tNil))) (gName 3))
    (tSeq (tFor (iEnum K (tCons (tVar 1) tNil)) (gTup K 2 (gCons (gName 4) (gCons (gName 5) gNil))) (tSeq (tAsg (tCall sp_mate_of [] E0 (tCons (tOp (rIxL K) (tVar 1) (tOp rSubI (tVar 4) (tC (.int 1)))) tNil)) (gName 6))
    (tSeq (tAsg (tOp (rIxL K) (tVar 2) (tVar 6)) (gName 7))
    (tWhile (tAnd (tTest (tOp rNe (tVar 7) (tVar 5))) (tTest (tOp rNe (tVar 7) (tVar 6)))) (tSeq (tAugS (tVar 3) (tVar 7) (tC (.int 1)) (rIxN K) (ipI fun i j => i + j) rSetL)
    (tAsg (tOp (rIxL K) (tVar 2) (tVar 7)) (gName 7)))))))
    (tRet (tVar 3)))))
abbrev N_left_counts : List Str := ["drawing", "walk", "behind", "counts", "at", "goes", "comes", "end"]
abbrev ps_left_counts : List Str := ["drawing", "walk"]
/-- crossing_by: 0 counts, 1 walk, 2 end -/
def t_crossing_by (K : PySem.W.Frag) (sp_mate_of : Sp) : TS :=
  (tRet (tCB (rSum K) (tCons (tLc (iList K (tVar 1)) (gName 2) tYes (tOp rSubI (tOp (rIxL K) (tVar 0) (tVar 2)) (tOp (rIxL K) (tVar 0) (tCall sp_mate_of [] E0 (tCons (tVar 2) tNil)))) [2]) tNil)))
abbrev N_crossing_by : List Str := ["counts", "walk", "end"]
abbrev ps_crossing_by : List Str := ["counts", "walk"]
/-- net_counts: 0 drawing, 1 walk, 2 net, 3 end -/
def t_net_counts (K : PySem.W.Frag) (sp_mate_of : Sp) (sp_count_ends : Sp) : TS :=
  (tSeq (tAsg (tOp rRep (tLst (tCons (tC (.int 0)) tNil)) (tCall sp_count_ends [] E0 (tCons (tVar 0) tNil))) (gName 2))
    (tSeq (tFor (iList K (tVar 1)) (gName 3) (tSeq (tAugS (tVar 2) (tVar 3) (tC (.int 1)) (rIxN K) (ipI fun i j => i + j) rSetL)
    (tAugS (tVar 2) (tCall sp_mate_of [] E0 (tCons (tVar 3) tNil)) (tC (.int 1)) (rIxN K) (ipI fun i j => i - j) rSetL)))
    (tRet (tVar 2))))
abbrev N_net_counts : List Str := ["drawing", "walk", "net", "end"]
abbrev ps_net_counts : List Str := ["drawing", "walk"]
/-- spread_numbers: 0 lands, 1 inside, 2 net, 3 first, 4 found, 5 waiting, 6 land, 7 end, 8 beyond, 9 number -/
def t_spread_numbers (K : PySem.W.Frag) (sp_mate_of : Sp) : TS :=
  (tSeq (tAsg (tDisp [((tVar 3), (tC (.int 0)))]) (gName 4))
    (tSeq (tAsg (tLst (tCons (tVar 3) tNil)) (gName 5))
    (tSeq (tWhile (tTest (tOp rGtI (tCB (rLenS K) (tCons (tVar 5) tNil)) (tC (.int 0)))) (tSeq (tAsg (tBM0 K "list" rPop (tVar 5)) (gName 6))
    (tFor (iList K (tOp (rIxL K) (tVar 0) (tVar 6))) (gName 7) (tSeq (tAsg (tDGet (tVar 1) (tCall sp_mate_of [] E0 (tCons (tVar 7) tNil))) (gName 8))
    (tSeq (tAsg (tOp rSubI (tDGet (tVar 4) (tVar 6)) (tOp (rIxL K) (tVar 2) (tVar 7))) (gName 9))
    (tIfS (tB (tDNotIn (tVar 8) (tVar 4))) (tSeq (sDPut (tVar 4) (tVar 8) (tVar 9))
    (tDrop (tBM K "list" rAppend (tVar 5) (tCons (tVar 8) tNil)))) (tIfS (tTest (tOp rNe (tDGet (tVar 4) (tVar 8)) (tVar 9))) (tRet (tC .non)) tNext)))))))
    (tRet (tVar 4)))))
abbrev N_spread_numbers : List Str := ["lands", "inside", "net", "first", "found", "waiting", "land", "end", "beyond", "number"]
abbrev ps_spread_numbers : List Str := ["lands", "inside", "net", "first"]
/-- filling: 0 drawing, 1 walk, 2 lands, 3 inside, 4 net, 5 numbers, 6 first, 7 found, 8 least, 9 land, 10 number -/
def t_filling (K : PySem.W.Frag) (sp_spread_numbers : Sp) (sp_net_counts : Sp) (sp_land_numbers : Sp) (sp_lands_of : Sp) : TS :=
  (tSeq (tAsg (tCall sp_lands_of [] E0 (tCons (tVar 0) tNil)) (gName 2))
    (tSeq (tAsg (tCall sp_land_numbers [] E0 (tCons (tVar 2) tNil)) (gName 3))
    (tSeq (tAsg (tCall sp_net_counts [] E0 (tCons (tVar 0) (tCons (tVar 1) tNil))) (gName 4))
    (tSeq (tAsg tDNewK (gName 5))
    (tSeq (tFor (iRng1 (tCons (tCB (rLenS K) (tCons (tVar 2) tNil)) tNil)) (gName 6) (tSeq (tIfS (tB (tDIn (tVar 6) (tVar 5))) tCont tNext)
    (tSeq (tAsg (tCall sp_spread_numbers [] E0 (tCons (tVar 2) (tCons (tVar 3) (tCons (tVar 4) (tCons (tVar 6) tNil))))) (gName 7))
    (tSeq (tIfS (tB (tIsN (tVar 7))) (tRet (tC .non)) tNext)
    (tSeq (tAsg (tMinVals (tVar 7)) (gName 8))
    (tLock (tFor (iItems (tVar 7)) (gTup K 2 (gCons (gName 9) (gCons (gName 10) gNil))) (sDPut (tVar 5) (tVar 9) (tOp rSubI (tVar 10) (tVar 8))))))))))
    (tRet (tLc (iRng1 (tCons (tCB (rLenS K) (tCons (tVar 2) tNil)) tNil)) (gName 9) tYes (tDGet (tVar 5) (tVar 9)) [9])))))))
abbrev N_filling : List Str := ["drawing", "walk", "lands", "inside", "net", "numbers", "first", "found", "least", "land", "number"]
abbrev ps_filling : List Str := ["drawing", "walk"]
/-- crosser: 0 drawing, 1 walk, 2 seats, 3 counts, 4 nearer, 5 place, 6 end, 7 turn -/
def t_crosser (K : PySem.W.Frag) (sp_mate_of : Sp) (sp_crossing_by : Sp) (sp_round_along : Sp) (sp_tree_from : Sp) (sp_left_counts : Sp) (sp_seats_of : Sp) : TS :=
  (tSeq (tAsg (tCall sp_seats_of [] E0 (tCons (tVar 0) tNil)) (gName 2))
    (tSeq (tAsg (tCall sp_left_counts [] E0 (tCons (tVar 0) (tCons (tVar 1) tNil))) (gName 3))
    (tSeq (tAsg (tCall sp_tree_from [] E0 (tCons (tVar 0) (tCons (tOp (rIxL K) (tVar 2) (tOp (rIxL K) (tVar 1) (tC (.int 0)))) tNil))) (gName 4))
    (tSeq (tLock (tFor (iKeys (tVar 4)) (gName 5) (tFor (iList K (tOp (rIxL K) (tVar 0) (tVar 5))) (gName 6) (tIfS (tAnd (tTest (tOp rNe (tDGet (tVar 4) (tVar 5)) (tVar 6))) (tTest (tOp rNe (tDGet (tVar 4) (tOp (rIxL K) (tVar 2) (tCall sp_mate_of [] E0 (tCons (tVar 6) tNil)))) (tCall sp_mate_of [] E0 (tCons (tVar 6) tNil))))) (tSeq (tAsg (tCall sp_round_along [] E0 (tCons (tVar 2) (tCons (tVar 4) (tCons (tVar 6) tNil)))) (gName 7))
    (tIfS (tTest (tOp rNe (tCall sp_crossing_by [] E0 (tCons (tVar 3) (tCons (tVar 7) tNil))) (tC (.int 0)))) (tRet (tVar 7)) tNext)) tNext))))
    (tRet (tLst tNil))))))
abbrev N_crosser : List Str := ["drawing", "walk", "seats", "counts", "nearer", "place", "end", "turn"]
abbrev ps_crosser : List Str := ["drawing", "walk"]
/-- fill_of: 0 drawing, 1 walk, 2 numbers -/
def t_fill_of (K : PySem.W.Frag) (sp_crosser : Sp) (sp_filling : Sp) (sp_ask_walk : Sp) : TS :=
  (tSeq (tDrop (tCall sp_ask_walk [] E0 (tCons (tVar 0) (tCons (tVar 1) tNil))))
    (tSeq (tAsg (tCall sp_filling [] E0 (tCons (tVar 0) (tCons (tVar 1) tNil))) (gName 2))
    (tSeq (tIfS (tB (tIsN (tVar 2))) (tRet (tTup (tCons (tC (.str "crossed")) (tCons (tCall sp_crosser [] E0 (tCons (tVar 0) (tCons (tVar 1) tNil))) tNil)))) tNext)
    (tRet (tTup (tCons (tC (.str "filled")) (tCons (tVar 2) tNil)))))))
abbrev N_fill_of : List Str := ["drawing", "walk", "numbers"]
abbrev ps_fill_of : List Str := ["drawing", "walk"]
/-- _law_cell: 0 _law_script, 1 _law_k -/
def t__law_cell (K : PySem.W.Frag) : TS :=
  (tSeq (tIfS (tTest (tOp rEq (tCB (rLenS K) (tCons (tVar 0) tNil)) (tC (.int 0)))) (tRet (tOp rAddI (tOp rMulI (tC (.int 48271)) (tVar 1)) (tC (.int 5)))) tNext)
    (tSeq (tIfS (tTest (tOp rLtI (tVar 1) (tCB (rLenS K) (tCons (tVar 0) tNil)))) (tRet (tOp (rIxL K) (tVar 0) (tVar 1))) tNext)
    (tRet (tOp rAddI (tOp rMulI (tOp rModI (tOp (rIxL K) (tVar 0) (tOp rModI (tVar 1) (tCB (rLenS K) (tCons (tVar 0) tNil)))) (tC (.int 1000033))) (tC (.int 39373))) (tOp rMulI (tC (.int 7907)) (tVar 1))))))
abbrev N__law_cell : List Str := ["_law_script", "_law_k"]
abbrev ps__law_cell : List Str := ["_law_script", "_law_k"]
/-- _law_draws: 0 _law_cell_here, 1 _law_sizes, 2 _law_rest_here, 3 _law_found, 4 _law_k, 5 _law_size, 6 _law_mixed -/
def t__law_draws (K : PySem.W.Frag) : TS :=
  (tSeq (tAsg (tC (.int 0)) (gName 2))
    (tSeq (tIfS (tTest (tOp rGeI (tVar 0) (tOp rPowI (tC (.int 10)) (tC (.int 18))))) (tAsg (tVar 0) (gName 2)) tNext)
    (tSeq (tAsg (tLst tNil) (gName 3))
    (tSeq (tFor (iEnum K (tCons (tVar 1) tNil)) (gTup K 2 (gCons (gName 4) (gCons (gName 5) gNil))) (tIfS (tTest (tOp rGtI (tVar 2) (tC (.int 0)))) (tSeq (tDrop (tBM K "list" rAppend (tVar 3) (tCons (tOp rModI (tVar 2) (tVar 5)) tNil)))
    (tAsg (tOp rDivI (tVar 2) (tVar 5)) (gName 2))) (tSeq (tAsg (tOp rModI (tOp rPowI (tOp rAddI (tOp rAddI (tOp rAddI (tOp rModI (tVar 0) (tC (.int 2147483647))) (tOp rMulI (tOp rMulI (tC (.int 1009)) (tVar 4)) (tVar 4))) (tOp rMulI (tC (.int 48611)) (tVar 4))) (tC (.int 17))) (tC (.int 5))) (tC (.int 2147483647))) (gName 6))
    (tDrop (tBM K "list" rAppend (tVar 3) (tCons (tOp rModI (tOp rModI (tOp rAddI (tOp rMulI (tVar 6) (tC (.int 48271))) (tOp rMulI (tC (.int 7919)) (tVar 4))) (tC (.int 1000000007))) (tVar 5)) tNil))))))
    (tRet (tVar 3))))))
abbrev N__law_draws : List Str := ["_law_cell_here", "_law_sizes", "_law_rest_here", "_law_found", "_law_k", "_law_size", "_law_mixed"]
abbrev ps__law_draws : List Str := ["_law_cell_here", "_law_sizes"]
/-- _law_mate: 0 _law_end -/
def t__law_mate (K : PySem.W.Frag) : TS :=
  (tRet (tOp rSubI (tOp rAddI (tVar 0) (tC (.int 1))) (tOp rMulI (tC (.int 2)) (tOp rModI (tVar 0) (tC (.int 2))))))
abbrev N__law_mate : List Str := ["_law_end"]
abbrev ps__law_mate : List Str := ["_law_end"]
/-- _law_settled: 0 _law_rows, 1 _law_found, 2 _law_row, 3 _law_at -/
def t__law_settled (K : PySem.W.Frag) : TS :=
  (tSeq (tAsg (tLst tNil) (gName 1))
    (tSeq (tFor (iList K (tVar 0)) (gName 2) (tSeq (tAsg (tC (.int 0)) (gName 3))
    (tSeq (tIfS (tTest (tOp rGtI (tCB (rLenS K) (tCons (tVar 2) tNil)) (tC (.int 0)))) (tAsg (tBM K "list" (rIndex K) (tVar 2) (tCons (tCB (rMin K) (tCons (tVar 2) tNil)) tNil)) (gName 3)) tNext)
    (tDrop (tBM K "list" rAppend (tVar 1) (tCons (tOp rCat (tSl (rSlL K) (tVar 2) (tPart (tVar 3)) tNoPart) (tSl (rSlL K) (tVar 2) tNoPart (tPart (tVar 3)))) tNil))))))
    (tRet (tVar 1))))
abbrev N__law_settled : List Str := ["_law_rows", "_law_found", "_law_row", "_law_at"]
abbrev ps__law_settled : List Str := ["_law_rows"]
/-- _law_seats: 0 _law_drawing_here, 1 _law_seats_here, 2 _law_place, 3 _law_end -/
def t__law_seats (K : PySem.W.Frag) : TS :=
  (tSeq (tAsg tDNewK (gName 1))
    (tSeq (tFor (iRng1 (tCons (tCB (rLenS K) (tCons (tVar 0) tNil)) tNil)) (gName 2) (tFor (iList K (tOp (rIxL K) (tVar 0) (tVar 2))) (gName 3) (sDPut (tVar 1) (tVar 3) (tVar 2))))
    (tRet (tVar 1))))
abbrev N__law_seats : List Str := ["_law_drawing_here", "_law_seats_here", "_law_place", "_law_end"]
abbrev ps__law_seats : List Str := ["_law_drawing_here"]
/-- _law_behind: 0 _law_drawing_here, 1 _law_behind_here, 2 _law_row, 3 _law_k -/
def t__law_behind (K : PySem.W.Frag) : TS :=
  (tSeq (tAsg tDNewK (gName 1))
    (tSeq (tFor (iList K (tVar 0)) (gName 2) (tFor (iRng1 (tCons (tCB (rLenS K) (tCons (tVar 2) tNil)) tNil)) (gName 3) (sDPut (tVar 1) (tOp (rIxL K) (tVar 2) (tVar 3)) (tOp (rIxL K) (tVar 2) (tOp rModI (tOp rAddI (tVar 3) (tC (.int 1))) (tCB (rLenS K) (tCons (tVar 2) tNil)))))))
    (tRet (tVar 1))))
abbrev N__law_behind : List Str := ["_law_drawing_here", "_law_behind_here", "_law_row", "_law_k"]
abbrev ps__law_behind : List Str := ["_law_drawing_here"]
/-- _law_lands: 0 _law_drawing_here, 1 _law_behind_here, 2 _law_seen, 3 _law_lands_here, 4 _law_start, 5 _law_land, 6 _law_end, 7 _law_row -/
def t__law_lands (K : PySem.W.Frag) (sp__law_mate : Sp) (sp__law_behind : Sp) : TS :=
  (tSeq (tAsg (tCall sp__law_behind [] E0 (tCons (tVar 0) tNil)) (gName 1))
    (tSeq (tAsg tDNewK (gName 2))
    (tSeq (tAsg (tLst tNil) (gName 3))
    (tSeq (tFor (iRng1 (tCons (tCB rLenD (tCons (tVar 1) tNil)) tNil)) (gName 4) (tSeq (tAsg (tLst tNil) (gName 5))
    (tSeq (tAsg (tVar 4) (gName 6))
    (tSeq (tWhile (tB (tDNotIn (tVar 6) (tVar 2))) (tSeq (sDPut (tVar 2) (tVar 6) (tC (.bl true)))
    (tSeq (tDrop (tBM K "list" rAppend (tVar 5) (tCons (tVar 6) tNil)))
    (tAsg (tDGet (tVar 1) (tCall sp__law_mate [] E0 (tCons (tVar 6) tNil))) (gName 6)))))
    (tIfS (tTest (tOp rGtI (tCB (rLenS K) (tCons (tVar 5) tNil)) (tC (.int 0)))) (tDrop (tBM K "list" rAppend (tVar 3) (tCons (tVar 5) tNil))) tNext)))))
    (tRet (tOp rCat (tVar 3) (tLc (iList K (tVar 0)) (gName 7) (tTest (tOp rEq (tCB (rLenS K) (tCons (tVar 7) tNil)) (tC (.int 0)))) (tLst tNil) [7])))))))
abbrev N__law_lands : List Str := ["_law_drawing_here", "_law_behind_here", "_law_seen", "_law_lands_here", "_law_start", "_law_land", "_law_end", "_law_row"]
abbrev ps__law_lands : List Str := ["_law_drawing_here"]
/-- _law_tied: 0 _law_rows, 1 _law_tie, 2 _law_one, 3 _law_two, 4 _law_high, 5 _law_lands_here, 6 _law_home, 7 _law_number, 8 _law_end, 9 _law_first, 10 _law_ends, 11 _law_second, 12 _law_name, 13 _law_row -/
def t__law_tied (K : PySem.W.Frag) (sp__law_lands : Sp) : TS :=
  (tSeq (tIfS (tTest (tOp rEq (tVar 1) (tC (.int 0)))) (tSeq (tDrop (tBM K "list" rExtend (tOp (rIxL K) (tVar 0) (tC (.int 0))) (tCons (tLst (tCons (tC (.int 0)) (tCons (tC (.int 1)) tNil))) tNil)))
    tRetN) tNext)
    (tSeq (tAsg (tCall sp__law_lands [] E0 (tCons (tVar 0) tNil)) (gName 5))
    (tSeq (tAsg tDNewK (gName 6))
    (tSeq (tFor (iRng1 (tCons (tCB (rLenS K) (tCons (tVar 5) tNil)) tNil)) (gName 7) (tFor (iList K (tOp (rIxL K) (tVar 5) (tVar 7))) (gName 8) (sDPut (tVar 6) (tVar 8) (tVar 7))))
    (tSeq (tAsg (tOp rModI (tVar 2) (tOp rMulI (tC (.int 2)) (tVar 1))) (gName 9))
    (tSeq (tAsg (tLc (iRng1 (tCons (tOp rMulI (tC (.int 2)) (tVar 1)) tNil)) (gName 8) (tTest (tOp rEq (tOp rNe (tDGet (tVar 6) (tVar 8)) (tDGet (tVar 6) (tVar 9))) (tVar 4))) (tVar 8) [8]) (gName 10))
    (tSeq (tAsg (tOp (rIxL K) (tVar 10) (tOp rModI (tVar 3) (tCB (rLenS K) (tCons (tVar 10) tNil)))) (gName 11))
    (tFor (iList K (tLst (tCons (tTup (tCons (tOp rMulI (tC (.int 2)) (tVar 1)) (tCons (tVar 9) tNil))) (tCons (tTup (tCons (tOp rAddI (tOp rMulI (tC (.int 2)) (tVar 1)) (tC (.int 1))) (tCons (tVar 11) tNil))) tNil)))) (gTup K 2 (gCons (gName 12) (gCons (gName 8) gNil))) (tFor (iList K (tVar 0)) (gName 13) (tIfS (tTest (tOp (rIn K false) (tVar 8) (tVar 13))) (tDrop (tBM K "list" rInsert (tVar 13) (tCons (tBM K "list" (rIndex K) (tVar 13) (tCons (tVar 8) tNil)) (tCons (tVar 12) tNil)))) tNext))))))))))
abbrev N__law_tied : List Str := ["_law_rows", "_law_tie", "_law_one", "_law_two", "_law_high", "_law_lands_here", "_law_home", "_law_number", "_law_end", "_law_first", "_law_ends", "_law_second", "_law_name", "_law_row"]
abbrev ps__law_tied : List Str := ["_law_rows", "_law_tie", "_law_one", "_law_two", "_law_high"]
/-- _law_renamed: 0 _law_rows, 1 _law_ties, 2 _law_cell_here, 3 _law_picks, 4 _law_k, 5 _law_left, 6 _law_names, 7 _law_tie, 8 _law_name, 9 _law_end, 10 _law_row, 11 _law_found -/
def t__law_renamed (K : PySem.W.Frag) (sp__law_settled : Sp) (sp__law_draws : Sp) : TS :=
  (tSeq (tAsg (tCall sp__law_draws [] E0 (tCons (tVar 2) (tCons (tOp rCat (tOp rCat (tLc (iRng1 (tCons (tVar 1) tNil)) (gName 4) tYes (tOp rSubI (tVar 1) (tVar 4)) [4]) (tOp rRep (tLst (tCons (tC (.int 2)) tNil)) (tVar 1))) (tLc (iRng1 (tCons (tCB (rLenS K) (tCons (tVar 0) tNil)) tNil)) (gName 4) tYes (tOp rSubI (tCB (rLenS K) (tCons (tVar 0) tNil)) (tVar 4)) [4])) tNil))) (gName 3))
    (tSeq (tAsg (tLstRg (tRg1 (tVar 1))) (gName 5))
    (tSeq (tAsg tDNewK (gName 6))
    (tSeq (tFor (iRng1 (tCons (tVar 1) tNil)) (gName 7) (tSeq (tAsg (tBM K "list" rPopAt (tVar 5) (tCons (tOp (rIxL K) (tVar 3) (tVar 7)) tNil)) (gName 8))
    (tSeq (sDPut (tVar 6) (tOp rMulI (tC (.int 2)) (tVar 7)) (tOp rAddI (tOp rMulI (tC (.int 2)) (tVar 8)) (tOp (rIxL K) (tVar 3) (tOp rAddI (tVar 1) (tVar 7)))))
    (sDPut (tVar 6) (tOp rAddI (tOp rMulI (tC (.int 2)) (tVar 7)) (tC (.int 1))) (tOp rSubI (tOp rAddI (tOp rMulI (tC (.int 2)) (tVar 8)) (tC (.int 1))) (tOp (rIxL K) (tVar 3) (tOp rAddI (tVar 1) (tVar 7))))))))
    (tSeq (tAsg (tLc (iList K (tVar 0)) (gName 10) tYes (tLc (iList K (tVar 10)) (gName 9) tYes (tDGet (tVar 6) (tVar 9)) [9]) [10]) (gName 5))
    (tSeq (tAsg (tLst tNil) (gName 11))
    (tSeq (tFor (iRng1 (tCons (tCB (rLenS K) (tCons (tVar 0) tNil)) tNil)) (gName 4) (tDrop (tBM K "list" rAppend (tVar 11) (tCons (tBM K "list" rPopAt (tVar 5) (tCons (tOp (rIxL K) (tVar 3) (tOp rAddI (tOp rMulI (tC (.int 2)) (tVar 1)) (tVar 4))) tNil)) tNil))))
    (tRet (tCall sp__law_settled [] E0 (tCons (tVar 11) tNil))))))))))
abbrev N__law_renamed : List Str := ["_law_rows", "_law_ties", "_law_cell_here", "_law_picks", "_law_k", "_law_left", "_law_names", "_law_tie", "_law_name", "_law_end", "_law_row", "_law_found"]
abbrev ps__law_renamed : List Str := ["_law_rows", "_law_ties", "_law_cell_here"]
/-- _law_grown: 0 _law_script, 1 _law_base, 2 _law_holes, 3 _law_seats_here, 4 _law_more, 5 _law_late, 6 _law_tree, 7 _law_picks, 8 _law_rows, 9 _law_k, 10 _law_row, 11 _law_high -/
def t__law_grown (K : PySem.W.Frag) (sp__law_renamed : Sp) (sp__law_cell : Sp) (sp__law_tied : Sp) (sp__law_draws : Sp) : TS :=
  (tSeq (tAsg (tCall sp__law_draws [] E0 (tCons (tCall sp__law_cell [] E0 (tCons (tVar 0) (tCons (tVar 1) tNil))) (tCons (tLst (tCons (tC (.int 6)) (tCons (tC (.int 5)) (tCons (tC (.int 420)) tNil)))) tNil))) (gUnl K 3 (gCons (gName 3) (gCons (gName 4) (gCons (gName 5) gNil)))))
    (tSeq (tAsg (tCall sp__law_draws [] E0 (tCons (tCall sp__law_cell [] E0 (tCons (tVar 0) (tCons (tOp rAddI (tVar 1) (tC (.int 1))) tNil))) (tCons (tOp rRep (tLst (tCons (tC (.int 60)) (tCons (tC (.int 60)) tNil))) (tVar 3)) tNil))) (gName 6))
    (tSeq (tAsg (tOp rAddI (tVar 4) (tOp rMulI (tC (.int 2)) (tVar 2))) (gName 4))
    (tSeq (tAsg (tCall sp__law_draws [] E0 (tCons (tCall sp__law_cell [] E0 (tCons (tVar 0) (tCons (tOp rAddI (tVar 1) (tC (.int 2))) tNil))) (tCons (tOp rRep (tLst (tCons (tC (.int 5040)) (tCons (tC (.int 5040)) tNil))) (tVar 4)) tNil))) (gName 7))
    (tSeq (tAsg (tLst (tCons (tLst tNil) tNil)) (gName 8))
    (tSeq (tFor (iRng1 (tCons (tVar 3) tNil)) (gName 9) (tSeq (tAsg (tOp (rIxL K) (tVar 8) (tOp rModI (tOp (rIxL K) (tVar 6) (tOp rMulI (tC (.int 2)) (tVar 9))) (tCB (rLenS K) (tCons (tVar 8) tNil)))) (gName 10))
    (tSeq (tDrop (tBM K "list" rInsert (tVar 10) (tCons (tOp rModI (tOp (rIxL K) (tVar 6) (tOp rAddI (tOp rMulI (tC (.int 2)) (tVar 9)) (tC (.int 1)))) (tOp rAddI (tCB (rLenS K) (tCons (tVar 10) tNil)) (tC (.int 1)))) (tCons (tOp rMulI (tC (.int 2)) (tVar 9)) tNil))))
    (tDrop (tBM K "list" rAppend (tVar 8) (tCons (tLst (tCons (tOp rAddI (tOp rMulI (tC (.int 2)) (tVar 9)) (tC (.int 1))) tNil)) tNil))))))
    (tSeq (tFor (iRng1 (tCons (tVar 4) tNil)) (gName 9) (tSeq (tAsg (tAndV (tOp rEq (tVar 2) (tC (.int 1))) (tOp rEq (tVar 9) (tOp rAddI (tC (.int 1)) (tOp rModI (tVar 5) (tCB rMaxI (tCons (tC (.int 1)) (tCons (tOp rSubI (tVar 4) (tC (.int 1))) tNil))))))) (gName 11))
    (tDrop (tCall sp__law_tied [] E0 (tCons (tVar 8) (tCons (tOp rAddI (tVar 3) (tVar 9)) (tCons (tOp (rIxL K) (tVar 7) (tOp rMulI (tC (.int 2)) (tVar 9))) (tCons (tOp (rIxL K) (tVar 7) (tOp rAddI (tOp rMulI (tC (.int 2)) (tVar 9)) (tC (.int 1)))) (tCons (tVar 11) tNil)))))))))
    (tRet (tCall sp__law_renamed [] E0 (tCons (tVar 8) (tCons (tOp rAddI (tVar 3) (tVar 4)) (tCons (tCall sp__law_cell [] E0 (tCons (tVar 0) (tCons (tOp rAddI (tVar 1) (tC (.int 3))) tNil))) tNil))))))))))))
abbrev N__law_grown : List Str := ["_law_script", "_law_base", "_law_holes", "_law_seats_here", "_law_more", "_law_late", "_law_tree", "_law_picks", "_law_rows", "_law_k", "_law_row", "_law_high"]
abbrev ps__law_grown : List Str := ["_law_script", "_law_base", "_law_holes"]
/-- _law_kind: 0 _law_sort, 1 _law_rows, 2 _law_columns, 3 _law_shift, 4 _law_found, 5 _law_i, 6 _law_j, 7 _law_here, 8 _law_left, 9 _law_below, 10 _law_slanted, 11 _law_row -/
def t__law_kind (K : PySem.W.Frag) (sp__law_settled : Sp) : TS :=
  (tSeq (tAsg (tLst tNil) (gName 4))
    (tSeq (tFor (iRng1 (tCons (tVar 1) tNil)) (gName 5) (tFor (iRng1 (tCons (tVar 2) tNil)) (gName 6) (tSeq (tAsg (tOp rAddI (tOp rMulI (tVar 5) (tVar 2)) (tVar 6)) (gName 7))
    (tSeq (tAsg (tOp rAddI (tOp rMulI (tVar 5) (tVar 2)) (tOp rModI (tOp rSubI (tVar 6) (tC (.int 1))) (tVar 2))) (gName 8))
    (tSeq (tAsg (tOp rSubI (tVar 7) (tVar 2)) (gName 9))
    (tSeq (tAsg (tOp rSubI (tVar 8) (tVar 2)) (gName 10))
    (tSeq (tIfS (tTest (tOp rEq (tVar 5) (tC (.int 0)))) (tSeq (tAsg (tOp rAddI (tOp rMulI (tOp rSubI (tVar 1) (tC (.int 1))) (tVar 2)) (tOp rModI (tOp rSubI (tVar 6) (tVar 3)) (tVar 2))) (gName 9))
    (tAsg (tOp rAddI (tOp rMulI (tOp rSubI (tVar 1) (tC (.int 1))) (tVar 2)) (tOp rModI (tOp rSubI (tOp rSubI (tVar 6) (tC (.int 1))) (tVar 3)) (tVar 2))) (gName 10))) tNext)
    (tIfS (tTest (tOp rEq (tVar 0) (tC (.str "fours")))) (tDrop (tBM K "list" rAppend (tVar 4) (tCons (tLst (tCons (tOp rAddI (tOp rMulI (tC (.int 4)) (tVar 7)) (tC (.int 2))) (tCons (tOp rMulI (tC (.int 4)) (tVar 7)) (tCons (tOp rAddI (tOp rMulI (tC (.int 4)) (tVar 9)) (tC (.int 3))) (tCons (tOp rAddI (tOp rMulI (tC (.int 4)) (tVar 8)) (tC (.int 1))) tNil))))) tNil))) (tSeq (tAsg (tLst (tCons (tOp rAddI (tOp rMulI (tC (.int 6)) (tVar 7)) (tC (.int 2))) (tCons (tOp rAddI (tOp rMulI (tC (.int 6)) (tVar 7)) (tC (.int 4))) (tCons (tOp rMulI (tC (.int 6)) (tVar 7)) tNil)))) (gName 11))
    (tDrop (tBM K "list" rAppend (tVar 4) (tCons (tOp rCat (tVar 11) (tLst (tCons (tOp rAddI (tOp rMulI (tC (.int 6)) (tVar 9)) (tC (.int 3))) (tCons (tOp rAddI (tOp rMulI (tC (.int 6)) (tVar 10)) (tC (.int 5))) (tCons (tOp rAddI (tOp rMulI (tC (.int 6)) (tVar 8)) (tC (.int 1))) tNil))))) tNil))))))))))))
    (tRet (tCall sp__law_settled [] E0 (tCons (tVar 4) tNil)))))
abbrev N__law_kind : List Str := ["_law_sort", "_law_rows", "_law_columns", "_law_shift", "_law_found", "_law_i", "_law_j", "_law_here", "_law_left", "_law_below", "_law_slanted", "_law_row"]
abbrev ps__law_kind : List Str := ["_law_sort", "_law_rows", "_law_columns", "_law_shift"]
/-- _law_numbers: 0 _law_cell_here, 1 _law_most, 2 _law_one, 3 _law_two, 4 _law_three, 5 _law_four, 6 _law_rows, 7 _law_columns -/
def t__law_numbers (K : PySem.W.Frag) (sp__law_draws : Sp) : TS :=
  (tSeq (tAsg (tCall sp__law_draws [] E0 (tCons (tVar 0) (tCons (tLst (tCons (tC (.int 7)) (tCons (tC (.int 40)) (tCons (tC (.int 5040)) (tCons (tC (.int 5040)) tNil))))) tNil))) (gUnl K 4 (gCons (gName 2) (gCons (gName 3) (gCons (gName 4) (gCons (gName 5) gNil))))))
    (tSeq (tAsg (tOp rAddI (tC (.int 1)) (tVar 2)) (gName 6))
    (tSeq (tIfS (tTest (tOp rEq (tVar 2) (tC (.int 6)))) (tAsg (tOp rAddI (tC (.int 1)) (tOp rModI (tVar 3) (tVar 1))) (gName 6)) tNext)
    (tSeq (tAsg (tOp rAddI (tC (.int 1)) (tOp rModI (tVar 4) (tCB rMaxI (tCons (tC (.int 1)) (tCons (tOp rDivI (tVar 1) (tVar 6)) tNil))))) (gName 7))
    (tRet (tTup (tCons (tVar 6) (tCons (tVar 7) (tCons (tOp rModI (tVar 5) (tVar 7)) tNil)))))))))
abbrev N__law_numbers : List Str := ["_law_cell_here", "_law_most", "_law_one", "_law_two", "_law_three", "_law_four", "_law_rows", "_law_columns"]
abbrev ps__law_numbers : List Str := ["_law_cell_here", "_law_most"]
/-- _law_some: 0 _law_script, 1 _law_choice, 2 _law_numbers_here, 3 _law_drawing_here -/
def t__law_some (K : PySem.W.Frag) (sp__law_renamed : Sp) (sp__law_cell : Sp) (sp__law_kind : Sp) (sp__law_numbers : Sp) (sp__law_grown : Sp) : TS :=
  (tSeq (tIfS (tTest (tOp rLtI (tVar 1) (tC (.int 2)))) tNever tNext)
    (tSeq (tIfS (tTest (tOp rLtI (tVar 1) (tC (.int 6)))) (tRet (tCall sp__law_grown [] E0 (tCons (tVar 0) (tCons (tC (.int 1)) (tCons (tOp rSubI (tOp rDivI (tVar 1) (tC (.int 2))) (tC (.int 1))) tNil))))) tNext)
    (tSeq (tAsg (tCall sp__law_numbers [] E0 (tCons (tCall sp__law_cell [] E0 (tCons (tVar 0) (tCons (tC (.int 1)) tNil))) (tCons (tC (.int 40)) tNil))) (gName 2))
    (tSeq (tAsg (tCall sp__law_kind [] E0 (tCons (tOp (rIxL K) (tLst (tCons (tC (.str "fours")) (tCons (tC (.str "threes")) tNil))) (tOp rSubI (tVar 1) (tC (.int 6)))) (tCons (tOp (rIxT K) (tVar 2) (tC (.int 0))) (tCons (tOp (rIxT K) (tVar 2) (tC (.int 1))) (tCons (tOp (rIxT K) (tVar 2) (tC (.int 2))) tNil))))) (gName 3))
    (tRet (tCall sp__law_renamed [] E0 (tCons (tVar 3) (tCons (tOp rMulI (tOp rSubI (tVar 1) (tC (.int 4))) (tCB (rLenS K) (tCons (tVar 3) tNil))) (tCons (tCall sp__law_cell [] E0 (tCons (tVar 0) (tCons (tC (.int 2)) tNil))) tNil)))))))))
abbrev N__law_some : List Str := ["_law_script", "_law_choice", "_law_numbers_here", "_law_drawing_here"]
abbrev ps__law_some : List Str := ["_law_script", "_law_choice"]
/-- _law_core: 0 _law_drawing_here, 1 _law_stay, 2 _law_row, 3 _law_end, 4 _law_again, 5 _law_kept -/
def t__law_core (K : PySem.W.Frag) (sp__law_mate : Sp) : TS :=
  (tSeq (tAsg tDNewK (gName 1))
    (tSeq (tFor (iList K (tVar 0)) (gName 2) (tFor (iList K (tVar 2)) (gName 3) (sDPut (tVar 1) (tVar 3) (tC (.bl true)))))
    (tSeq (tAsg (tC (.bl true)) (gName 4))
    (tSeq (tWhile (tB (tVar 4)) (tSeq (tAsg (tC (.bl false)) (gName 4))
    (tFor (iList K (tVar 0)) (gName 2) (tSeq (tAsg (tLc (iList K (tVar 2)) (gName 3) (tB (tDGet (tVar 1) (tVar 3))) (tVar 3) [3]) (gName 5))
    (tIfS (tTest (tOp rEq (tCB (rLenS K) (tCons (tVar 5) tNil)) (tC (.int 1)))) (tSeq (sDPut (tVar 1) (tOp (rIxL K) (tVar 5) (tC (.int 0))) (tC (.bl false)))
    (tSeq (sDPut (tVar 1) (tCall sp__law_mate [] E0 (tCons (tOp (rIxL K) (tVar 5) (tC (.int 0))) tNil)) (tC (.bl false)))
    (tAsg (tC (.bl true)) (gName 4)))) tNext)))))
    (tRet (tVar 1))))))
abbrev N__law_core : List Str := ["_law_drawing_here", "_law_stay", "_law_row", "_law_end", "_law_again", "_law_kept"]
abbrev ps__law_core : List Str := ["_law_drawing_here"]
/-- _law_turn: 0 _law_drawing_here, 1 _law_cell_here, 2 _law_stay, 3 _law_good, 4 _law_end, 5 _law_seats_here, 6 _law_picks, 7 _law_walk, 8 _law_k, 9 _law_place, 10 _law_at, 11 _law_ways -/
def t__law_turn (K : PySem.W.Frag) (sp__law_mate : Sp) (sp__law_draws : Sp) (sp__law_seats : Sp) (sp__law_core : Sp) : TS :=
  (tSeq (tAsg (tCall sp__law_core [] E0 (tCons (tVar 0) tNil)) (gName 2))
    (tSeq (tAsg (tLc (iList K (tCB rSortD (tCons (tVar 2) tNil))) (gName 4) (tB (tDGet (tVar 2) (tVar 4))) (tVar 4) [4]) (gName 3))
    (tSeq (tIfS (tTest (tOp rEq (tCB (rLenS K) (tCons (tVar 3) tNil)) (tC (.int 0)))) (tRet (tLst tNil)) tNext)
    (tSeq (tAsg (tCall sp__law_seats [] E0 (tCons (tVar 0) tNil)) (gName 5))
    (tSeq (tAsg (tCall sp__law_draws [] E0 (tCons (tVar 1) (tCons (tOp rCat (tLst (tCons (tCB (rLenS K) (tCons (tVar 3) tNil)) tNil)) (tOp rRep (tLst (tCons (tC (.int 840)) tNil)) (tOp rAddI (tCB (rLenS K) (tCons (tVar 0) tNil)) (tC (.int 1))))) tNil))) (gName 6))
    (tSeq (tAsg (tLst (tCons (tOp (rIxL K) (tVar 3) (tOp (rIxL K) (tVar 6) (tC (.int 0)))) tNil)) (gName 7))
    (tSeq (tFor (iRng1 (tCons (tOp rAddI (tCB (rLenS K) (tCons (tVar 0) tNil)) (tC (.int 1))) tNil)) (gName 8) (tSeq (tAsg (tDGet (tVar 5) (tCall sp__law_mate [] E0 (tCons (tOp (rIxL K) (tVar 7) (tUn rNegI (tC (.int 1)))) tNil))) (gName 9))
    (tSeq (tFor (iRng1 (tCons (tCB (rLenS K) (tCons (tVar 7) tNil)) tNil)) (gName 10) (tIfS (tTest (tOp rEq (tDGet (tVar 5) (tOp (rIxL K) (tVar 7) (tVar 10))) (tVar 9))) (tRet (tSl (rSlL K) (tVar 7) (tPart (tVar 10)) tNoPart)) tNext))
    (tSeq (tAsg (tLc (iList K (tOp (rIxL K) (tVar 0) (tVar 9))) (gName 4) (tAnd (tB (tDGet (tVar 2) (tVar 4))) (tTest (tOp rNe (tVar 4) (tCall sp__law_mate [] E0 (tCons (tOp (rIxL K) (tVar 7) (tUn rNegI (tC (.int 1)))) tNil))))) (tVar 4) [4]) (gName 11))
    (tDrop (tBM K "list" rAppend (tVar 7) (tCons (tOp (rIxL K) (tVar 11) (tOp rModI (tOp (rIxL K) (tVar 6) (tOp rAddI (tVar 8) (tC (.int 1)))) (tCB (rLenS K) (tCons (tVar 11) tNil)))) tNil)))))))
    (tRet (tLst tNil)))))))))
abbrev N__law_turn : List Str := ["_law_drawing_here", "_law_cell_here", "_law_stay", "_law_good", "_law_end", "_law_seats_here", "_law_picks", "_law_walk", "_law_k", "_law_place", "_law_at", "_law_ways"]
abbrev ps__law_turn : List Str := ["_law_drawing_here", "_law_cell_here"]
/-- _law_parted: 0 _law_drawing_here, 1 _law_turn_here, 2 _law_lands_here, 3 _law_home, 4 _law_k, 5 _law_end, 6 _law_gone, 7 _law_seen, 8 _law_waiting, 9 _law_beyond -/
def t__law_parted (K : PySem.W.Frag) (sp__law_mate : Sp) (sp__law_lands : Sp) : TS :=
  (tSeq (tAsg (tCall sp__law_lands [] E0 (tCons (tVar 0) tNil)) (gName 2))
    (tSeq (tAsg tDNewK (gName 3))
    (tSeq (tFor (iRng1 (tCons (tCB (rLenS K) (tCons (tVar 2) tNil)) tNil)) (gName 4) (tFor (iList K (tOp (rIxL K) (tVar 2) (tVar 4))) (gName 5) (sDPut (tVar 3) (tVar 5) (tVar 4))))
    (tSeq (tAsg (tLc (iList K (tVar 1)) (gName 5) tYes (tOp rDivI (tVar 5) (tC (.int 2))) [5]) (gName 6))
    (tSeq (tAsg (tDisp [((tDGet (tVar 3) (tOp (rIxL K) (tVar 1) (tC (.int 0)))), (tC (.bl true)))]) (gName 7))
    (tSeq (tAsg (tLst (tCons (tDGet (tVar 3) (tOp (rIxL K) (tVar 1) (tC (.int 0)))) tNil)) (gName 8))
    (tSeq (tWhile (tTest (tOp rGtI (tCB (rLenS K) (tCons (tVar 8) tNil)) (tC (.int 0)))) (tFor (iList K (tOp (rIxL K) (tVar 2) (tBM0 K "list" rPop (tVar 8)))) (gName 5) (tSeq (tAsg (tDGet (tVar 3) (tCall sp__law_mate [] E0 (tCons (tVar 5) tNil))) (gName 9))
    (tIfS (tAnd (tTest (tOp (rIn K true) (tOp rDivI (tVar 5) (tC (.int 2))) (tVar 6))) (tB (tDNotIn (tVar 9) (tVar 7)))) (tSeq (sDPut (tVar 7) (tVar 9) (tC (.bl true)))
    (tDrop (tBM K "list" rAppend (tVar 8) (tCons (tVar 9) tNil)))) tNext))))
    (tRet (tDNotIn (tDGet (tVar 3) (tCall sp__law_mate [] E0 (tCons (tOp (rIxL K) (tVar 1) (tC (.int 0))) tNil))) (tVar 7))))))))))
abbrev N__law_parted : List Str := ["_law_drawing_here", "_law_turn_here", "_law_lands_here", "_law_home", "_law_k", "_law_end", "_law_gone", "_law_seen", "_law_waiting", "_law_beyond"]
abbrev ps__law_parted : List Str := ["_law_drawing_here", "_law_turn_here"]
/-- _law_mark: 0 _law_marks, 1 _law_end, 2 _law_one, 3 _law_two -/
def t__law_mark (K : PySem.W.Frag) : TS :=
  (tSeq (tAsg (tOp (rIxL K) (tVar 0) (tOp rDivI (tVar 1) (tC (.int 2)))) (gTup K 2 (gCons (gName 2) (gCons (gName 3) gNil))))
    (tSeq (tIfS (tTest (tOp rEq (tOp rModI (tVar 1) (tC (.int 2))) (tC (.int 1)))) (tRet (tTup (tCons (tUn rNegI (tVar 2)) (tCons (tUn rNegI (tVar 3)) tNil)))) tNext)
    (tRet (tTup (tCons (tVar 2) (tCons (tVar 3) tNil))))))
abbrev N__law_mark : List Str := ["_law_marks", "_law_end", "_law_one", "_law_two"]
abbrev ps__law_mark : List Str := ["_law_marks", "_law_end"]
/-- _law_sums: 0 _law_marks, 1 _law_ends, 2 _law_one, 3 _law_end, 4 _law_two -/
def t__law_sums (K : PySem.W.Frag) (sp__law_mark : Sp) : TS :=
  (tSeq (tAsg (tCB (rSum K) (tCons (tLc (iList K (tVar 1)) (gName 3) tYes (tOp (rIxT K) (tCall sp__law_mark [] E0 (tCons (tVar 0) (tCons (tVar 3) tNil))) (tC (.int 0))) [3]) tNil)) (gName 2))
    (tSeq (tAsg (tCB (rSum K) (tCons (tLc (iList K (tVar 1)) (gName 3) tYes (tOp (rIxT K) (tCall sp__law_mark [] E0 (tCons (tVar 0) (tCons (tVar 3) tNil))) (tC (.int 1))) [3]) tNil)) (gName 4))
    (tRet (tTup (tCons (tVar 2) (tCons (tVar 4) tNil))))))
abbrev N__law_sums : List Str := ["_law_marks", "_law_ends", "_law_one", "_law_end", "_law_two"]
abbrev ps__law_sums : List Str := ["_law_marks", "_law_ends"]
/-- _law_rest: 0 _law_drawing_here, 1 _law_turn_here, 2 _law_seats_here, 3 _law_used, 4 _law_end, 5 _law_rows, 6 _law_place, 7 _law_row -/
def t__law_rest (K : PySem.W.Frag) (sp__law_mate : Sp) (sp__law_seats : Sp) : TS :=
  (tSeq (tAsg (tCall sp__law_seats [] E0 (tCons (tVar 0) tNil)) (gName 2))
    (tSeq (tAsg (tLc (iList K (tVar 1)) (gName 4) tYes (tDGet (tVar 2) (tVar 4)) [4]) (gName 3))
    (tSeq (tAsg (tLst tNil) (gName 5))
    (tSeq (tFor (iRng1 (tCons (tCB (rLenS K) (tCons (tVar 0) tNil)) tNil)) (gName 6) (tSeq (tAsg (tLst tNil) (gName 7))
    (tSeq (tIfS (tTest (tOp (rIn K true) (tVar 6) (tVar 3))) (tAsg (tLc (iList K (tOp (rIxL K) (tVar 0) (tVar 6))) (gName 4) (tTest (tOp (rIn K true) (tDGet (tVar 2) (tCall sp__law_mate [] E0 (tCons (tVar 4) tNil))) (tVar 3))) (tVar 4) [4]) (gName 7)) tNext)
    (tDrop (tBM K "list" rAppend (tVar 5) (tCons (tVar 7) tNil))))))
    (tRet (tVar 5))))))
abbrev N__law_rest : List Str := ["_law_drawing_here", "_law_turn_here", "_law_seats_here", "_law_used", "_law_end", "_law_rows", "_law_place", "_law_row"]
abbrev ps__law_rest : List Str := ["_law_drawing_here", "_law_turn_here"]
/-- _law_divides: 0 _law_one, 1 _law_two, 2 _law_rest_here -/
def t__law_divides (K : PySem.W.Frag) : TS :=
  (tSeq (tAsg (tCB rAbsI (tCons (tVar 0) tNil)) (gName 0))
    (tSeq (tAsg (tCB rAbsI (tCons (tVar 1) tNil)) (gName 1))
    (tSeq (tWhile (tTest (tOp rGtI (tVar 1) (tC (.int 0)))) (tSeq (tAsg (tOp rModI (tVar 0) (tVar 1)) (gName 2))
    (tSeq (tAsg (tVar 1) (gName 0))
    (tAsg (tVar 2) (gName 1)))))
    (tRet (tVar 0)))))
abbrev N__law_divides : List Str := ["_law_one", "_law_two", "_law_rest_here"]
abbrev ps__law_divides : List Str := ["_law_one", "_law_two"]
/-- _law_one_round: 0 _law_drawing_here, 1 _law_turn_here, 2 _law_marks, 3 _law_p, 4 _law_q, 5 _law_parted_here -/
def t__law_one_round (K : PySem.W.Frag) (sp__law_divides : Sp) (sp_fill_of : Sp) (sp__law_parted : Sp) (sp__law_sums : Sp) : TS :=
  (tSeq (tAsg (tCall sp__law_sums [] E0 (tCons (tVar 2) (tCons (tVar 1) tNil))) (gTup K 2 (gCons (gName 3) (gCons (gName 4) gNil))))
    (tSeq (tAsg (tCall sp__law_parted [] E0 (tCons (tVar 0) (tCons (tVar 1) tNil))) (gName 5))
    (tSeq (tIfS (tOr (tTest (tOp rNe (tVar 5) (tAndV (tOp rEq (tVar 3) (tC (.int 0))) (tOp rEq (tVar 4) (tC (.int 0)))))) (tTest (tOp rNe (tVar 5) (tOp rEq (tOp (rIxT K) (tCall sp_fill_of [] E0 (tCons (tVar 0) (tCons (tCB (rLstS K) (tCons (tVar 1) tNil)) tNil))) (tC (.int 0))) (tC (.str "filled")))))) (tRet (tC (.bl false))) tNext)
    (tRet (tOrV (tVar 5) (tOp rEq (tCall sp__law_divides [] E0 (tCons (tVar 3) (tCons (tVar 4) tNil))) (tC (.int 1))))))))
abbrev N__law_one_round : List Str := ["_law_drawing_here", "_law_turn_here", "_law_marks", "_law_p", "_law_q", "_law_parted_here"]
abbrev ps__law_one_round : List Str := ["_law_drawing_here", "_law_turn_here", "_law_marks"]
/-- law: 0 _law_script, 1 _law_choice, 2 _law_apart, 3 _law_drawing_here, 4 _law_one, 5 _law_two, 6 _law_other, 7 _law_marks, 8 _law_row, 9 _law_p, 10 _law_q, 11 _law_high, 12 _law_wide, 13 _law_seats_here, 14 _law_there, 15 _law_end, 16 _law_common -/
def t_law (K : PySem.W.Frag) (sp__law_seats : Sp) (sp__law_sums : Sp) (sp__law_one_round : Sp) (sp_marks_of : Sp) (sp__law_turn : Sp) (sp__law_cell : Sp) (sp__law_rest : Sp) (sp__law_some : Sp) (sp__law_draws : Sp) : TS :=
  (tSeq (tAsg (tCall sp__law_draws [] E0 (tCons (tCall sp__law_cell [] E0 (tCons (tVar 0) (tCons (tC (.int 0)) tNil))) (tCons (tLst (tCons (tC (.int 4)) (tCons (tC (.int 2)) tNil))) tNil))) (gUnl K 2 (gCons (gName 1) (gCons (gName 2) gNil))))
    (tSeq (tAsg (tCall sp__law_some [] E0 (tCons (tVar 0) (tCons (tOp rAddI (tC (.int 4)) (tVar 1)) tNil))) (gName 3))
    (tSeq (tAsg (tCall sp__law_turn [] E0 (tCons (tVar 3) (tCons (tCall sp__law_cell [] E0 (tCons (tVar 0) (tCons (tC (.int 5)) tNil))) tNil))) (gName 4))
    (tSeq (tAsg (tCall sp__law_turn [] E0 (tCons (tVar 3) (tCons (tCall sp__law_cell [] E0 (tCons (tVar 0) (tCons (tC (.int 6)) tNil))) tNil))) (gName 5))
    (tSeq (tAsg (tCall sp__law_turn [] E0 (tCons (tCall sp__law_rest [] E0 (tCons (tVar 3) (tCons (tVar 4) tNil))) (tCons (tCall sp__law_cell [] E0 (tCons (tVar 0) (tCons (tC (.int 6)) tNil))) tNil))) (gName 6))
    (tSeq (tIfS (tAnd (tTest (tOp rEq (tVar 2) (tC (.int 1)))) (tTest (tOp rGtI (tCB (rLenS K) (tCons (tVar 6) tNil)) (tC (.int 0))))) (tAsg (tVar 6) (gName 5)) tNext)
    (tSeq (tAsg (tCall sp_marks_of [] E0 (tCons (tLc (iList K (tVar 3)) (gName 8) tYes (tCB (rLstS K) (tCons (tVar 8) tNil)) [8]) tNil)) (gName 7))
    (tSeq (tIfS (tOr (tNot (tB (tCall sp__law_one_round [] E0 (tCons (tVar 3) (tCons (tVar 4) (tCons (tVar 7) tNil)))))) (tNot (tB (tCall sp__law_one_round [] E0 (tCons (tVar 3) (tCons (tVar 5) (tCons (tVar 7) tNil))))))) (tRet (tC (.bl false))) tNext)
    (tSeq (tAsg (tCall sp__law_sums [] E0 (tCons (tVar 7) (tCons (tVar 4) tNil))) (gTup K 2 (gCons (gName 9) (gCons (gName 10) gNil))))
    (tSeq (tAsg (tCall sp__law_sums [] E0 (tCons (tVar 7) (tCons (tVar 5) tNil))) (gTup K 2 (gCons (gName 11) (gCons (gName 12) gNil))))
    (tSeq (tAsg (tCall sp__law_seats [] E0 (tCons (tVar 3) tNil)) (gName 13))
    (tSeq (tAsg (tLc (iList K (tVar 4)) (gName 15) tYes (tDGet (tVar 13) (tVar 15)) [15]) (gName 14))
    (tSeq (tAsg (tCB (rLenS K) (tCons (tLc (iList K (tVar 5)) (gName 15) (tTest (tOp (rIn K false) (tDGet (tVar 13) (tVar 15)) (tVar 14))) (tVar 15) [15]) tNil)) (gName 16))
    (tSeq (tIfS (tTest (tOp rLtI (tVar 16) (tCB rAbsI (tCons (tOp rSubI (tOp rMulW (tVar 9) (tVar 12)) (tOp rMulW (tVar 10) (tVar 11))) tNil)))) (tRet (tC (.bl false))) tNext)
    (tSeq (tIfS (tOr (tTest (tOp rGtI (tVar 16) (tC (.int 0)))) (tOr (tTest (tOp (rEqD K) (tTup (tCons (tVar 9) (tCons (tVar 10) tNil))) (tTup (tCons (tC (.int 0)) (tCons (tC (.int 0)) tNil))))) (tTest (tOp (rEqD K) (tTup (tCons (tVar 11) (tCons (tVar 12) tNil))) (tTup (tCons (tC (.int 0)) (tCons (tC (.int 0)) tNil))))))) (tRet (tC (.bl true))) tNext)
    (tRet (tOrV (tOp (rEqD K) (tTup (tCons (tVar 11) (tCons (tVar 12) tNil))) (tTup (tCons (tVar 9) (tCons (tVar 10) tNil)))) (tOp (rEqD K) (tTup (tCons (tVar 11) (tCons (tVar 12) tNil))) (tTup (tCons (tUn rNegI (tVar 9)) (tCons (tUn rNegI (tVar 10)) tNil)))))))))))))))))))))
abbrev N_law : List Str := ["_law_script", "_law_choice", "_law_apart", "_law_drawing_here", "_law_one", "_law_two", "_law_other", "_law_marks", "_law_row", "_law_p", "_law_q", "_law_high", "_law_wide", "_law_seats_here", "_law_there", "_law_end", "_law_common"]
abbrev ps_law : List Str := ["_law_script"]
end Rf
end
section
set_option autoImplicit false
/-! Ma: ends, mates, sums, parts of the ends in rings. -/
namespace Rf

/-! ### ends -/
def mate (e : Nat) : Nat := if e % 2 = 0 then e + 1 else e - 1
theorem mate_mate (e : Nat) : mate (mate e) = e := by unfold mate; split <;> split <;> omega
theorem mate_div (e : Nat) : mate e / 2 = e / 2 := by unfold mate; split <;> omega
theorem mate_ne (e : Nat) : mate e ≠ e := by unfold mate; split <;> omega
theorem mate_lt {e m : Nat} (h : e < 2 * m) : mate e < 2 * m := by unfold mate; split <;> omega
theorem mate_inj {a b : Nat} (h : mate a = mate b) : a = b := by rw [← mate_mate a, h, mate_mate]
theorem mate_int (e : Nat) : ((mate e : Nat) : Int) = (e : Int) + 1 - 2 * ((e : Int) % 2) := by unfold mate; split <;> omega
theorem div_cases {a b : Nat} (h : a / 2 = b / 2) : a = b ∨ a = mate b := by unfold mate; split <;> omega
theorem mate_even (k : Nat) : mate (2 * k) = 2 * k + 1 := by unfold mate; split <;> omega
theorem mate_odd (k : Nat) : mate (2 * k + 1) = 2 * k := by unfold mate; split <;> omega

/-! ### sums -/
def sm (f : Nat → Int) (l : List Nat) : Int := (l.map f).sum
theorem sm_nil (f : Nat → Int) : sm f [] = 0 := rfl
theorem sm_cons (f : Nat → Int) (a : Nat) (l : List Nat) : sm f (a :: l) = f a + sm f l := by simp [sm]
theorem sm_append (f : Nat → Int) (l k : List Nat) : sm f (l ++ k) = sm f l + sm f k := by simp [sm, List.sum_append]
theorem sm_congr {f g : Nat → Int} {l : List Nat} (h : ∀ e ∈ l, f e = g e) : sm f l = sm g l := by
  unfold sm; rw [List.map_congr_left h]
theorem sm_perm {f : Nat → Int} {l k : List Nat} (h : l.Perm k) : sm f l = sm f k := by
  induction h with
  | nil => rfl
  | cons x _ ih => rw [sm_cons, sm_cons, ih]
  | swap x y l => simp only [sm_cons]; omega
  | trans _ _ a b => rw [a, b]
theorem sm_add (f g : Nat → Int) (l : List Nat) : sm (fun e => f e + g e) l = sm f l + sm g l := by
  induction l with
  | nil => rfl
  | cons a l ih => simp only [sm_cons, ih]; omega
theorem sm_sub (f g : Nat → Int) (l : List Nat) : sm (fun e => f e - g e) l = sm f l - sm g l := by
  induction l with
  | nil => rfl
  | cons a l ih => simp only [sm_cons, ih]; omega
theorem sm_neg (f : Nat → Int) (l : List Nat) : sm (fun e => - f e) l = - sm f l := by
  induction l with
  | nil => rfl
  | cons a l ih => simp only [sm_cons, ih]; omega
theorem sm_mul (k : Int) (f : Nat → Int) (l : List Nat) : sm (fun e => k * f e) l = k * sm f l := by
  induction l with
  | nil => simp [sm_nil]
  | cons a l ih => simp only [sm_cons, ih, Int.mul_add]
theorem sm_zero {f : Nat → Int} {l : List Nat} (h : ∀ e ∈ l, f e = 0) : sm f l = 0 := by
  induction l with
  | nil => rfl
  | cons a l ih => rw [sm_cons, h a (by simp), ih fun e he => h e (by simp [he])]; rfl
theorem sm_map (f : Nat → Int) (g : Nat → Nat) (l : List Nat) : sm f (l.map g) = sm (fun e => f (g e)) l := by
  unfold sm; rw [List.map_map]; rfl
theorem sm_flatten (f : Nat → Int) : ∀ L : List (List Nat), sm f L.flatten = (L.map (sm f)).sum
  | [] => rfl
  | l :: L => by rw [List.flatten_cons, sm_append, sm_flatten f L]; simp
theorem sm_dvd {d : Int} {f : Nat → Int} {l : List Nat} (h : ∀ e ∈ l, d ∣ f e) : d ∣ sm f l := by
  induction l with
  | nil => exact ⟨0, by simp [sm_nil]⟩
  | cons a l ih => rw [sm_cons]; exact Int.dvd_add (h a (by simp)) (ih fun e he => h e (by simp [he]))
/-- all but one divisible -/
theorem sm_dvd_one {d : Int} {f : Nat → Int} {l : List Nat} {a : Nat} (hn : l.Nodup) (ha : a ∈ l) (h : ∀ e ∈ l, e ≠ a → d ∣ f e) (hs : d ∣ sm f l) : d ∣ f a := by
  have p := List.perm_cons_erase ha
  rw [sm_perm p, sm_cons] at hs
  have hr : d ∣ sm f (l.erase a) := sm_dvd fun e he => h e (List.mem_of_mem_erase he) fun z => by
    subst z
    exact (List.Nodup.not_mem_erase hn) he
  exact (Int.dvd_add_left hr).mp hs
/-- all but one nought -/
theorem sm_one {f : Nat → Int} {l : List Nat} {a : Nat} (hn : l.Nodup) (ha : a ∈ l) (h : ∀ e ∈ l, e ≠ a → f e = 0) : sm f l = f a := by
  have p := List.perm_cons_erase ha
  rw [sm_perm p, sm_cons, sm_zero fun e he => h e (List.mem_of_mem_erase he) fun z => by
    subst z
    exact (List.Nodup.not_mem_erase hn) he]
  omega
/-- the sum over all ends of m ties -/
def S (m : Nat) (f : Nat → Int) : Int := sm f (List.range (2 * m))
theorem S_succ (m : Nat) (f : Nat → Int) : S (m + 1) f = S m f + (f (2 * m) + f (2 * m + 1)) := by
  unfold S
  rw [show 2 * (m + 1) = 2 * m + 1 + 1 from by omega, List.range_succ, List.range_succ, sm_append, sm_append]
  simp only [sm_cons, sm_nil]; omega
theorem S_congr {m : Nat} {f g : Nat → Int} (h : ∀ e, e < 2 * m → f e = g e) : S m f = S m g := sm_congr fun e he => h e (List.mem_range.mp he)
theorem S_mate (m : Nat) (f : Nat → Int) : S m (fun e => f (mate e)) = S m f := by
  induction m with
  | zero => rfl
  | succ m ih => rw [S_succ, S_succ, ih, mate_even, mate_odd]; omega
theorem S_even {m : Nat} {f : Nat → Int} (h : ∀ e, e < 2 * m → f (mate e) = f e) : ∃ k, S m f = 2 * k := by
  induction m with
  | zero => exact ⟨0, rfl⟩
  | succ m ih =>
    obtain ⟨k, hk⟩ := ih fun e he => h e (by omega)
    refine ⟨k + f (2 * m), ?_⟩
    have := h (2 * m) (by omega)
    rw [mate_even] at this
    rw [S_succ, hk, this]; omega
theorem S_add (m : Nat) (f g : Nat → Int) : S m (fun e => f e + g e) = S m f + S m g := sm_add _ _ _
theorem S_sub (m : Nat) (f g : Nat → Int) : S m (fun e => f e - g e) = S m f - S m g := sm_sub _ _ _
theorem S_neg (m : Nat) (f : Nat → Int) : S m (fun e => - f e) = - S m f := sm_neg _ _
theorem S_mul (m : Nat) (k : Int) (f : Nat → Int) : S m (fun e => k * f e) = k * S m f := sm_mul _ _ _
theorem S_zero {m : Nat} {f : Nat → Int} (h : ∀ e, e < 2 * m → f e = 0) : S m f = 0 := sm_zero fun e he => h e (List.mem_range.mp he)
/-- one tie alone counts -/
theorem S_tie {m : Nat} {f : Nat → Int} {k : Nat} (hk : k < m) (h : ∀ e, e < 2 * m → e / 2 ≠ k → f e = 0) : S m f = f (2 * k) + f (2 * k + 1) := by
  induction m with
  | zero => omega
  | succ m ih =>
    rw [S_succ]
    by_cases e : k = m
    · subst e
      rw [S_zero fun e he => h e (by omega) (by omega)]; omega
    · rw [ih (by omega) fun e he => h e (by omega), h (2 * m) (by omega) (by omega), h (2 * m + 1) (by omega) (by omega)]; omega

/-! ### rings of ends -/
/-- from a, along the ends of l one behind the other, one comes to b -/
def Seg (nx : Nat → Nat) : Nat → List Nat → Nat → Prop
  | a, [], b => a = b
  | a, x :: l, b => a = x ∧ Seg nx (nx x) l b
theorem Seg.append {nx : Nat → Nat} : ∀ {l k : List Nat} {a c : Nat}, Seg nx a (l ++ k) c ↔ ∃ b, Seg nx a l b ∧ Seg nx b k c
  | [], k, a, c => ⟨fun h => ⟨a, rfl, h⟩, fun ⟨b, h1, h2⟩ => by cases h1; exact h2⟩
  | x :: l, k, a, c => by
    show (a = x ∧ Seg nx (nx x) (l ++ k) c) ↔ ∃ b, (a = x ∧ Seg nx (nx x) l b) ∧ Seg nx b k c
    rw [Seg.append]
    exact ⟨fun ⟨h, b, h1, h2⟩ => ⟨b, ⟨h, h1⟩, h2⟩, fun ⟨b, ⟨h, h1⟩, h2⟩ => ⟨h, b, h1, h2⟩⟩
theorem Seg.congr {nx ny : Nat → Nat} : ∀ {l : List Nat} {a b : Nat}, Seg nx a l b → (∀ e ∈ l, ny e = nx e) → Seg ny a l b
  | [], _, _, h, _ => h
  | x :: l, a, b, h, k => ⟨h.1, by rw [k x (by simp)]; exact Seg.congr h.2 fun e he => k e (by simp [he])⟩
theorem Seg.map {nx : Nat → Nat} : ∀ {l : List Nat} {a b : Nat}, Seg nx a l b → a :: l.map nx = l ++ [b]
  | [], _, _, h => by cases h; rfl
  | x :: l, a, b, h => by
    have := Seg.map h.2
    rw [h.1, List.map_cons, this]
    rfl
/-- a ring: whoever goes on from the last comes to the first -/
theorem Seg.ring_map {nx : Nat → Nat} {l : List Nat} {a : Nat} (h : Seg nx a l a) : (l.map nx).Perm l := by
  cases l with
  | nil => exact List.Perm.refl _
  | cons x l =>
    have e := Seg.map h
    have hx : a = x := h.1
    subst hx
    rw [List.map_cons] at e ⊢
    have e2 : nx a :: l.map nx = l ++ [a] := by simpa using e
    rw [e2]
    exact List.perm_append_comm
theorem Seg.uniq {nx ny : Nat → Nat} : ∀ {l : List Nat} {a b : Nat}, Seg nx a l b → Seg ny a l b → ∀ e ∈ l, nx e = ny e
  | [], _, _, _, _ => by simp
  | [x], a, b, h, k => by
    intro e he
    simp at he
    subst he
    have h2 : nx e = b := h.2
    have k2 : ny e = b := k.2
    rw [h2, k2]
  | x :: y :: l, a, b, h, k => by
    intro e he
    have hy : nx x = y := h.2.1
    have ky : ny x = y := k.2.1
    rcases List.mem_cons.mp he with z | z
    · subst z; rw [hy, ky]
    · have h2 := h.2
      have k2 := k.2
      rw [hy] at h2
      rw [ky] at k2
      exact Seg.uniq h2 k2 e z
theorem Seg.head {nx : Nat → Nat} {l : List Nat} {a b x : Nat} (h : Seg nx a (x :: l) b) : a = x := h.1
theorem Seg.start {nx : Nat → Nat} {l : List Nat} {a b c d : Nat} (h : Seg nx a l b) (k : Seg nx c l d) (n : l ≠ []) : a = c := by
  cases l with
  | nil => exact absurd rfl n
  | cons x l => rw [h.1, k.1]

/-- the ends of m ties in rings, numbered by s -/
structure Part (m : Nat) (L : List (List Nat)) (nx s : Nat → Nat) : Prop where
  nd : L.flatten.Nodup
  mem : ∀ e, e ∈ L.flatten ↔ e < 2 * m
  seg : ∀ l ∈ L, ∃ a, Seg nx a l a
  num : ∀ (i : Nat) (l : List Nat) (e : Nat), L[i]? = some l → e ∈ l → s e = i
section
variable {m : Nat} {L : List (List Nat)} {nx s : Nat → Nat}
theorem Part.perm (P : Part m L nx s) : L.flatten.Perm (List.range (2 * m)) := (List.perm_ext_iff_of_nodup P.nd List.nodup_range).mpr fun e => by rw [P.mem, List.mem_range]
theorem Part.row (P : Part m L nx s) {e : Nat} (h : e < 2 * m) : ∃ l, L[s e]? = some l ∧ e ∈ l := by
  obtain ⟨l, hl, he⟩ := List.mem_flatten.mp ((P.mem e).mpr h)
  obtain ⟨i, hi, rfl⟩ := List.mem_iff_getElem.mp hl
  have e1 := P.num i _ e (List.getElem?_eq_getElem hi) he
  exact ⟨_, by rw [e1]; exact List.getElem?_eq_getElem hi, he⟩
theorem Part.lt (P : Part m L nx s) {l : List Nat} {e : Nat} (hl : l ∈ L) (he : e ∈ l) : e < 2 * m := (P.mem e).mp (List.mem_flatten.mpr ⟨l, hl, he⟩)
theorem Part.rnd (P : Part m L nx s) {l : List Nat} (hl : l ∈ L) : l.Nodup := (List.pairwise_flatten.mp P.nd).1 l hl
theorem Part.nx_mem (P : Part m L nx s) {l : List Nat} {e : Nat} (hl : l ∈ L) (he : e ∈ l) : nx e ∈ l := by
  obtain ⟨a, h⟩ := P.seg l hl
  exact (Seg.ring_map h).mem_iff.mp (List.mem_map.mpr ⟨e, he, rfl⟩)
theorem Part.nx_lt (P : Part m L nx s) {e : Nat} (h : e < 2 * m) : nx e < 2 * m := by
  obtain ⟨l, hl, he⟩ := P.row h
  have hm := List.mem_of_getElem? hl
  exact P.lt hm (P.nx_mem hm he)
theorem Part.s_nx (P : Part m L nx s) {e : Nat} (h : e < 2 * m) : s (nx e) = s e := by
  obtain ⟨l, hl, he⟩ := P.row h
  exact P.num _ _ _ hl (P.nx_mem (List.mem_of_getElem? hl) he)
/-- sums over all ends, ring by ring -/
theorem Part.sum (P : Part m L nx s) (f : Nat → Int) : S m f = (L.map (sm f)).sum := by
  unfold S
  rw [← sm_perm P.perm, sm_flatten]
theorem sum_zero {α : Type} {L : List α} {f : α → Int} (h : ∀ l ∈ L, f l = 0) : (L.map f).sum = 0 := by
  induction L with
  | nil => rfl
  | cons a L ih => rw [List.map_cons, List.sum_cons, h a (by simp), ih fun l hl => h l (by simp [hl])]; rfl
theorem Part.sum_zero (P : Part m L nx s) {f : Nat → Int} (h : ∀ l ∈ L, sm f l = 0) : S m f = 0 := by
  rw [P.sum]; exact Rf.sum_zero h
theorem Part.sm_nx (P : Part m L nx s) {l : List Nat} (hl : l ∈ L) (f : Nat → Int) : sm (fun e => f (nx e)) l = sm f l := by
  obtain ⟨a, h⟩ := P.seg l hl
  rw [← sm_map, sm_perm (Seg.ring_map h)]
theorem Part.S_nx (P : Part m L nx s) (f : Nat → Int) : S m (fun e => f (nx e)) = S m f := by
  rw [P.sum, P.sum]
  congr 1
  exact List.map_congr_left fun l hl => P.sm_nx hl f
/-- what stays along the ring is one value in the ring -/
theorem seg_const {g : Nat → Int} : ∀ {l : List Nat} {a b : Nat}, Seg nx a l b → (∀ e ∈ l, g (nx e) = g e) → ∀ e ∈ l, g e = g a
  | [], _, _, _, _ => by simp
  | x :: l, a, b, h, k => by
    intro e he
    rw [h.1]
    rcases List.mem_cons.mp he with z | z
    · rw [z]
    · have q := seg_const h.2 (fun e he => k e (by simp [he])) e z
      rw [q, k x (by simp)]
theorem Part.const (P : Part m L nx s) {g : Nat → Int} (hg : ∀ e, e < 2 * m → g (nx e) = g e) {l : List Nat} (hl : l ∈ L) : ∃ c, ∀ e ∈ l, g e = c := by
  obtain ⟨a, h⟩ := P.seg l hl
  exact ⟨g a, seg_const h fun e he => hg e (P.lt hl he)⟩
theorem Part.const2 (P : Part m L nx s) {g : Nat → Int} (hg : ∀ e, e < 2 * m → g (nx e) = g e) {e e' : Nat} (h : e < 2 * m) (h' : e' < 2 * m) (hs : s e = s e') : g e = g e' := by
  obtain ⟨l, hl, he⟩ := P.row h
  obtain ⟨l', hl', he'⟩ := P.row h'
  rw [hs, hl'] at hl
  cases hl
  obtain ⟨c, hc⟩ := P.const hg (List.mem_of_getElem? hl')
  rw [hc e he, hc e' he']
/-- a function of the ring's number times one that comes to nought on each ring -/
theorem Part.pair_zero (P : Part m L nx s) {g c : Nat → Int} (hg : ∀ e, e < 2 * m → g (nx e) = g e) (hc : ∀ l ∈ L, sm c l = 0) : S m (fun e => g e * c e) = 0 := by
  refine P.sum_zero fun l hl => ?_
  obtain ⟨k, hk⟩ := P.const hg hl
  rw [sm_congr (g := fun e => k * c e) fun e he => by rw [hk e he], sm_mul, hc l hl, Int.mul_zero]
/-- a potential round each ring: less by n from each end to the next -/
def pot (L : List (List Nat)) (s : Nat → Nat) (n : Nat → Int) (e : Nat) : Int := - sm n ((L.getD (s e) []).takeWhile fun x => !decide (x = e))
theorem takeWhile_at {l k : List Nat} {e : Nat} (h : e ∉ l) : (l ++ e :: k).takeWhile (fun x => !decide (x = e)) = l := by
  induction l with
  | nil => simp
  | cons x l ih =>
    simp at h
    rw [List.cons_append, List.takeWhile_cons, if_pos (by simp; exact fun z => h.1 z.symm), ih h.2]
theorem Part.pot_at (P : Part m L nx s) {n : Nat → Int} {i : Nat} {l k : List Nat} {e : Nat} (hl : L[i]? = some (l ++ e :: k)) : pot L s n e = - sm n l := by
  have hm := List.mem_of_getElem? hl
  have hs : s e = i := P.num i _ e hl (by simp)
  have hn : e ∉ l := fun z => by
    have := P.rnd hm
    rw [List.nodup_append] at this
    exact this.2.2 e z e (by simp) rfl
  unfold pot
  rw [hs, List.getD_eq_getElem?_getD, hl]
  show - sm n ((l ++ e :: k).takeWhile _) = _
  rw [takeWhile_at hn]
theorem seg_next {l k : List Nat} {a b e y : Nat} (h : Seg nx a (l ++ e :: y :: k) b) : nx e = y := by
  obtain ⟨c, _, h2⟩ := Seg.append.mp h
  exact h2.2.1
theorem seg_last {l : List Nat} {a b e : Nat} (h : Seg nx a (l ++ [e]) b) : nx e = b := by
  obtain ⟨c, _, h2⟩ := Seg.append.mp h
  exact h2.2
theorem Part.pot_nx (P : Part m L nx s) {n : Nat → Int} (hn : ∀ l ∈ L, sm n l = 0) {e : Nat} (h : e < 2 * m) : pot L s n (nx e) = pot L s n e - n e := by
  obtain ⟨r, hr, he⟩ := P.row h
  have hm := List.mem_of_getElem? hr
  obtain ⟨l, k, rfl⟩ := List.append_of_mem he
  rw [P.pot_at hr]
  obtain ⟨a, hs⟩ := P.seg _ hm
  cases k with
  | cons y k =>
    rw [seg_next hs]
    have hr2 : L[s e]? = some ((l ++ [e]) ++ y :: k) := by rw [hr]; simp
    rw [P.pot_at hr2, sm_append, sm_cons, sm_nil]; omega
  | nil =>
    rw [seg_last hs]
    have hz := hn _ hm
    rw [sm_append, sm_cons, sm_nil] at hz
    have ha : pot L s n a = 0 := by
      cases l with
      | nil =>
        have : a = e := hs.1
        subst this
        have hr2 : L[s a]? = some ([] ++ a :: []) := hr
        rw [P.pot_at hr2]; rfl
      | cons x l =>
        have : a = x := hs.1
        subst this
        have hr2 : L[s e]? = some ([] ++ a :: (l ++ [e])) := hr
        rw [P.pot_at hr2]; rfl
    rw [ha]; omega
end
end Rf
end
section
set_option autoImplicit false
/-! Mb: trees of places or lands; what lies on a tree alone is nought; potentials and ways along a tree. -/
namespace Rf

/-- from the root on, each next ring with its end towards one before it -/
structure Tree (m : Nat) (s : Nat → Nat) (ok : Nat → Prop) (root : Nat) (tr : List (Nat × Nat)) : Prop where
  nd : (root :: tr.map (·.1)).Nodup
  step : ∀ (i P e : Nat), tr[i]? = some (P, e) → e < 2 * m ∧ s e = P ∧ s (mate e) ∈ root :: (tr.take i).map (·.1) ∧ ok e
/-- the tie of e is the tree's -/
def OnT (tr : List (Nat × Nat)) (e : Nat) : Prop := ∃ p ∈ tr, p.2 / 2 = e / 2
theorem OnT.mate {tr : List (Nat × Nat)} {e : Nat} (h : OnT tr (mate e)) : OnT tr e := by
  obtain ⟨p, hp, he⟩ := h
  exact ⟨p, hp, by rw [he, mate_div]⟩
theorem OnT.mate' {tr : List (Nat × Nat)} {e : Nat} (h : OnT tr e) : OnT tr (Rf.mate e) := by
  obtain ⟨p, hp, he⟩ := h
  exact ⟨p, hp, by rw [he, mate_div]⟩
/-- turned about by the mate -/
def Anti (m : Nat) (c : Nat → Int) : Prop := ∀ e, e < 2 * m → c (mate e) = - c e
section
variable {m : Nat} {L : List (List Nat)} {nx s : Nat → Nat} {ok : Nat → Prop} {root : Nat} {tr : List (Nat × Nat)}
theorem Tree.key_mem {i P e : Nat} (h : tr[i]? = some (P, e)) : P ∈ tr.map (·.1) := List.mem_map.mpr ⟨(P, e), List.mem_of_getElem? h, rfl⟩
theorem Tree.ne_root (T : Tree m s ok root tr) {i P e : Nat} (h : tr[i]? = some (P, e)) : P ≠ root := fun z => by
  have := (List.nodup_cons.mp T.nd).1
  rw [← z] at this
  exact this (Tree.key_mem h)
theorem Tree.uniq (T : Tree m s ok root tr) {i j P e e' : Nat} (h : tr[i]? = some (P, e)) (h' : tr[j]? = some (P, e')) : i = j := by
  have hn := (List.nodup_cons.mp T.nd).2
  have a : (tr.map (·.1))[i]? = some P := by rw [List.getElem?_map, h]; rfl
  have b : (tr.map (·.1))[j]? = some P := by rw [List.getElem?_map, h']; rfl
  obtain ⟨hi, a⟩ := List.getElem?_eq_some_iff.mp a
  obtain ⟨hj, b⟩ := List.getElem?_eq_some_iff.mp b
  exact (List.getElem_inj hn).mp (a.trans b.symm)
theorem Tree.before (T : Tree m s ok root tr) {i j P Q e e' : Nat} (h : tr[j]? = some (Q, e')) (hP : tr[i]? = some (P, e)) (hm : s (mate e') = P) : i < j := by
  have hs := (T.step j Q e' h).2.2.1
  rw [hm] at hs
  rcases List.mem_cons.mp hs with z | z
  · exact absurd z (T.ne_root hP)
  · obtain ⟨⟨P', e2⟩, hp, rfl⟩ := List.mem_map.mp z
    obtain ⟨k, hk, ek⟩ := List.mem_iff_getElem.mp hp
    rw [List.length_take] at hk
    rw [List.getElem_take] at ek
    have hk2 : tr[k]? = some (P', e2) := by rw [List.getElem?_eq_getElem (by omega), ek]
    have := T.uniq hP hk2
    omega
/-- what is turned about, comes to a multiple of d on each ring but the root's, and is such off the tree, is such on the tree -/
theorem Tree.leaf (T : Tree m s ok root tr) (P : Part m L nx s) {d : Int} {c : Nat → Int} (ha : Anti m c) (hs : ∀ i l, L[i]? = some l → i ≠ root → d ∣ sm c l) (ho : ∀ e, e < 2 * m → ¬ OnT tr e → d ∣ c e) : ∀ e, e < 2 * m → d ∣ c e := by
  have key : ∀ (k i Q e : Nat), tr.length - i = k → tr[i]? = some (Q, e) → d ∣ c e := by
    intro k
    induction k using Nat.strongRecOn with
    | _ k ih =>
      intro i Q e hk he
      have hi := (List.getElem?_eq_some_iff.mp he).1
      obtain ⟨h1, h2, h3, _⟩ := T.step i Q e he
      obtain ⟨l, hl, hel⟩ := P.row h1
      rw [h2] at hl
      have hm := List.mem_of_getElem? hl
      refine sm_dvd_one (P.rnd hm) hel (fun e' he' hne => ?_) (hs Q l hl (T.ne_root he))
      have hlt := P.lt hm he'
      have hse : s e' = Q := P.num _ _ _ hl he'
      by_cases ht : OnT tr e'
      · obtain ⟨⟨Q2, e2⟩, hp, hd⟩ := ht
        obtain ⟨j, hj⟩ := List.mem_iff_getElem?.mp hp
        rcases div_cases hd with z | z
        · have z : e2 = e' := z
          subst z
          have hq := (T.step j Q2 e2 hj).2.1
          rw [hse] at hq
          subst hq
          have := T.uniq he hj
          subst this
          rw [he] at hj
          cases hj
          exact absurd rfl hne
        · have z : e2 = mate e' := z
          subst z
          have hmm : s (mate (mate e')) = Q := by rw [mate_mate]; exact hse
          have hlt2 := T.before hj he hmm
          have := ih (tr.length - j) (by have := (List.getElem?_eq_some_iff.mp hj).1; omega) j Q2 (mate e') rfl hj
          rw [ha e' hlt] at this
          exact Int.dvd_neg.mp this
      · exact ho e' hlt ht
  intro e he
  by_cases ht : OnT tr e
  · obtain ⟨⟨Q2, e2⟩, hp, hd⟩ := ht
    obtain ⟨j, hj⟩ := List.mem_iff_getElem?.mp hp
    have hk := key _ j Q2 e2 rfl hj
    rcases div_cases hd with z | z
    · have z : e2 = e := z
      rw [← z]; exact hk
    · have z : e2 = mate e := z
      rw [z, ha e he] at hk
      exact Int.dvd_neg.mp hk
  · exact ho e he ht
/-- a potential along the tree -/
theorem Tree.potential (T : Tree m s ok root tr) (c : Nat → Int) : ∃ g : Nat → Int, ∀ (i P e : Nat), tr[i]? = some (P, e) → g (s (mate e)) - g (s e) = c e := by
  have key : ∀ k, k ≤ tr.length → ∃ g : Nat → Int, ∀ (i P e : Nat), i < k → tr[i]? = some (P, e) → g (s (mate e)) - g (s e) = c e := by
    intro k
    induction k with
    | zero => exact fun _ => ⟨fun _ => 0, fun i P e h => by omega⟩
    | succ k ih =>
      intro hk
      obtain ⟨g, hg⟩ := ih (by omega)
      have hk' : k < tr.length := by omega
      obtain ⟨Q, e0, hQ⟩ : ∃ Q e0, tr[k]? = some (Q, e0) := ⟨_, _, List.getElem?_eq_getElem hk'⟩
      obtain ⟨_, h2, h3, _⟩ := T.step k Q e0 hQ
      have hne : ∀ R, R ∈ root :: (tr.take k).map (·.1) → R ≠ Q := by
        intro R hR z
        subst z
        rcases List.mem_cons.mp hR with w | w
        · exact T.ne_root hQ w
        · obtain ⟨⟨P', e2⟩, hp, hpe⟩ := List.mem_map.mp w
          have hpe : P' = R := hpe
          subst hpe
          obtain ⟨j, hj, ej⟩ := List.mem_iff_getElem.mp hp
          rw [List.length_take] at hj
          rw [List.getElem_take] at ej
          have hj2 : tr[j]? = some (P', e2) := by rw [List.getElem?_eq_getElem (by omega), ej]
          have := T.uniq hQ hj2
          omega
      refine ⟨fun R => if R = Q then g (s (mate e0)) - c e0 else g R, fun i P e hi he => ?_⟩
      by_cases z : i = k
      · subst z
        rw [hQ] at he
        cases he
        dsimp only
        rw [if_neg (hne _ h3), if_pos h2]; omega
      · obtain ⟨_, k2, k3, _⟩ := T.step i P e he
        have e1 : s e ≠ Q := by
          rw [k2]
          intro w
          subst w
          exact z (T.uniq he hQ)
        have e2 : s (mate e) ≠ Q := by
          refine hne _ ?_
          rcases List.mem_cons.mp k3 with w | w
          · rw [w]; simp
          · refine List.mem_cons.mpr (.inr ?_)
            obtain ⟨p, hp, hpe⟩ := List.mem_map.mp w
            refine List.mem_map.mpr ⟨p, ?_, hpe⟩
            exact (List.take_sublist_take_left (by omega : i ≤ k)).subset hp
        dsimp only
        rw [if_neg e1, if_neg e2]
        exact hg i P e (by omega) he
  obtain ⟨g, hg⟩ := key tr.length (Nat.le_refl _)
  exact ⟨g, fun i P e h => hg i P e (List.getElem?_eq_some_iff.mp h).1 h⟩
def ite01 (p : Prop) [Decidable p] : Int := if p then 1 else 0
/-- one tie gone along from e -/
def unit (e x : Nat) : Int := ite01 (x = e) - ite01 (mate x = e)
theorem unit_anti (e : Nat) : Anti m (unit e) := fun x _ => by
  unfold unit
  rw [mate_mate]; omega
theorem sm_ite {l : List Nat} (hn : l.Nodup) (a : Nat) : sm (fun x => ite01 (x = a)) l = ite01 (a ∈ l) := by
  by_cases h : a ∈ l
  · rw [sm_one hn h fun e _ hne => by unfold ite01; rw [if_neg hne]]
    unfold ite01; rw [if_pos rfl, if_pos h]
  · rw [sm_zero fun e he => by unfold ite01; rw [if_neg fun z => h (by rw [← z]; exact he)]]
    unfold ite01; rw [if_neg h]
theorem Part.sm_unit (P : Part m L nx s) {e : Nat} (he : e < 2 * m) {i : Nat} {l : List Nat} (hl : L[i]? = some l) : sm (unit e) l = ite01 (i = s e) - ite01 (i = s (mate e)) := by
  have hm := List.mem_of_getElem? hl
  have k : ∀ x, x < 2 * m → (x ∈ l ↔ i = s x) := by
    intro x hx
    constructor
    · intro h; exact (P.num _ _ _ hl h).symm
    · intro h
      obtain ⟨r, hr, hxr⟩ := P.row hx
      rw [← h, hl] at hr
      cases hr
      exact hxr
  have e1 : sm (unit e) l = sm (fun x => ite01 (x = e)) l - sm (fun x => ite01 (x = mate e)) l := by
    rw [← sm_sub]
    refine sm_congr fun x _ => ?_
    unfold unit
    have : (mate x = e) ↔ (x = mate e) := ⟨fun h => by rw [← h, mate_mate], fun h => by rw [h, mate_mate]⟩
    simp only [ite01, this]
  rw [e1, sm_ite (P.rnd hm), sm_ite (P.rnd hm)]
  simp only [ite01, k e he, k (mate e) (mate_lt he)]
/-- a way along the tree from P to the root, as a function of the ends -/
theorem Tree.way (T : Tree m s ok root tr) (Pt : Part m L nx s) : ∀ Q, Q ∈ root :: tr.map (·.1) → ∃ w : Nat → Int, Anti m w ∧ (∀ e, ¬ OnT tr e → w e = 0) ∧ ∀ i l, L[i]? = some l → sm w l = ite01 (i = Q) - ite01 (i = root) := by
  have key : ∀ k Q, Q ∈ root :: (tr.take k).map (·.1) → ∃ w : Nat → Int, Anti m w ∧ (∀ e, ¬ OnT tr e → w e = 0) ∧ ∀ i l, L[i]? = some l → sm w l = ite01 (i = Q) - ite01 (i = root) := by
    intro k
    induction k with
    | zero =>
      intro Q hQ
      simp at hQ
      subst hQ
      exact ⟨fun _ => 0, fun _ _ => rfl, fun _ _ => rfl, fun i l _ => by rw [sm_zero fun _ _ => rfl]; omega⟩
    | succ k ih =>
      intro Q hQ
      by_cases hk : k < tr.length
      · rcases List.mem_cons.mp hQ with z | z
        · exact ih Q (by rw [z]; simp)
        · obtain ⟨⟨P', e⟩, hp, hpe⟩ := List.mem_map.mp z
          have hpe : P' = Q := hpe
          subst hpe
          obtain ⟨j, hj, ej⟩ := List.mem_iff_getElem.mp hp
          rw [List.length_take] at hj
          rw [List.getElem_take] at ej
          have hj2 : tr[j]? = some (P', e) := by rw [List.getElem?_eq_getElem (by omega), ej]
          obtain ⟨h1, h2, h3, _⟩ := T.step j P' e hj2
          have h3' : s (mate e) ∈ root :: (tr.take k).map (·.1) := by
            rcases List.mem_cons.mp h3 with w | w
            · rw [w]; simp
            · refine List.mem_cons.mpr (.inr ?_)
              obtain ⟨p, hp, hpe⟩ := List.mem_map.mp w
              exact List.mem_map.mpr ⟨p, (List.take_sublist_take_left (by omega : j ≤ k)).subset hp, hpe⟩
          obtain ⟨w, wa, wo, ws⟩ := ih _ h3'
          refine ⟨fun x => unit e x + w x, fun x hx => ?_, fun x hx => ?_, fun i l hl => ?_⟩
          · show unit e (mate x) + w (mate x) = - (unit e x + w x)
            rw [unit_anti (m := m) e x hx, wa x hx]; omega
          · show unit e x + w x = 0
            rw [wo x hx]
            unfold unit ite01
            have hon : OnT tr e := ⟨_, List.mem_of_getElem? hj2, rfl⟩
            rw [if_neg (fun z => hx (by rw [z]; exact hon)), if_neg (fun z => hx (OnT.mate (by rw [z]; exact hon)))]; rfl
          · rw [sm_add, Pt.sm_unit h1 hl, ws i l hl, h2]; omega
      · rw [List.take_of_length_le (by omega)] at hQ
        exact ih Q (by rw [List.take_of_length_le (by omega)]; exact hQ)
  intro Q hQ
  exact key tr.length Q (by rw [List.take_length]; exact hQ)
/-- a round along a tie off the tree, home by the tree -/
theorem Tree.round (T : Tree m s ok root tr) (Pt : Part m L nx s) (full : ∀ e, e < 2 * m → s e ∈ root :: tr.map (·.1)) {e : Nat} (he : e < 2 * m) (hn : ¬ OnT tr e) :
    ∃ z : Nat → Int, Anti m z ∧ (∀ l ∈ L, sm z l = 0) ∧ z e = 1 ∧ ∀ x, ¬ OnT tr x → x / 2 ≠ e / 2 → z x = 0 := by
  obtain ⟨w, wa, wo, ws⟩ := T.way Pt _ (full _ (mate_lt he))
  obtain ⟨w', wa', wo', ws'⟩ := T.way Pt _ (full _ he)
  refine ⟨fun x => unit e x + w x - w' x, fun x hx => ?_, fun l hl => ?_, ?_, fun x hx hxe => ?_⟩
  · show unit e (mate x) + w (mate x) - w' (mate x) = - (unit e x + w x - w' x)
    rw [unit_anti (m := m) e x hx, wa x hx, wa' x hx]; omega
  · obtain ⟨i, hi, rfl⟩ := List.mem_iff_getElem.mp hl
    have hi2 := List.getElem?_eq_getElem hi
    rw [sm_sub, sm_add, Pt.sm_unit he hi2, ws i _ hi2, ws' i _ hi2]; omega
  · show unit e e + w e - w' e = 1
    rw [wo e hn, wo' e hn]
    unfold unit ite01
    rw [if_pos rfl, if_neg (mate_ne e)]; rfl
  · show unit e x + w x - w' x = 0
    rw [wo x hx, wo' x hx]
    unfold unit ite01
    rw [if_neg (fun z => hxe (by rw [z])), if_neg (fun z => hxe (by rw [← z, mate_div]))]; rfl
end
end Rf
end
section
set_option autoImplicit false
/-! Mc: the two numbers of a walk on a ring floor. -/
namespace Rf

/-! ### walks -/
/-- a closed walk: the places to which its ends lead are those at which they stand, one further on -/
def Wk (st : Nat → Nat) (W : List Nat) : Prop := W.map (fun e => st (mate e)) = (W.drop 1 ++ W.take 1).map st
/-- how often W has e, less how often it has its mate -/
def net (W : List Nat) (e : Nat) : Int := (W.count e : Int) - (W.count (mate e) : Int)
theorem net_anti {m : Nat} (W : List Nat) : Anti m (net W) := fun e _ => by unfold net; rw [mate_mate]; omega
theorem rot_perm {α : Type} (W : List α) : (W.drop 1 ++ W.take 1).Perm W := by
  have := (List.perm_append_comm (l₁ := W.drop 1) (l₂ := W.take 1))
  rwa [List.take_append_drop] at this
theorem sm_count {l : List Nat} (hn : l.Nodup) (W : List Nat) : sm (fun e => (W.count e : Int)) l = (W.countP (fun x => decide (x ∈ l)) : Int) := by
  induction W with
  | nil => exact sm_zero fun _ _ => rfl
  | cons w W ih =>
    have e1 : sm (fun e => ((w :: W).count e : Int)) l = sm (fun e => (W.count e : Int) + ite01 (e = w)) l := sm_congr fun e _ => by
      rw [List.count_cons]
      unfold ite01
      by_cases h : w = e
      · subst h; simp
      · rw [if_neg (by simpa using h), if_neg fun z => h z.symm]; simp
    rw [e1, sm_add, ih, sm_ite hn, List.countP_cons]
    unfold ite01
    by_cases h : w ∈ l <;> simp [h]
theorem sm_count_mate {l : List Nat} (hn : l.Nodup) (W : List Nat) : sm (fun e => (W.count (mate e) : Int)) l = (W.countP (fun x => decide (mate x ∈ l)) : Int) := by
  induction W with
  | nil => exact sm_zero fun _ _ => rfl
  | cons w W ih =>
    have e1 : sm (fun e => ((w :: W).count (mate e) : Int)) l = sm (fun e => (W.count (mate e) : Int) + ite01 (e = mate w)) l := sm_congr fun e _ => by
      rw [List.count_cons]
      unfold ite01
      by_cases h : w = mate e
      · subst h; rw [mate_mate]; simp
      · rw [if_neg (by simpa using h), if_neg fun z => h (by rw [z, mate_mate])]; simp
    rw [e1, sm_add, ih, sm_ite hn, List.countP_cons]
    unfold ite01
    by_cases h : mate w ∈ l <;> simp [h]
section
variable {m : Nat} {rows lands : List (List Nat)} {bh st ld : Nat → Nat}
theorem Part.mem_iff {L : List (List Nat)} {nx s : Nat → Nat} (P : Part m L nx s) {i : Nat} {l : List Nat} (hl : L[i]? = some l) {x : Nat} (hx : x < 2 * m) : x ∈ l ↔ s x = i := by
  constructor
  · intro h; exact P.num _ _ _ hl h
  · intro h
    obtain ⟨r, hr, hxr⟩ := P.row hx
    rw [h, hl] at hr
    cases hr
    exact hxr
theorem countP_map_eq {α : Type} (W : List α) (f : α → Nat) (i : Nat) : W.countP (fun x => decide (f x = i)) = (W.map f).count i := by
  rw [List.count, List.countP_map]
  congr 1
/-- a closed walk comes to each place as often as it leaves it -/
theorem Part.net_row (P : Part m rows bh st) {W : List Nat} (hW : ∀ e ∈ W, e < 2 * m) (hc : Wk st W) : ∀ l ∈ rows, sm (net W) l = 0 := by
  intro l hl
  obtain ⟨i, hi, rfl⟩ := List.mem_iff_getElem.mp hl
  have hi2 := List.getElem?_eq_getElem hi
  have hn := P.rnd hl
  have e1 : sm (net W) rows[i] = sm (fun e => (W.count e : Int)) rows[i] - sm (fun e => (W.count (mate e) : Int)) rows[i] := by
    rw [← sm_sub]; rfl
  rw [e1, sm_count hn, sm_count_mate hn]
  have e2 : W.countP (fun x => decide (x ∈ rows[i])) = (W.map st).count i := by
    rw [← countP_map_eq]
    exact List.countP_congr fun x hx => by simp [P.mem_iff hi2 (hW x hx)]
  have e3 : W.countP (fun x => decide (mate x ∈ rows[i])) = (W.map fun e => st (mate e)).count i := by
    rw [← countP_map_eq]
    exact List.countP_congr fun x hx => by simp [P.mem_iff hi2 (mate_lt (hW x hx))]
  rw [e2, e3, hc, ((rot_perm W).map st).count_eq]; omega
/-- sums over a walk are halves of sums over all ends -/
theorem S_net {W : List Nat} (hW : ∀ e ∈ W, e < 2 * m) {c : Nat → Int} (hc : Anti m c) : S m (fun e => c e * net W e) = 2 * sm c W := by
  have k : ∀ W : List Nat, (∀ e ∈ W, e < 2 * m) → S m (fun e => c e * (W.count e : Int)) = sm c W := by
    intro W
    induction W with
    | nil => intro _; exact S_zero fun e _ => by simp
    | cons w W ih =>
      intro h
      have hw : w < 2 * m := h w (by simp)
      have e1 : S m (fun e => c e * ((w :: W).count e : Int)) = S m (fun e => c e * (W.count e : Int) + (if e = w then c w else 0)) := S_congr fun e _ => by
        rw [List.count_cons]
        by_cases z : w = e
        · subst z; simp [Int.mul_add]
        · rw [if_neg (by simpa using z), if_neg fun q => z q.symm]; simp
      rw [e1, S_add, ih fun e he => h e (by simp [he]), sm_cons]
      have e2 : S m (fun e => if e = w then c w else 0) = c w := by
        unfold S
        rw [sm_one List.nodup_range (List.mem_range.mpr hw) fun e _ hne => if_neg hne, if_pos rfl]
      rw [e2]; omega
  have e1 : S m (fun e => c e * net W e) = S m (fun e => c e * (W.count e : Int)) - S m (fun e => c e * (W.count (mate e) : Int)) := by
    rw [← S_sub]
    exact S_congr fun e _ => by unfold net; rw [Int.mul_sub]
  have e2 : S m (fun e => c e * (W.count (mate e) : Int)) = - S m (fun e => c e * (W.count e : Int)) := by
    rw [← S_mate m (fun e => c e * (W.count (mate e) : Int)), ← S_neg]
    exact S_congr fun e he => by
      show c (mate e) * (W.count (mate (mate e)) : Int) = - (c e * (W.count e : Int))
      rw [mate_mate, hc e he, Int.neg_mul]
  rw [e1, e2, k W hW]; omega

/-! ### a ring floor with its trees and marks -/
/-- what is known of a drawing on a ring floor: places and lands, a tree of each, two ties left, marks -/
structure Floor (m : Nat) (rows lands : List (List Nat)) (bh st ld : Nat → Nat) (T C : List (Nat × Nat)) (l0 l1 : Nat) (a b : Nat → Int) : Prop where
  P : Part m rows bh st
  Q : Part m lands (fun e => bh (mate e)) ld
  t : ∃ ok root, Tree m st ok root T ∧ ∀ e, e < 2 * m → st e ∈ root :: T.map (·.1)
  c : ∃ root, Tree m ld (fun e => ¬ OnT T e) root C ∧ ∀ e, e < 2 * m → ld e ∈ root :: C.map (·.1)
  h0 : l0 < m
  h1 : l1 < m
  ne : l0 ≠ l1
  left : ∀ e, e < 2 * m → OnT T e ∨ OnT C e ∨ e / 2 = l0 ∨ e / 2 = l1
  f0 : ¬ OnT T (2 * l0) ∧ ¬ OnT C (2 * l0)
  f1 : ¬ OnT T (2 * l1) ∧ ¬ OnT C (2 * l1)
  aa : Anti m a
  ba : Anti m b
  az : ∀ e, e < 2 * m → OnT T e → a e = 0
  bz : ∀ e, e < 2 * m → OnT T e → b e = 0
  a0 : a (2 * l0) = 1
  a1 : a (2 * l1) = 0
  b0 : b (2 * l0) = 0
  b1 : b (2 * l1) = 1
  al : ∀ l ∈ lands, sm a l = 0
  bl : ∀ l ∈ lands, sm b l = 0
variable {T C : List (Nat × Nat)} {l0 l1 : Nat} {a b : Nat → Int}
theorem OnT_div {tr : List (Nat × Nat)} {e e' : Nat} (h : OnT tr e) (d : e / 2 = e' / 2) : OnT tr e' := let ⟨p, hp, he⟩ := h; ⟨p, hp, by rw [he, d]⟩
theorem Floor.not0 (F : Floor m rows lands bh st ld T C l0 l1 a b) {e : Nat} (h : e / 2 = l0) : ¬ OnT T e ∧ ¬ OnT C e :=
  ⟨fun z => F.f0.1 (OnT_div z (by omega)), fun z => F.f0.2 (OnT_div z (by omega))⟩
theorem Floor.not1 (F : Floor m rows lands bh st ld T C l0 l1 a b) {e : Nat} (h : e / 2 = l1) : ¬ OnT T e ∧ ¬ OnT C e :=
  ⟨fun z => F.f1.1 (OnT_div z (by omega)), fun z => F.f1.2 (OnT_div z (by omega))⟩
theorem Floor.offT (F : Floor m rows lands bh st ld T C l0 l1 a b) {e : Nat} (he : e < 2 * m) (h : OnT C e) : ¬ OnT T e := by
  obtain ⟨root, tr, _⟩ := F.c
  obtain ⟨p, hp, hd⟩ := h
  obtain ⟨i, hi⟩ := List.mem_iff_getElem?.mp hp
  exact fun z => (tr.step i p.1 p.2 hi).2.2.2 (OnT_div z hd.symm)
/-- the difference of a function of the lands over a tie; it is turned about and comes to nought at each place -/
def dl (ld : Nat → Nat) (f : Nat → Int) (e : Nat) : Int := f (ld e) - f (ld (mate e))
theorem dl_anti (f : Nat → Int) : Anti m (dl ld f) := fun e _ => by unfold dl; rw [mate_mate]; omega
theorem dl_row (P : Part m rows bh st) (Q : Part m lands (fun e => bh (mate e)) ld) (f : Nat → Int) : ∀ l ∈ rows, sm (dl ld f) l = 0 := by
  intro l hl
  have e1 : sm (dl ld f) l = sm (fun e => f (ld e) - f (ld (bh e))) l := sm_congr fun e he => by
    have := Q.s_nx (mate_lt (P.lt hl he))
    rw [mate_mate] at this
    unfold dl
    rw [this]
  rw [e1, sm_sub, P.sm_nx hl (fun e => f (ld e))]; omega
/-- closed marks see nothing of it -/
theorem dl_pair (Q : Part m lands (fun e => bh (mate e)) ld) {c : Nat → Int} (hc : Anti m c) (hl : ∀ l ∈ lands, sm c l = 0) (f : Nat → Int) : S m (fun e => c e * dl ld f e) = 0 := by
  have z := Q.pair_zero (g := fun e => f (ld e)) (c := c) (fun e he => by
    show f (ld (bh (mate e))) = f (ld e)
    have := Q.s_nx he
    rw [this]) hl
  have e1 : S m (fun e => c e * dl ld f e) = S m (fun e => f (ld e) * c e) - S m (fun e => f (ld (mate e)) * c e) := by
    rw [← S_sub]
    exact S_congr fun e _ => by unfold dl; rw [Int.mul_sub, Int.mul_comm, Int.mul_comm (c e)]
  have e2 : S m (fun e => f (ld (mate e)) * c e) = - S m (fun e => f (ld e) * c e) := by
    rw [← S_mate m (fun e => f (ld (mate e)) * c e), ← S_neg]
    exact S_congr fun e he => by
      show f (ld (mate (mate e))) * c (mate e) = - (f (ld e) * c e)
      rw [mate_mate, hc e he, Int.mul_neg]
  rw [e1, e2, z]; omega
/-- a function that is nought on the tree of lands, against the marks: its values on the two ties left -/
theorem Floor.pair0 (F : Floor m rows lands bh st ld T C l0 l1 a b) {n : Nat → Int} (hn : Anti m n) (hc : ∀ e, e < 2 * m → OnT C e → n e = 0) : S m (fun e => a e * n e) = 2 * n (2 * l0) := by
  rw [S_tie F.h0 fun e he hne => ?_]
  · have h := F.aa (2 * l0) (by have := F.h0; omega)
    have h2 := hn (2 * l0) (by have := F.h0; omega)
    rw [mate_even] at h h2
    rw [h, h2, F.a0]; omega
  · rcases F.left e he with z | z | z | z
    · rw [F.az e he z]; omega
    · rw [hc e he z]; omega
    · exact absurd z hne
    · have e0 : a e = 0 := by
        have h := F.aa (2 * l1) (by have := F.h1; omega)
        rw [mate_even, F.a1] at h
        rcases (by omega : e = 2 * l1 ∨ e = 2 * l1 + 1) with w | w
        · rw [w, F.a1]
        · rw [w, h]; rfl
      rw [e0]; omega
theorem Floor.pair1 (F : Floor m rows lands bh st ld T C l0 l1 a b) {n : Nat → Int} (hn : Anti m n) (hc : ∀ e, e < 2 * m → OnT C e → n e = 0) : S m (fun e => b e * n e) = 2 * n (2 * l1) := by
  rw [S_tie F.h1 fun e he hne => ?_]
  · have h := F.ba (2 * l1) (by have := F.h1; omega)
    have h2 := hn (2 * l1) (by have := F.h1; omega)
    rw [mate_even] at h h2
    rw [h, h2, F.b1]; omega
  · rcases F.left e he with z | z | z | z
    · rw [F.bz e he z]; omega
    · rw [hc e he z]; omega
    · have e0 : b e = 0 := by
        have h := F.ba (2 * l0) (by have := F.h0; omega)
        rw [mate_even, F.b0] at h
        rcases (by omega : e = 2 * l0 ∨ e = 2 * l0 + 1) with w | w
        · rw [w, F.b0]
        · rw [w, h]; rfl
      rw [e0]; omega
    · exact absurd z hne
/-- a round function whose two numbers are multiples of d is, but for multiples of d, the difference of numbers on the lands -/
theorem Floor.mod (F : Floor m rows lands bh st ld T C l0 l1 a b) {n : Nat → Int} (hn : Anti m n) (hr : ∀ l ∈ rows, sm n l = 0) {d p q : Int} (hp : S m (fun e => a e * n e) = 2 * p) (hq : S m (fun e => b e * n e) = 2 * q) (dp : d ∣ p) (dq : d ∣ q) :
    ∃ f : Nat → Int, ∀ e, e < 2 * m → d ∣ n e - dl ld f e := by
  obtain ⟨root, tc, _⟩ := F.c
  obtain ⟨ok, rt, tt, _⟩ := F.t
  obtain ⟨f, hf⟩ := tc.potential (fun e => - n e)
  refine ⟨f, ?_⟩
  have ha : Anti m (fun e => n e - dl ld f e) := fun e he => by
    show n (mate e) - dl ld f (mate e) = - (n e - dl ld f e)
    rw [hn e he, dl_anti (m := m) f e he]; omega
  have hcz : ∀ e, e < 2 * m → OnT C e → n e - dl ld f e = 0 := by
    intro e he ⟨p, hp, hd⟩
    obtain ⟨i, hi⟩ := List.mem_iff_getElem?.mp hp
    have h := hf i p.1 p.2 hi
    have hlt := (tc.step i p.1 p.2 hi).1
    rcases div_cases hd with z | z
    · rw [z] at h
      unfold dl; omega
    · rw [z, mate_mate, hn e he] at h
      unfold dl; omega
  have k0 := F.pair0 ha hcz
  have k1 := F.pair1 ha hcz
  have s0 : S m (fun e => a e * (n e - dl ld f e)) = 2 * p := by
    rw [S_congr (g := fun e => a e * n e - a e * dl ld f e) fun e _ => Int.mul_sub _ _ _, S_sub, hp, dl_pair F.Q F.aa F.al]; omega
  have s1 : S m (fun e => b e * (n e - dl ld f e)) = 2 * q := by
    rw [S_congr (g := fun e => b e * n e - b e * dl ld f e) fun e _ => Int.mul_sub _ _ _, S_sub, hq, dl_pair F.Q F.ba F.bl]; omega
  have v0 : n (2 * l0) - dl ld f (2 * l0) = p := by omega
  have v1 : n (2 * l1) - dl ld f (2 * l1) = q := by omega
  refine tt.leaf F.P ha (fun i l hl _ => ?_) fun e he ht => ?_
  · have hm := List.mem_of_getElem? hl
    rw [sm_sub, hr l hm, dl_row F.P F.Q f l hm]
    exact ⟨0, by omega⟩
  · rcases F.left e he with z | z | z | z
    · exact absurd z ht
    · rw [hcz e he z]; exact ⟨0, by omega⟩
    · rcases (by omega : e = 2 * l0 ∨ e = 2 * l0 + 1) with w | w
      · rw [w, v0]; exact dp
      · have := ha (2 * l0) (by have := F.h0; omega)
        rw [mate_even] at this
        dsimp only at this
        rw [w, this, v0]; exact Int.dvd_neg.mpr dp
    · rcases (by omega : e = 2 * l1 ∨ e = 2 * l1 + 1) with w | w
      · rw [w, v1]; exact dq
      · have := ha (2 * l1) (by have := F.h1; omega)
        rw [mate_even] at this
        dsimp only at this
        rw [w, this, v1]; exact Int.dvd_neg.mpr dq
end
end Rf
end
section
set_option autoImplicit false
/-! Md: filled, parted, crossed: what the two numbers tell. -/
namespace Rf
section
variable {m : Nat} {rows lands : List (List Nat)} {bh st ld : Nat → Nat} {T C : List (Nat × Nat)} {l0 l1 : Nat} {a b : Nat → Int}

/-- from one land to another one over ties off the round -/
inductive Rch (m : Nat) (ld : Nat → Nat) (W : List Nat) : Nat → Nat → Prop
  | refl (l : Nat) : Rch m ld W l l
  | step {l : Nat} {e : Nat} : Rch m ld W l (ld e) → e < 2 * m → e / 2 ∉ W.map (· / 2) → Rch m ld W l (ld (mate e))
structure Rnd (m : Nat) (st : Nat → Nat) (W : List Nat) : Prop where
  ne : W ≠ []
  lt : ∀ e ∈ W, e < 2 * m
  wk : Wk st W
  places : (W.map st).Nodup
  ties : (W.map (· / 2)).Nodup
theorem nodup_of_map {α β : Type} {f : α → β} : ∀ {l : List α}, (l.map f).Nodup → l.Nodup
  | [], _ => List.nodup_nil
  | x :: l, h => by
    rw [List.map_cons, List.nodup_cons] at h
    exact List.nodup_cons.mpr ⟨fun z => h.1 (List.mem_map.mpr ⟨x, z, rfl⟩), nodup_of_map h.2⟩
theorem inj_of_map {α β : Type} {f : α → β} : ∀ {l : List α}, (l.map f).Nodup → ∀ x ∈ l, ∀ y ∈ l, f x = f y → x = y
  | [], _, _, hx, _, _, _ => by simp at hx
  | z :: l, h, x, hx, y, hy, e => by
    rw [List.map_cons, List.nodup_cons] at h
    rcases List.mem_cons.mp hx with rfl | hx
    · rcases List.mem_cons.mp hy with rfl | hy
      · rfl
      · exact absurd (List.mem_map.mpr ⟨y, hy, e.symm⟩) h.1
    · rcases List.mem_cons.mp hy with q | hy
      · exact absurd (List.mem_map.mpr ⟨x, hx, by rw [e, q]⟩) h.1
      · exact inj_of_map h.2 x hx y hy e
theorem Rnd.net_one {W : List Nat} (R : Rnd m st W) {e : Nat} (h : e ∈ W) : net W e = 1 := by
  have h1 : W.count e = 1 := by
    have hn := nodup_of_map R.places
    have := List.nodup_iff_count.mp hn e
    have h2 := List.count_pos_iff.mpr h
    omega
  have h2 : mate e ∉ W := fun z => mate_ne e (inj_of_map R.ties _ z _ h (mate_div e))
  unfold net
  rw [h1, List.count_eq_zero.mpr h2]; rfl
theorem net_off {W : List Nat} {e : Nat} (h : e / 2 ∉ W.map (· / 2)) : net W e = 0 := by
  unfold net
  rw [List.count_eq_zero.mpr fun z => h (List.mem_map.mpr ⟨e, z, rfl⟩), List.count_eq_zero.mpr fun z => h (List.mem_map.mpr ⟨_, z, mate_div e⟩)]; rfl
theorem Floor.sums (F : Floor m rows lands bh st ld T C l0 l1 a b) {W : List Nat} (hW : ∀ e ∈ W, e < 2 * m) : S m (fun e => a e * net W e) = 2 * sm a W ∧ S m (fun e => b e * net W e) = 2 * sm b W := ⟨S_net hW F.aa, S_net hW F.ba⟩
/-- filled just where both numbers are nought -/
theorem Floor.fill (F : Floor m rows lands bh st ld T C l0 l1 a b) {W : List Nat} (hW : ∀ e ∈ W, e < 2 * m) (hk : Wk st W) : (∃ f, ∀ e, e < 2 * m → net W e = dl ld f e) ↔ sm a W = 0 ∧ sm b W = 0 := by
  obtain ⟨s0, s1⟩ := F.sums hW
  constructor
  · intro ⟨f, hf⟩
    have e0 : S m (fun e => a e * net W e) = S m (fun e => a e * dl ld f e) := S_congr fun e he => by rw [hf e he]
    have e1 : S m (fun e => b e * net W e) = S m (fun e => b e * dl ld f e) := S_congr fun e he => by rw [hf e he]
    rw [dl_pair F.Q F.aa F.al] at e0
    rw [dl_pair F.Q F.ba F.bl] at e1
    omega
  · intro ⟨h0, h1⟩
    obtain ⟨f, hf⟩ := F.mod (d := 0) (net_anti W) (F.P.net_row hW hk) s0 s1 ⟨0, by omega⟩ ⟨0, by omega⟩
    refine ⟨f, fun e he => ?_⟩
    obtain ⟨k, hk⟩ := hf e he
    omega
/-- where the round does not part the lands, no number above 1 divides both -/
theorem Floor.prim (F : Floor m rows lands bh st ld T C l0 l1 a b) {W : List Nat} (R : Rnd m st W) {w : Nat} (hw : w ∈ W) (hr : Rch m ld W (ld w) (ld (mate w))) {d : Int} (h0 : d ∣ sm a W) (h1 : d ∣ sm b W) : d ∣ 1 := by
  obtain ⟨s0, s1⟩ := F.sums R.lt
  obtain ⟨f, hf⟩ := F.mod (net_anti W) (F.P.net_row R.lt R.wk) s0 s1 h0 h1
  have key : ∀ l l', Rch m ld W l l' → d ∣ f l - f l' := by
    intro l l' h
    induction h with
    | refl => exact ⟨0, by omega⟩
    | step _ he ho ih =>
      rename_i e _
      have := hf e he
      rw [net_off ho] at this
      unfold dl at this
      have h3 := Int.dvd_add ih (Int.dvd_neg.mpr this)
      have e1 : f l - f (ld e) + -(0 - (f (ld e) - f (ld (mate e)))) = f l - f (ld (mate e)) := by omega
      rwa [e1] at h3
  have h2 := key _ _ hr
  have h3 := hf w (R.lt w hw)
  rw [R.net_one hw] at h3
  unfold dl at h3
  have h4 := Int.dvd_add h3 h2
  have e1 : 1 - (f (ld w) - f (ld (mate w))) + (f (ld w) - f (ld (mate w))) = 1 := by omega
  rwa [e1] at h4
theorem Rch.trans_tie {W : List Nat} {l e : Nat} (h : Rch m ld W l (ld (mate e))) (he : e < 2 * m) (ho : e / 2 ∉ W.map (· / 2)) : Rch m ld W l (ld e) := by
  have := Rch.step h (mate_lt he) (by rw [mate_div]; exact ho)
  rwa [mate_mate] at this
/-- the ties of a round but the first hang as a tree on its first place -/
theorem Rnd.tree {w : Nat} {l : List Nat} (R : Rnd m st (w :: l)) : Tree m st (fun _ => True) (st w) (l.reverse.map fun e => (st e, e)) := by
  have hm : (l.reverse.map fun e => (st e, e)).map (·.1) = l.reverse.map st := by rw [List.map_map]; rfl
  refine ⟨?_, fun i P e h => ?_⟩
  · rw [hm]
    have := R.places
    rw [List.map_cons, List.nodup_cons] at this
    refine List.nodup_cons.mpr ⟨fun z => this.1 ?_, ?_⟩
    · rw [List.map_reverse, List.mem_reverse] at z; exact z
    · rw [List.map_reverse]; exact List.pairwise_reverse.mpr (this.2.imp fun h => fun z => h z.symm)
  · rw [List.getElem?_map] at h
    obtain ⟨x, hx, e1⟩ := Option.map_eq_some_iff.mp h
    cases e1
    have hi : i < l.length := by have := (List.getElem?_eq_some_iff.mp hx).1; rwa [List.length_reverse] at this
    rw [List.getElem?_reverse hi] at hx
    have hxl : e ∈ l := List.mem_of_getElem? hx
    refine ⟨R.lt e (by simp [hxl]), rfl, ?_, trivial⟩
    have hk := congrArg (fun L => L[l.length - 1 - i + 1]?) R.wk
    rw [List.getElem?_map, List.getElem?_map, List.getElem?_cons_succ, hx] at hk
    have e2 : (w :: l).drop 1 ++ (w :: l).take 1 = l ++ [w] := rfl
    rw [e2] at hk
    rw [← List.map_take, List.map_map]
    by_cases h0 : i = 0
    · subst h0
      rw [List.getElem?_append_right (by omega), show l.length - 1 - 0 + 1 - l.length = 0 by omega] at hk
      have : st (mate e) = st w := Option.some.inj hk
      rw [this]; simp
    · rw [List.getElem?_append_left (by omega)] at hk
      have hj : l.length - 1 - i + 1 < l.length := by omega
      rw [List.getElem?_eq_getElem hj] at hk
      have : st (mate e) = st l[l.length - 1 - i + 1] := Option.some.inj hk
      rw [this]
      refine List.mem_cons.mpr (.inr (List.mem_map.mpr ⟨l[l.length - 1 - i + 1], ?_, rfl⟩))
      refine List.mem_take_iff_getElem.mpr ⟨i - 1, by rw [List.length_reverse]; omega, ?_⟩
      rw [List.getElem_reverse]
      congr 1
      omega
/-- where it parts them, both numbers are nought -/
theorem Floor.part (F : Floor m rows lands bh st ld T C l0 l1 a b) {w : Nat} {l : List Nat} (R : Rnd m st (w :: l)) (hr : ¬ Rch m ld (w :: l) (ld w) (ld (mate w))) : sm a (w :: l) = 0 ∧ sm b (w :: l) = 0 := by
  classical
  refine (F.fill R.lt R.wk).mp ⟨fun x => ite01 (Rch m ld (w :: l) (ld w) x), fun e he => ?_⟩
  have hx : ∀ e, e < 2 * m → e / 2 ∉ (w :: l).map (· / 2) → dl ld (fun x => ite01 (Rch m ld (w :: l) (ld w) x)) e = 0 := by
    intro e he ho
    unfold dl
    have : Rch m ld (w :: l) (ld w) (ld e) ↔ Rch m ld (w :: l) (ld w) (ld (mate e)) := ⟨fun h => h.step he ho, fun h => h.trans_tie he ho⟩
    dsimp only [ite01]
    simp only [this]; omega
  have hw : dl ld (fun x => ite01 (Rch m ld (w :: l) (ld w) x)) w = 1 := by
    unfold dl
    dsimp only [ite01]
    rw [if_pos (Rch.refl _), if_neg hr]; rfl
  have hwm : w < 2 * m := R.lt w (by simp)
  have ha : Anti m (fun e => net (w :: l) e - dl ld (fun x => ite01 (Rch m ld (w :: l) (ld w) x)) e) := fun e he => by
    have h1 := net_anti (m := m) (w :: l) e he
    have h2 := dl_anti (m := m) (ld := ld) (fun x => ite01 (Rch m ld (w :: l) (ld w) x)) e he
    dsimp only
    omega
  have z := R.tree.leaf (d := 0) F.P ha (fun i r hi _ => by
    have hm := List.mem_of_getElem? hi
    rw [sm_sub, F.P.net_row R.lt R.wk r hm, dl_row F.P F.Q _ r hm]; exact ⟨0, by omega⟩) (fun e he ht => by
      by_cases ho : e / 2 ∈ (w :: l).map (· / 2)
      · obtain ⟨x, hxm, hxd⟩ := List.mem_map.mp ho
        have hxw : x = w := by
          rcases List.mem_cons.mp hxm with q | q
          · exact q
          · exact absurd ⟨(st x, x), List.mem_map.mpr ⟨x, List.mem_reverse.mpr q, rfl⟩, hxd⟩ ht
        subst hxw
        have one : net (x :: l) x - dl ld (fun y => ite01 (Rch m ld (x :: l) (ld x) y)) x = 0 := by rw [R.net_one (by simp), hw]; omega
        rcases div_cases hxd with q | q
        · rw [← q, one]; exact ⟨0, by omega⟩
        · have q2 : e = mate x := by rw [q, mate_mate]
          have h3 := ha x hwm
          dsimp only at h3
          rw [q2, h3, one]; exact ⟨0, by omega⟩
      · rw [net_off ho, hx e he ho]; exact ⟨0, by omega⟩) e he
  obtain ⟨k, hk⟩ := z
  omega
end
end Rf
end
section
set_option autoImplicit false
/-! Me: two rounds have at least as many places in common as their numbers' area. -/
namespace Rf
section
variable {m : Nat} {rows lands : List (List Nat)} {bh st ld : Nat → Nat} {T C : List (Nat × Nat)} {l0 l1 : Nat} {a b : Nat → Int}

/-- a function of the ends that is turned about by the mate and comes to nought at each place -/
structure Cyl (m : Nat) (rows : List (List Nat)) (n : Nat → Int) : Prop where
  anti : Anti m n
  row : ∀ l ∈ rows, sm n l = 0
/-- how the potential round the places steps over a tie -/
def cc (rows : List (List Nat)) (bh st : Nat → Nat) (n : Nat → Int) (e : Nat) : Int := pot rows st n e - pot rows st n (bh (mate e))
theorem cc_eq (P : Part m rows bh st) {n : Nat → Int} (N : Cyl m rows n) {e : Nat} (he : e < 2 * m) : cc rows bh st n e = pot rows st n e - pot rows st n (mate e) - n e := by
  unfold cc
  rw [P.pot_nx N.row (mate_lt he), N.anti e he]; omega
theorem cc_anti (P : Part m rows bh st) {n : Nat → Int} (N : Cyl m rows n) : Anti m (cc rows bh st n) := fun e he => by
  rw [cc_eq P N he, cc_eq P N (mate_lt he), mate_mate, N.anti e he]; omega
theorem cc_land (Q : Part m lands (fun e => bh (mate e)) ld) (n : Nat → Int) : ∀ l ∈ lands, sm (cc rows bh st n) l = 0 := by
  intro l hl
  have e1 : sm (cc rows bh st n) l = sm (pot rows st n) l - sm (fun e => pot rows st n (bh (mate e))) l := by rw [← sm_sub]; rfl
  rw [e1, Q.sm_nx hl (pot rows st n)]; omega
/-- the crossing, twice -/
def X (m : Nat) (rows : List (List Nat)) (bh st : Nat → Nat) (n n' : Nat → Int) : Int := S m (fun e => cc rows bh st n e * n' e)
theorem X_eq (P : Part m rows bh st) {n n' : Nat → Int} (N : Cyl m rows n) (N' : Cyl m rows n') : X m rows bh st n n' = 2 * S m (fun e => n' e * pot rows st n e) - S m (fun e => n e * n' e) := by
  have e1 : X m rows bh st n n' = S m (fun e => n' e * pot rows st n e) - S m (fun e => n' e * pot rows st n (mate e)) - S m (fun e => n e * n' e) := by
    unfold X
    rw [← S_sub, ← S_sub]
    exact S_congr fun e he => by rw [cc_eq P N he]; grind
  have e2 : S m (fun e => n' e * pot rows st n (mate e)) = - S m (fun e => n' e * pot rows st n e) := by
    rw [← S_mate m (fun e => n' e * pot rows st n (mate e)), ← S_neg]
    exact S_congr fun e he => by
      show n' (mate e) * pot rows st n (mate (mate e)) = - (n' e * pot rows st n e)
      rw [mate_mate, N'.anti e he, Int.neg_mul]
  rw [e1, e2]; omega
theorem X_anti (P : Part m rows bh st) {n n' : Nat → Int} (N : Cyl m rows n) (N' : Cyl m rows n') : X m rows bh st n n' = - X m rows bh st n' n := by
  rw [X_eq P N N', X_eq P N' N]
  -- n' u in terms of u' n
  have k : S m (fun e => n' e * pot rows st n e) = - S m (fun e => n e * pot rows st n' e) + S m (fun e => n e * n' e) := by
    have e1 : S m (fun e => n' e * pot rows st n e) = S m (fun e => pot rows st n' e * pot rows st n e) - S m (fun e => pot rows st n' (bh e) * pot rows st n e) := by
      rw [← S_sub]
      exact S_congr fun e he => by rw [P.pot_nx N'.row he]; grind
    have e2 : S m (fun e => pot rows st n' (bh e) * pot rows st n e) = S m (fun e => pot rows st n' (bh e) * pot rows st n (bh e)) + S m (fun e => pot rows st n' e * n e - n' e * n e) := by
      rw [← S_add]
      exact S_congr fun e he => by rw [P.pot_nx N.row he, P.pot_nx N'.row he]; grind
    have e3 : S m (fun e => pot rows st n' (bh e) * pot rows st n (bh e)) = S m (fun e => pot rows st n' e * pot rows st n e) := P.S_nx (fun e => pot rows st n' e * pot rows st n e)
    have e4 : S m (fun e => pot rows st n' e * n e - n' e * n e) = S m (fun e => n e * pot rows st n' e) - S m (fun e => n e * n' e) := by
      rw [← S_sub]
      exact S_congr fun e _ => by grind
    omega
  have k2 : S m (fun e => n' e * n e) = S m (fun e => n e * n' e) := S_congr fun e _ => Int.mul_comm _ _
  omega
theorem X_self (P : Part m rows bh st) {n : Nat → Int} (N : Cyl m rows n) : X m rows bh st n n = 0 := by have := X_anti P N N; omega
/-- the difference of a function of the places over a tie: nought on lands, unseen by round functions -/
def dp (st : Nat → Nat) (g : Nat → Int) (e : Nat) : Int := g (st (mate e)) - g (st e)
theorem dp_anti (g : Nat → Int) : Anti m (dp st g) := fun e _ => by unfold dp; rw [mate_mate]; omega
theorem dp_land (P : Part m rows bh st) (Q : Part m lands (fun e => bh (mate e)) ld) (g : Nat → Int) : ∀ l ∈ lands, sm (dp st g) l = 0 := by
  intro l hl
  have e1 : sm (dp st g) l = sm (fun e => g (st (bh (mate e)))) l - sm (fun e => g (st e)) l := by
    rw [← sm_sub]
    exact sm_congr fun e he => by unfold dp; rw [P.s_nx (mate_lt (Q.lt hl he))]
  rw [e1, Q.sm_nx hl (fun e => g (st e))]; omega
theorem dp_pair (P : Part m rows bh st) {n : Nat → Int} (N : Cyl m rows n) (g : Nat → Int) : S m (fun e => dp st g e * n e) = 0 := by
  have z := P.pair_zero (g := fun e => g (st e)) (c := n) (fun e he => by
    show g (st (bh e)) = g (st e)
    rw [P.s_nx he]) N.row
  have e1 : S m (fun e => dp st g e * n e) = S m (fun e => g (st (mate e)) * n e) - S m (fun e => g (st e) * n e) := by
    rw [← S_sub]
    exact S_congr fun e _ => by unfold dp; rw [Int.sub_mul]
  have e2 : S m (fun e => g (st (mate e)) * n e) = - S m (fun e => g (st e) * n e) := by
    rw [← S_mate m (fun e => g (st (mate e)) * n e), ← S_neg]
    exact S_congr fun e he => by
      show g (st (mate (mate e))) * n (mate e) = - (g (st e) * n e)
      rw [mate_mate, N.anti e he, Int.mul_neg]
  rw [e1, e2, z]; omega
/-- what is nought on each land is told by the marks -/
theorem Floor.repr (F : Floor m rows lands bh st ld T C l0 l1 a b) {c : Nat → Int} (ca : Anti m c) (cl : ∀ l ∈ lands, sm c l = 0) : ∃ (x y : Int) (g : Nat → Int), ∀ e, e < 2 * m → c e = dp st g e + x * a e + y * b e := by
  obtain ⟨root, tc, _⟩ := F.c
  obtain ⟨ok, rt, tt, _⟩ := F.t
  obtain ⟨g, hg⟩ := tt.potential c
  let x := c (2 * l0) - dp st g (2 * l0)
  let y := c (2 * l1) - dp st g (2 * l1)
  refine ⟨x, y, g, ?_⟩
  have hL0 := F.h0
  have hL1 := F.h1
  have ra : Anti m (fun e => c e - dp st g e - x * a e - y * b e) := fun e he => by
    have h1 := ca e he
    have h2 := dp_anti (m := m) (st := st) g e he
    have h3 := F.aa e he
    have h4 := F.ba e he
    dsimp only
    rw [h1, h2, h3, h4]; grind
  have rz : ∀ e, e < 2 * m → ¬ OnT C e → c e - dp st g e - x * a e - y * b e = 0 := by
    intro e he hc
    rcases F.left e he with z | z | z | z
    · rw [F.az e he z, F.bz e he z]
      obtain ⟨p, hp, hd⟩ := z
      obtain ⟨i, hi⟩ := List.mem_iff_getElem?.mp hp
      have h := hg i p.1 p.2 hi
      rcases div_cases hd with w | w
      · rw [w] at h
        unfold dp; omega
      · rw [w, mate_mate, ca e he] at h
        unfold dp; omega
    · exact absurd z hc
    · have base : c (2 * l0) - dp st g (2 * l0) - x * a (2 * l0) - y * b (2 * l0) = 0 := by rw [F.a0, F.b0]; show _ - _ - (c (2 * l0) - dp st g (2 * l0)) * 1 - y * 0 = 0; omega
      rcases (by omega : e = 2 * l0 ∨ e = 2 * l0 + 1) with w | w
      · rw [w]; exact base
      · have h := ra (2 * l0) (by omega)
        rw [mate_even] at h
        dsimp only at h
        rw [w, h, base]; rfl
    · have base : c (2 * l1) - dp st g (2 * l1) - x * a (2 * l1) - y * b (2 * l1) = 0 := by rw [F.a1, F.b1]; show _ - _ - x * 0 - (c (2 * l1) - dp st g (2 * l1)) * 1 = 0; omega
      rcases (by omega : e = 2 * l1 ∨ e = 2 * l1 + 1) with w | w
      · rw [w]; exact base
      · have h := ra (2 * l1) (by omega)
        rw [mate_even] at h
        dsimp only at h
        rw [w, h, base]; rfl
  have z := tc.leaf (d := 0) F.Q ra (fun i l hl _ => by
    have hm := List.mem_of_getElem? hl
    have e1 : sm (fun e => c e - dp st g e - x * a e - y * b e) l = sm c l - sm (dp st g) l - x * sm a l - y * sm b l := by rw [sm_sub, sm_sub, sm_sub, sm_mul, sm_mul]
    rw [e1, cl l hm, dp_land F.P F.Q g l hm, F.al l hm, F.bl l hm]
    exact ⟨0, by omega⟩) (fun e he hc => by rw [rz e he hc]; exact ⟨0, by omega⟩)
  intro e he
  obtain ⟨k, hk⟩ := z e he
  omega
theorem repr_pair (P : Part m rows bh st) {c : Nat → Int} {x y : Int} {g : Nat → Int} (h : ∀ e, e < 2 * m → c e = dp st g e + x * a e + y * b e) {n : Nat → Int} (N : Cyl m rows n) : S m (fun e => c e * n e) = x * S m (fun e => a e * n e) + y * S m (fun e => b e * n e) := by
  have e1 : S m (fun e => c e * n e) = S m (fun e => dp st g e * n e) + x * S m (fun e => a e * n e) + y * S m (fun e => b e * n e) := by
    rw [← S_mul, ← S_mul, ← S_add, ← S_add]
    exact S_congr fun e he => by rw [h e he]; grind
  rw [e1, dp_pair P N g]; omega
/-- twice the crossing of two round functions -/
theorem Floor.cross (F : Floor m rows lands bh st ld T C l0 l1 a b) : ∃ κ : Int, κ ≠ 0 ∧ ∀ n n' : Nat → Int, Cyl m rows n → Cyl m rows n' →
    2 * X m rows bh st n n' = κ * (S m (fun e => a e * n e) * S m (fun e => b e * n' e) - S m (fun e => b e * n e) * S m (fun e => a e * n' e)) := by
  obtain ⟨ok, rt, tt, full⟩ := F.t
  have hL0 := F.h0
  have hL1 := F.h1
  obtain ⟨z0, za0, zr0, zv0, zo0⟩ := tt.round F.P full (e := 2 * l0) (by omega) F.f0.1
  obtain ⟨z1, za1, zr1, zv1, zo1⟩ := tt.round F.P full (e := 2 * l1) (by omega) F.f1.1
  have Z0 : Cyl m rows z0 := ⟨za0, zr0⟩
  have Z1 : Cyl m rows z1 := ⟨za1, zr1⟩
  have c0 : ∀ e, e < 2 * m → OnT C e → z0 e = 0 := fun e he h => zo0 e (F.offT he h) fun q => F.f0.2 (OnT_div h q)
  have c1 : ∀ e, e < 2 * m → OnT C e → z1 e = 0 := fun e he h => zo1 e (F.offT he h) fun q => F.f1.2 (OnT_div h q)
  have A0 : S m (fun e => a e * z0 e) = 2 := by rw [F.pair0 za0 c0, zv0]; rfl
  have B0 : S m (fun e => b e * z0 e) = 0 := by rw [F.pair1 za0 c0, zo0 _ F.f1.1 (by have := F.ne; omega)]; rfl
  have A1 : S m (fun e => a e * z1 e) = 0 := by rw [F.pair0 za1 c1, zo1 _ F.f0.1 (by have := F.ne; omega)]; rfl
  have B1 : S m (fun e => b e * z1 e) = 2 := by rw [F.pair1 za1 c1, zv1]; rfl
  -- each crossing by two numbers
  have rep : ∀ n, Cyl m rows n → ∃ (x y : Int) (g : Nat → Int), (∀ e, e < 2 * m → cc rows bh st n e = dp st g e + x * a e + y * b e) ∧ X m rows bh st n z0 = 2 * x ∧ X m rows bh st n z1 = 2 * y := by
    intro n N
    obtain ⟨x, y, g, h⟩ := F.repr (cc_anti F.P N) (cc_land (rows := rows) (st := st) F.Q n)
    refine ⟨x, y, g, h, ?_, ?_⟩
    · show S m _ = _
      rw [repr_pair F.P h Z0, A0, B0]; omega
    · show S m _ = _
      rw [repr_pair F.P h Z1, A1, B1]; omega
  obtain ⟨x0, y0, g0, h0, hx0, hy0⟩ := rep z0 Z0
  obtain ⟨x1, y1, g1, h1, hx1, hy1⟩ := rep z1 Z1
  have s0 := X_self F.P Z0
  have s1 := X_self F.P Z1
  have s01 := X_anti F.P Z0 Z1
  refine ⟨y0, fun hk => ?_, fun n n' N N' => ?_⟩
  · -- else z0 would be filled
    have hx : x0 = 0 := by omega
    have hc : ∀ e, e < 2 * m → cc rows bh st z0 e = dp st g0 e := fun e he => by rw [h0 e he, hx, hk]; omega
    have hG : ∀ e, e < 2 * m → pot rows st z0 (bh (mate e)) + g0 (st (bh (mate e))) = pot rows st z0 e + g0 (st e) := fun e he => by
      have q := hc e he
      unfold cc dp at q
      rw [F.P.s_nx (mate_lt he)]; omega
    have hz : ∀ e, e < 2 * m → z0 e = (pot rows st z0 e + g0 (st e)) - (pot rows st z0 (mate e) + g0 (st (mate e))) := fun e he => by
      have q := hc e he
      rw [cc_eq F.P Z0 he] at q
      unfold dp at q; omega
    have p := F.Q.pair_zero (g := fun e => pot rows st z0 e + g0 (st e)) (c := a) hG F.al
    have e1 : S m (fun e => a e * z0 e) = S m (fun e => (pot rows st z0 e + g0 (st e)) * a e) - S m (fun e => (pot rows st z0 (mate e) + g0 (st (mate e))) * a e) := by
      rw [← S_sub]
      exact S_congr fun e he => by rw [hz e he]; grind
    have e2 : S m (fun e => (pot rows st z0 (mate e) + g0 (st (mate e))) * a e) = - S m (fun e => (pot rows st z0 e + g0 (st e)) * a e) := by
      rw [← S_mate m (fun e => (pot rows st z0 (mate e) + g0 (st (mate e))) * a e), ← S_neg]
      exact S_congr fun e he => by
        show (pot rows st z0 (mate (mate e)) + g0 (st (mate (mate e)))) * a (mate e) = _
        rw [mate_mate, F.aa e he, Int.mul_neg]
    omega
  · obtain ⟨x, y, g, h, hx, hy⟩ := rep n N
    have q0 := X_anti F.P N Z0
    have q1 := X_anti F.P N Z1
    have w0 : X m rows bh st z0 n = x0 * S m (fun e => a e * n e) + y0 * S m (fun e => b e * n e) := repr_pair F.P h0 N
    have w1 : X m rows bh st z1 n = x1 * S m (fun e => a e * n e) + y1 * S m (fun e => b e * n e) := repr_pair F.P h1 N
    have wn : X m rows bh st n n' = x * S m (fun e => a e * n' e) + y * S m (fun e => b e * n' e) := repr_pair F.P h N'
    have hx0' : x0 = 0 := by omega
    have hy1' : y1 = 0 := by omega
    have hx1' : x1 = - y0 := by omega
    rw [hx0'] at w0
    rw [hy1', hx1'] at w1
    have e3 : 2 * x = - (y0 * S m (fun e => b e * n e)) := by rw [← hx, q0, w0]; omega
    have e4 : 2 * y = y0 * S m (fun e => a e * n e) := by rw [← hy, q1, w1]; grind
    rw [wn]
    generalize S m (fun e => a e * n e) = A at *
    generalize S m (fun e => b e * n e) = B at *
    generalize S m (fun e => a e * n' e) = A' at *
    generalize S m (fun e => b e * n' e) = B' at *
    grind
end
end Rf
end
section
set_option autoImplicit false
/-! Mf: the bound of the crossing of two rounds; the law's last words. -/
namespace Rf
section
variable {m : Nat} {rows lands : List (List Nat)} {bh st ld : Nat → Nat} {T C : List (Nat × Nat)} {l0 l1 : Nat} {a b : Nat → Int}
theorem Rnd.cyl {W : List Nat} (P : Part m rows bh st) (R : Rnd m st W) : Cyl m rows (net W) := ⟨net_anti W, P.net_row R.lt R.wk⟩
theorem sm_count_le {l : List Nat} (hn : l.Nodup) : ∀ (W : List Nat), (W.map fun x => ite01 (x ∈ l)).sum = sm (fun e => (W.count e : Int)) l := by
  intro W
  rw [sm_count hn]
  induction W with
  | nil => rfl
  | cons w W ih =>
    rw [List.map_cons, List.sum_cons, ih, List.countP_cons]
    unfold ite01
    by_cases h : w ∈ l <;> simp [h]; omega
/-- of ends whose images under f are unlike, at most one has a given image -/
theorem count_le_one {W : List Nat} {f : Nat → Nat} (h : (W.map f).Nodup) (i : Nat) : W.countP (fun x => decide (f x = i)) ≤ 1 := by
  rw [countP_map_eq]
  exact List.nodup_iff_count.mp h i
theorem countP_mono_list {p : Nat → Bool} {l k : List Nat} (h : l.Sublist k) : l.countP p ≤ k.countP p := h.countP_le
/-- the potential of a round steps by one at most within a place -/
theorem Rnd.step {W : List Nat} (P : Part m rows bh st) (R : Rnd m st W) {e e' : Nat} (he : e < 2 * m) (he' : e' < 2 * m) (hs : st e = st e') :
    pot rows st (net W) e - pot rows st (net W) e' ≤ (if st e ∈ W.map st then 1 else 0) ∧ pot rows st (net W) e' - pot rows st (net W) e ≤ (if st e ∈ W.map st then 1 else 0) := by
  obtain ⟨r, hr, her⟩ := P.row he
  have her' : e' ∈ r := (P.mem_iff hr he').mpr hs.symm
  have hm := List.mem_of_getElem? hr
  have hnd := P.rnd hm
  -- both prefixes
  have pre : ∀ x, x ∈ r → ∃ j, j ≤ r.length ∧ pot rows st (net W) x = - sm (net W) (r.take j) := by
    intro x hx
    obtain ⟨l, k, rfl⟩ := List.append_of_mem hx
    exact ⟨l.length, by simp, by rw [P.pot_at hr, List.take_left]⟩
  have hplaces : (W.map fun e => st (mate e)).Nodup := by
    rw [R.wk]
    exact ((rot_perm W).map st).nodup_iff.mpr R.places
  by_cases hv : st e ∈ W.map st
  · rw [if_pos hv]
    have diff : ∀ i j, i ≤ j → sm (net W) (r.take j) - sm (net W) (r.take i) ≤ 1 ∧ sm (net W) (r.take i) - sm (net W) (r.take j) ≤ 1 := by
      intro i j hij
      have hsub : (r.take i).Sublist (r.take j) := List.take_sublist_take_left hij
      have n1 : (r.take i).Nodup := hnd.sublist (List.take_sublist _ _)
      have n2 : (r.take j).Nodup := hnd.sublist (List.take_sublist _ _)
      have ev : ∀ l : List Nat, l.Nodup → sm (net W) l = (W.countP (fun x => decide (x ∈ l)) : Int) - (W.countP (fun x => decide (mate x ∈ l)) : Int) := by
        intro l hl
        rw [← sm_count hl, ← sm_count_mate hl, ← sm_sub]; rfl
      rw [ev _ n1, ev _ n2]
      have b1 : W.countP (fun x => decide (x ∈ r.take i)) ≤ W.countP (fun x => decide (x ∈ r.take j)) := List.countP_mono_left fun x _ hx => by
        simp only [decide_eq_true_eq] at hx ⊢
        exact hsub.subset hx
      have b2 : W.countP (fun x => decide (mate x ∈ r.take i)) ≤ W.countP (fun x => decide (mate x ∈ r.take j)) := List.countP_mono_left fun x _ hx => by
        simp only [decide_eq_true_eq] at hx ⊢
        exact hsub.subset hx
      have b3 : W.countP (fun x => decide (x ∈ r.take j)) ≤ 1 := Nat.le_trans (List.countP_mono_left fun x hx hj => by
        simp only [decide_eq_true_eq] at hj ⊢
        exact (P.mem_iff hr (R.lt x hx)).mp (List.mem_of_mem_take hj)) (count_le_one R.places (st e))
      have b4 : W.countP (fun x => decide (mate x ∈ r.take j)) ≤ 1 := Nat.le_trans (List.countP_mono_left fun x hx hj => by
        simp only [decide_eq_true_eq] at hj ⊢
        exact (P.mem_iff hr (mate_lt (R.lt x hx))).mp (List.mem_of_mem_take hj)) (count_le_one hplaces (st e))
      omega
    obtain ⟨j, _, pj⟩ := pre e her
    obtain ⟨j', _, pj'⟩ := pre e' her'
    rw [pj, pj']
    rcases Nat.le_total j j' with h | h
    · have := diff j j' h; omega
    · have := diff j' j h; omega
  · rw [if_neg hv]
    have hz : ∀ x ∈ r, net W x = 0 := by
      intro x hx
      have hxl := P.lt hm hx
      have hxs := (P.mem_iff hr hxl).mp hx
      have k1 : x ∉ W := fun z => hv (List.mem_map.mpr ⟨x, z, hxs⟩)
      have k2 : mate x ∉ W := fun z => by
        have : st (mate (mate x)) ∈ W.map fun e => st (mate e) := List.mem_map.mpr ⟨_, z, rfl⟩
        rw [R.wk, mate_mate, hxs] at this
        exact hv (((rot_perm W).map st).mem_iff.mp this)
      unfold net
      rw [List.count_eq_zero.mpr k1, List.count_eq_zero.mpr k2]; rfl
    have z : ∀ x, x ∈ r → pot rows st (net W) x = 0 := by
      intro x hx
      obtain ⟨j, _, pj⟩ := pre x hx
      rw [pj, sm_zero fun y hy => hz y (List.mem_of_mem_take hy)]; rfl
    rw [z e her, z e' her']; omega
/-- the crossing of a round by a walk, visit by visit -/
theorem steps_le {u : Nat → Int} {S : Nat → Prop} [DecidablePred S] (hu : ∀ e e', e < 2 * m → e' < 2 * m → st e = st e' → u e - u e' ≤ (if S (st e) then 1 else 0)) : ∀ (xs ys : List Nat), (∀ x ∈ xs, x < 2 * m) → (∀ y ∈ ys, y < 2 * m) → xs.map st = ys.map st →
    sm u xs - sm u ys ≤ (xs.countP fun x => decide (S (st x)) : Nat)
  | [], [], _, _, _ => by simp [sm_nil]
  | [], y :: ys, _, _, h => by simp at h
  | x :: xs, [], _, _, h => by simp at h
  | x :: xs, y :: ys, hx, hy, h => by
    rw [List.map_cons, List.map_cons] at h
    injection h with h1 h2
    have ih := steps_le hu xs ys (fun z hz => hx z (by simp [hz])) (fun z hz => hy z (by simp [hz])) h2
    have := hu x y (hx x (by simp)) (hy y (by simp)) h1
    rw [sm_cons, sm_cons, List.countP_cons]
    by_cases k : S (st x)
    · rw [if_pos k] at this
      simp only [k, decide_true, if_true]; omega
    · rw [if_neg k] at this
      simp only [k, decide_false]; simp; omega
theorem Rnd.cross_le {W V : List Nat} (P : Part m rows bh st) (R : Rnd m st W) (R' : Rnd m st V) :
    sm (cc rows bh st (net W)) V ≤ (V.countP fun x => decide (st x ∈ W.map st) : Nat) ∧ - sm (cc rows bh st (net W)) V ≤ (V.countP fun x => decide (st x ∈ W.map st) : Nat) := by
  have hV := R'.lt
  have e1 : sm (cc rows bh st (net W)) V = sm (pot rows st (net W)) V - sm (pot rows st (net W)) (V.map fun e => bh (mate e)) := by
    rw [sm_map, ← sm_sub]; rfl
  have rp := rot_perm V
  have e2 : sm (pot rows st (net W)) V = sm (pot rows st (net W)) (V.drop 1 ++ V.take 1) := (sm_perm rp).symm
  have hr : ∀ x ∈ V.drop 1 ++ V.take 1, x < 2 * m := fun x hx => hV x (rp.mem_iff.mp hx)
  have hm : ∀ x ∈ V.map (fun e => bh (mate e)), x < 2 * m := fun x hx => by
    obtain ⟨y, hy, rfl⟩ := List.mem_map.mp hx
    exact P.nx_lt (mate_lt (hV y hy))
  have hst : (V.drop 1 ++ V.take 1).map st = (V.map fun e => bh (mate e)).map st := by
    rw [← R'.wk, List.map_map]
    exact List.map_congr_left fun x hx => (P.s_nx (mate_lt (hV x hx))).symm
  have c1 : (V.drop 1 ++ V.take 1).countP (fun x => decide (st x ∈ W.map st)) = V.countP (fun x => decide (st x ∈ W.map st)) := rp.countP_eq _
  have c2 : (V.map fun e => bh (mate e)).countP (fun x => decide (st x ∈ W.map st)) = V.countP (fun x => decide (st x ∈ W.map st)) := by
    rw [← c1]
    have h1 := List.countP_map (p := fun i => decide (i ∈ W.map st)) (f := st) (l := V.map fun e => bh (mate e))
    have h2 := List.countP_map (p := fun i => decide (i ∈ W.map st)) (f := st) (l := V.drop 1 ++ V.take 1)
    have h3 : ∀ l : List Nat, (l.map st).countP (fun i => decide (i ∈ W.map st)) = l.countP (fun x => decide (st x ∈ W.map st)) := fun l => by rw [List.countP_map]; rfl
    rw [← h3, ← h3, hst]
  have f1 := steps_le (m := m) (st := st) (u := pot rows st (net W)) (S := fun i => i ∈ W.map st) (fun e e' h h' hs => (R.step P h h' hs).1) _ _ hr hm hst
  have f2 := steps_le (m := m) (st := st) (u := pot rows st (net W)) (S := fun i => i ∈ W.map st) (fun e e' h h' hs => (R.step P h h' hs).1) _ _ hm hr hst.symm
  rw [c1] at f1
  rw [c2] at f2
  rw [e1, e2]; omega
/-- two rounds have at least as many places in common as their area tells -/
theorem Floor.common (F : Floor m rows lands bh st ld T C l0 l1 a b) {W V : List Nat} (R : Rnd m st W) (R' : Rnd m st V) :
    (sm a W * sm b V - sm b W * sm a V).natAbs ≤ V.countP fun x => decide (st x ∈ W.map st) := by
  obtain ⟨κ, hk, hx⟩ := F.cross
  have h := hx _ _ (R.cyl F.P) (R'.cyl F.P)
  obtain ⟨s0, s1⟩ := F.sums R.lt
  obtain ⟨t0, t1⟩ := F.sums R'.lt
  have e1 : X m rows bh st (net W) (net V) = 2 * sm (cc rows bh st (net W)) V := S_net R'.lt (cc_anti F.P (R.cyl F.P))
  rw [s0, s1, t0, t1, e1] at h
  obtain ⟨f1, f2⟩ := R.cross_le F.P R'
  generalize sm a W = p at *
  generalize sm b W = q at *
  generalize sm a V = p2 at *
  generalize sm b V = q2 at *
  generalize sm (cc rows bh st (net W)) V = c at *
  have e2 : c = κ * (p * q2 - q * p2) := by grind
  have e3 : (p * q2 - q * p2).natAbs ≤ c.natAbs := by
    rw [e2, Int.natAbs_mul]
    exact Nat.le_mul_of_pos_left _ (Int.natAbs_pos.mpr hk)
  omega
theorem dvd_of_coprime {a b c : Int} (h : a ∣ b * c) (g : Int.gcd a b = 1) : a ∣ c := by
  have h1 : a.natAbs ∣ b.natAbs * c.natAbs := by rw [← Int.natAbs_mul]; exact Int.natAbs_dvd_natAbs.mpr h
  exact Int.natAbs_dvd_natAbs.mp (Nat.Coprime.dvd_of_dvd_mul_left g h1)
/-- two pairs without a common divisor whose area is nought are the same, or the same with the other signs -/
theorem same_pair {p q p2 q2 : Int} (h : p * q2 - q * p2 = 0) (h1 : ∀ d : Int, d ∣ p → d ∣ q → d ∣ 1) (h2 : ∀ d : Int, d ∣ p2 → d ∣ q2 → d ∣ 1) : (p2 = p ∧ q2 = q) ∨ (p2 = -p ∧ q2 = -q) := by
  have g1 : Int.gcd p q = 1 := by
    have := h1 (Int.gcd p q) (Int.gcd_dvd_left p q) (Int.gcd_dvd_right p q)
    have h3 := Int.natAbs_dvd_natAbs.mpr this
    simpa using h3
  have g2 : Int.gcd p2 q2 = 1 := by
    have := h2 (Int.gcd p2 q2) (Int.gcd_dvd_left p2 q2) (Int.gcd_dvd_right p2 q2)
    have h3 := Int.natAbs_dvd_natAbs.mpr this
    simpa using h3
  have e : p * q2 = q * p2 := by omega
  -- p divides p2 and the other way
  have d1 : p ∣ p2 := by
    have : p ∣ q * p2 := ⟨q2, e.symm⟩
    exact dvd_of_coprime this g1
  have d2 : p2 ∣ p := by
    have : p2 ∣ q2 * p := ⟨q, by rw [Int.mul_comm, e, Int.mul_comm]⟩
    exact dvd_of_coprime this g2
  have hp := Int.natAbs_eq_natAbs_iff.mp (Nat.dvd_antisymm (Int.natAbs_dvd_natAbs.mpr d2) (Int.natAbs_dvd_natAbs.mpr d1))
  by_cases z : p = 0
  · have z2 : p2 = 0 := by omega
    subst z
    rw [z2] at g2 ⊢
    rw [Int.gcd_zero_left] at g1 g2
    have := Int.natAbs_eq_natAbs_iff.mp (g2.trans g1.symm)
    rcases this with w | w
    · exact .inl ⟨rfl, w⟩
    · exact .inr ⟨rfl, w⟩
  · rcases hp with w | w
    · refine .inl ⟨w, ?_⟩
      rw [w, Int.mul_comm] at e
      exact Int.eq_of_mul_eq_mul_right z e
    · refine .inr ⟨w, ?_⟩
      rw [w, Int.mul_comm, Int.mul_neg, ← Int.neg_mul] at e
      exact Int.eq_of_mul_eq_mul_right z e
end
end Rf
end
section
set_option autoImplicit false
set_option linter.all false
/-! Mg: drawings as lists of rows; lands; how many there are. -/
namespace Rf

/-- the place at which e stands; what stands behind it -/
def seat (L : List (List Nat)) (e : Nat) : Nat := L.findIdx fun r => decide (e ∈ r)
def beh (L : List (List Nat)) (e : Nat) : Nat := ((L.getD (seat L e) []).getD (((L.getD (seat L e) []).idxOf e + 1) % (L.getD (seat L e) []).length) 0)
/-- m ties, each end once -/
structure Dr (rows : List (List Nat)) (m : Nat) : Prop where
  nd : rows.flatten.Nodup
  mem : ∀ e, e ∈ rows.flatten ↔ e < 2 * m
theorem seat_eq {L : List (List Nat)} (hn : L.flatten.Nodup) {i : Nat} {l : List Nat} {e : Nat} (hl : L[i]? = some l) (he : e ∈ l) : seat L e = i := by
  obtain ⟨hi, rfl⟩ := List.getElem?_eq_some_iff.mp hl
  unfold seat
  refine (List.findIdx_eq hi).mpr ⟨decide_eq_true he, fun j hj => decide_eq_false fun z => ?_⟩
  have hp := (List.pairwise_flatten.mp hn).2
  exact (List.pairwise_iff_getElem.mp hp j i (by omega) hi hj) e z e he rfl
theorem seat_row {L : List (List Nat)} {e : Nat} (he : e ∈ L.flatten) : ∃ l, L[seat L e]? = some l ∧ e ∈ l := by
  obtain ⟨l, hl, hel⟩ := List.mem_flatten.mp he
  have hlt : seat L e < L.length := List.findIdx_lt_length.mpr ⟨l, hl, decide_eq_true hel⟩
  have h2 := List.findIdx_getElem (xs := L) (p := fun r => decide (e ∈ r)) (w := hlt)
  exact ⟨_, List.getElem?_eq_getElem hlt, of_decide_eq_true h2⟩
theorem row_nodup {L : List (List Nat)} (hn : L.flatten.Nodup) {l : List Nat} (hl : l ∈ L) : l.Nodup := (List.pairwise_flatten.mp hn).1 l hl
theorem idxOf_at {l : List Nat} (hn : l.Nodup) {j e : Nat} (h : l[j]? = some e) : l.idxOf e = j := by
  obtain ⟨hj, hje⟩ := List.getElem?_eq_some_iff.mp h
  have hm : e ∈ l := hje ▸ List.getElem_mem hj
  have hlt := List.idxOf_lt_length_iff.mpr hm
  exact (List.getElem_inj hn).mp ((List.getElem_idxOf hlt).trans hje.symm)
theorem beh_at {L : List (List Nat)} (hn : L.flatten.Nodup) {i j e : Nat} {l : List Nat} (hl : L[i]? = some l) (hj : l[j]? = some e) : l[(j + 1) % l.length]? = some (beh L e) := by
  have he : e ∈ l := List.mem_of_getElem? hj
  have hpos : 0 < l.length := List.length_pos_of_mem he
  have hlt := Nat.mod_lt (j + 1) hpos
  have hr : L.getD i [] = l := by rw [List.getD_eq_getElem?_getD, hl]; rfl
  unfold beh
  rw [seat_eq hn hl he, hr, idxOf_at (row_nodup hn (List.mem_of_getElem? hl)) hj, List.getD_eq_getElem?_getD, List.getElem?_eq_getElem hlt]; rfl
/-- by places: a list is a ring just where each item is followed by the next one -/
theorem seg_of_get {nx : Nat → Nat} : ∀ {l : List Nat} {b : Nat}, (∀ j x, l[j]? = some x → (l ++ [b])[j + 1]? = some (nx x)) → ∀ a, (l ++ [b])[0]? = some a → Seg nx a l b
  | [], b, _, a, h => (Option.some.inj h).symm
  | x :: l, b, h, a, ha => by
    have e : x = a := Option.some.inj ha
    subst e
    refine ⟨rfl, seg_of_get (fun j y hy => ?_) _ ?_⟩
    · have := h (j + 1) y (by simpa using hy)
      simpa using this
    · have := h 0 x rfl
      simpa using this
theorem beh_seg {L : List (List Nat)} (hn : L.flatten.Nodup) {l : List Nat} (hl : l ∈ L) : ∃ a, Seg (beh L) a l a := by
  obtain ⟨i, hi⟩ := List.mem_iff_getElem?.mp hl
  cases l with
  | nil => exact ⟨0, rfl⟩
  | cons a l =>
    refine ⟨a, seg_of_get (fun j x hx => ?_) a rfl⟩
    have h := beh_at hn hi hx
    have hj := (List.getElem?_eq_some_iff.mp hx).1
    by_cases hlast : j + 1 = (a :: l).length
    · rw [hlast, Nat.mod_self] at h
      rw [← h, hlast, List.getElem?_append_right (Nat.le_refl _), Nat.sub_self]
      rfl
    · rw [Nat.mod_eq_of_lt (by omega)] at h
      rw [← h, List.getElem?_append_left (by omega)]
theorem Dr.part {rows : List (List Nat)} {m : Nat} (D : Dr rows m) : Part m rows (beh rows) (seat rows) :=
  ⟨D.nd, D.mem, fun l hl => beh_seg D.nd hl, fun i l e hl he => seat_eq D.nd hl he⟩

/-! ### how many -/
theorem nodup_le {l : List Nat} {n : Nat} (hn : l.Nodup) (h : ∀ x ∈ l, x < n) : l.length ≤ n := by
  have p : ((List.range n).filter fun x => decide (x ∈ l)).Perm l := (List.perm_ext_iff_of_nodup (List.nodup_range.filter _) hn).mpr fun x => by
    rw [List.mem_filter, List.mem_range]
    exact ⟨fun ⟨_, h2⟩ => of_decide_eq_true h2, fun h2 => ⟨h x h2, decide_eq_true h2⟩⟩
  rw [← p.length_eq]
  exact Nat.le_trans (List.length_filter_le _ _) (by rw [List.length_range]; exact Nat.le_refl _)
theorem map_nodup {α β : Type} {f : α → β} : ∀ {l : List α}, l.Nodup → (∀ x ∈ l, ∀ y ∈ l, f x = f y → x = y) → (l.map f).Nodup
  | [], _, _ => List.nodup_nil
  | x :: l, h, k => by
    rw [List.nodup_cons] at h
    rw [List.map_cons, List.nodup_cons]
    refine ⟨fun z => ?_, map_nodup h.2 fun a ha b hb => k a (by simp [ha]) b (by simp [hb])⟩
    obtain ⟨y, hy, e⟩ := List.mem_map.mp z
    have := k y (by simp [hy]) x (by simp) e
    subst this
    exact h.1 hy
theorem part_le {m : Nat} {L L' : List (List Nat)} {nx s s' : Nat → Nat} (P : Part m L nx s) (P' : Part m L' nx s') (hne : ∀ l ∈ L, l ≠ []) : L.length ≤ L'.length := by
  have hd : ∀ i, i < L.length → ∃ e, e < 2 * m ∧ s e = i := by
    intro i hi
    cases hl : L[i] with
    | nil => exact absurd hl (hne _ (List.getElem_mem hi))
    | cons e r =>
      have hi2 : L[i]? = some (e :: r) := by rw [List.getElem?_eq_getElem hi, hl]
      exact ⟨e, P.lt (List.mem_of_getElem? hi2) (by simp), P.num _ _ _ hi2 (by simp)⟩
  let f : Nat → Nat := fun i => if h : i < L.length then s' (Classical.choose (hd i h)) else 0
  have hf : ∀ i (h : i < L.length), f i = s' (Classical.choose (hd i h)) := fun i h => dif_pos h
  have n1 : ((List.range L.length).map f).Nodup := map_nodup List.nodup_range fun i hi j hj e => by
    rw [List.mem_range] at hi hj
    rw [hf i hi, hf j hj] at e
    obtain ⟨a1, a2⟩ := Classical.choose_spec (hd i hi)
    obtain ⟨b1, b2⟩ := Classical.choose_spec (hd j hj)
    have := P'.const2 (g := fun e => (s e : Int)) (fun e he => by
      show ((s (nx e) : Nat) : Int) = s e
      rw [P.s_nx he]) a1 b1 e
    have h2 : s (Classical.choose (hd i hi)) = s (Classical.choose (hd j hj)) := by
      have q : ((s (Classical.choose (hd i hi)) : Nat) : Int) = (s (Classical.choose (hd j hj)) : Nat) := this
      omega
    rw [a2, b2] at h2
    exact h2
  have := nodup_le n1 (n := L'.length) fun x hx => by
    obtain ⟨i, hi, rfl⟩ := List.mem_map.mp hx
    rw [List.mem_range] at hi
    rw [hf i hi]
    obtain ⟨a1, _⟩ := Classical.choose_spec (hd i hi)
    obtain ⟨r, hr, _⟩ := P'.row a1
    exact (List.getElem?_eq_some_iff.mp hr).1
  simpa using this
/-- the ends go in F rings under nx -/
def Rings (m : Nat) (nx : Nat → Nat) (F : Nat) : Prop := ∃ L : List (List Nat), L.flatten.Nodup ∧ (∀ e, e ∈ L.flatten ↔ e < 2 * m) ∧ (∀ l ∈ L, l ≠ [] ∧ ∃ a, Seg nx a l a) ∧ L.length = F
theorem part_seat {m : Nat} {L : List (List Nat)} {nx : Nat → Nat} (h1 : L.flatten.Nodup) (h2 : ∀ e, e ∈ L.flatten ↔ e < 2 * m) (h3 : ∀ l ∈ L, ∃ a, Seg nx a l a) : Part m L nx (seat L) := ⟨h1, h2, h3, fun _ _ _ hl he => seat_eq h1 hl he⟩
theorem Rings.count {m F : Nat} {nx s : Nat → Nat} (R : Rings m nx F) {L : List (List Nat)} (P : Part m L nx s) (hne : ∀ l ∈ L, l ≠ []) : L.length = F := by
  obtain ⟨L', h1, h2, h3, h4⟩ := R
  have P' := part_seat h1 h2 fun l hl => (h3 l hl).2
  have a := part_le P P' hne
  have b := part_le P' P fun l hl => (h3 l hl).1
  omega

/-! ### rings under a one-to-one function -/
/-- nx leads ends to ends, unlike ones to unlike ones -/
structure Inj (N : Nat) (nx : Nat → Nat) : Prop where
  lt : ∀ e, e < N → nx e < N
  inj : ∀ e e', e < N → e' < N → nx e = nx e' → e = e'
theorem Part.inj {m : Nat} {L : List (List Nat)} {nx s : Nat → Nat} (P : Part m L nx s) : Inj (2 * m) nx := by
  refine ⟨fun e he => P.nx_lt he, fun e e' he he' h => ?_⟩
  obtain ⟨l, hl, hel⟩ := P.row he
  have hs : s e = s e' := by rw [← P.s_nx he, ← P.s_nx he', h]
  have hel' : e' ∈ l := (P.mem_iff hl he').mpr hs.symm
  have hm := List.mem_of_getElem? hl
  obtain ⟨a, hseg⟩ := P.seg l hm
  have hp := Seg.ring_map hseg
  exact inj_of_map ((hp.nodup_iff).mpr (P.rnd hm)) e hel e' hel' h
theorem Inj.mate {m : Nat} {nx : Nat → Nat} (I : Inj (2 * m) nx) : Inj (2 * m) (fun e => nx (mate e)) :=
  ⟨fun e he => I.lt _ (mate_lt he), fun e e' he he' h => mate_inj (I.inj _ _ (mate_lt he) (mate_lt he') h)⟩
/-- the ring from e -/
def IsOrb (nx : Nat → Nat) (e : Nat) (l : List Nat) : Prop := l ≠ [] ∧ l.Nodup ∧ Seg nx e l e
theorem seg_lt {N : Nat} {nx : Nat → Nat} (I : Inj N nx) : ∀ {l : List Nat} {a b : Nat}, Seg nx a l b → a < N → (∀ x ∈ l, x < N) ∧ b < N
  | [], a, b, h, ha => ⟨by simp, by cases h; exact ha⟩
  | x :: l, a, b, h, ha => by
    have hx : x < N := by rw [← h.1]; exact ha
    obtain ⟨h1, h2⟩ := seg_lt I h.2 (I.lt x hx)
    exact ⟨fun y hy => (List.mem_cons.mp hy).elim (fun z => by rw [z]; exact hx) (h1 y), h2⟩
theorem orb_ex {N : Nat} {nx : Nat → Nat} (I : Inj N nx) {e : Nat} (he : e < N) : ∃ l, IsOrb nx e l := by
  have key : ∀ k, (∃ l, IsOrb nx e l) ∨ ∃ l x, l.length = k ∧ l.Nodup ∧ Seg nx e l x := by
    intro k
    induction k with
    | zero => exact .inr ⟨[], e, rfl, List.nodup_nil, rfl⟩
    | succ k ih =>
      rcases ih with h | ⟨l, x, hk, hn, hs⟩
      · exact .inl h
      · by_cases hx : x ∈ l
        · left
          obtain ⟨l1, l2, rfl⟩ := List.append_of_mem hx
          obtain ⟨c, hs1, hs2⟩ := Seg.append.mp hs
          have hc : c = x := hs2.1
          subst hc
          cases hl1 : l1 with
          | nil =>
            subst hl1
            have : e = c := hs1
            subst this
            exact ⟨_, by simp, hn, hs⟩
          | cons y l1' =>
            -- the one ahead of x in l and the last one lead both to x
            exfalso
            have hlt := seg_lt I hs he
            obtain ⟨p, q, hpq⟩ : ∃ p q, l1 = p ++ [q] := ⟨l1.dropLast, l1.getLast (by rw [hl1]; simp), (List.dropLast_concat_getLast _).symm⟩
            obtain ⟨p2, q2, hpq2⟩ : ∃ p2 q2, c :: l2 = p2 ++ [q2] := ⟨(c :: l2).dropLast, (c :: l2).getLast (by simp), (List.dropLast_concat_getLast _).symm⟩
            have e1 : nx q = c := by
              rw [hpq] at hs1
              exact seg_last hs1
            have e2 : nx q2 = c := by
              rw [hpq2] at hs2
              exact seg_last hs2
            have hq : q ∈ l1 := by rw [hpq]; simp
            have hq2 : q2 ∈ c :: l2 := by rw [hpq2]; simp
            have := I.inj q q2 (hlt.1 q (by simp [hq])) (hlt.1 q2 (List.mem_append.mpr (.inr hq2))) (e1.trans e2.symm)
            subst this
            rw [List.nodup_append] at hn
            exact hn.2.2 q hq q hq2 rfl
        · right
          refine ⟨l ++ [x], nx x, by simp [hk], ?_, Seg.append.mpr ⟨x, hs, rfl, rfl⟩⟩
          rw [List.nodup_append]
          exact ⟨hn, by simp, fun a ha b hb => by simp at hb; subst hb; exact fun z => hx (z ▸ ha)⟩
  rcases key (N + 1) with h | ⟨l, x, hk, hn, hs⟩
  · exact h
  · have := nodup_le hn (seg_lt I hs he).1
    omega
theorem seg_uniq_len {nx : Nat → Nat} : ∀ {l k : List Nat} {a b c : Nat}, Seg nx a l b → Seg nx a k c → l.length ≤ k.length → ∃ r, k = l ++ r
  | [], k, _, _, _, _, _, _ => ⟨k, rfl⟩
  | x :: l, [], _, _, _, _, _, h => by simp at h
  | x :: l, y :: k, a, b, c, h, h', hl => by
    have : x = y := h.1.symm.trans h'.1
    subst this
    obtain ⟨r, hr⟩ := seg_uniq_len h.2 h'.2 (by simpa using hl)
    exact ⟨r, by rw [hr]; rfl⟩
theorem orb_uniq {nx : Nat → Nat} {e : Nat} {l k : List Nat} (h : IsOrb nx e l) (h' : IsOrb nx e k) : l = k := by
  have one : ∀ {l k : List Nat}, IsOrb nx e l → IsOrb nx e k → l.length ≤ k.length → l = k := by
    intro l k h h' hlen
    obtain ⟨r, rfl⟩ := seg_uniq_len h.2.2 h'.2.2 hlen
    cases r with
    | nil => simp
    | cons y r =>
      obtain ⟨c, s1, s2⟩ := Seg.append.mp h'.2.2
      have hc : c = e := by
        have s1' := h.2.2
        have := Seg.map s1
        have := Seg.map s1'
        have q : l ++ [c] = l ++ [e] := by rw [← Seg.map s1, ← Seg.map s1']
        simpa using q
      have hy : y = e := by rw [← s2.1, hc]
      cases hl : l with
      | nil => exact absurd hl h.1
      | cons z l' =>
        subst hl
        have hz : z = e := h.2.2.1.symm
        have hn := h'.2.1
        rw [List.nodup_append] at hn
        exact absurd rfl (hn.2.2 e (by rw [hz]; simp) e (by rw [hy]; simp))
  rcases Nat.le_total l.length k.length with q | q
  · exact one h h' q
  · exact (one h' h q).symm
open Classical in
noncomputable def orb (nx : Nat → Nat) (e : Nat) : List Nat := if h : ∃ l, IsOrb nx e l then Classical.choose h else []
theorem orb_is {N : Nat} {nx : Nat → Nat} (I : Inj N nx) {e : Nat} (he : e < N) : IsOrb nx e (orb nx e) := by
  unfold orb
  rw [dif_pos (orb_ex I he)]
  exact Classical.choose_spec (orb_ex I he)
theorem orb_self {N : Nat} {nx : Nat → Nat} (I : Inj N nx) {e : Nat} (he : e < N) : e ∈ orb nx e := by
  obtain ⟨h1, _, h3⟩ := orb_is I he
  cases h : orb nx e with
  | nil => exact absurd h h1
  | cons x l => rw [h] at h3; rw [h3.1]; simp
/-- the ring from another end of the ring is the ring turned -/
theorem orb_turn {N : Nat} {nx : Nat → Nat} (I : Inj N nx) {e x : Nat} (he : e < N) (hx : x ∈ orb nx e) : ∃ l k, orb nx e = l ++ k ∧ orb nx x = k ++ l := by
  have ho := orb_is I he
  obtain ⟨l, k, hlk⟩ := List.append_of_mem hx
  refine ⟨l, x :: k, hlk, ?_⟩
  have hs := ho.2.2
  rw [hlk] at hs
  obtain ⟨c, s1, s2⟩ := Seg.append.mp hs
  have hc : c = x := s2.1
  subst hc
  have hxN : c < N := (seg_lt I ho.2.2 he).1 c hx
  refine orb_uniq (orb_is I hxN) ⟨by simp, ?_, Seg.append.mpr ⟨e, s2, s1⟩⟩
  have hn := ho.2.1
  rw [hlk] at hn
  exact (List.perm_append_comm.nodup_iff).mp hn
theorem orb_mem_lt {N : Nat} {nx : Nat → Nat} (I : Inj N nx) {e x : Nat} (he : e < N) (hx : x ∈ orb nx e) : x < N := (seg_lt I (orb_is I he).2.2 he).1 x hx
theorem orb_same {N : Nat} {nx : Nat → Nat} (I : Inj N nx) {e x : Nat} (he : e < N) (hx : x ∈ orb nx e) (y : Nat) : y ∈ orb nx x ↔ y ∈ orb nx e := by
  obtain ⟨l, k, h1, h2⟩ := orb_turn I he hx
  rw [h1, h2, List.mem_append, List.mem_append]
  exact Or.comm
theorem orb_sym {N : Nat} {nx : Nat → Nat} (I : Inj N nx) {e x : Nat} (he : e < N) (hx : x ∈ orb nx e) : e ∈ orb nx x := (orb_same I he hx e).mpr (orb_self I he)
/-- the least end of its ring -/
def least (nx : Nat → Nat) (e : Nat) : Prop := ∀ x ∈ orb nx e, e ≤ x
open Classical in
/-- the rings, each begun with its least end, in the order of these; of those that begin below k -/
noncomputable def ringsTo (nx : Nat → Nat) (k : Nat) : List (List Nat) := ((List.range k).filter fun e => decide (least nx e)).map (orb nx)
open Classical in
theorem ringsTo_succ (nx : Nat → Nat) (k : Nat) : (least nx k → ringsTo nx (k + 1) = ringsTo nx k ++ [orb nx k]) ∧ (¬ least nx k → ringsTo nx (k + 1) = ringsTo nx k) := by
  unfold ringsTo
  rw [List.range_succ, List.filter_append, List.map_append]
  constructor
  · intro h; simp [h]
  · intro h; simp [h]
open Classical in
theorem ringsTo_mem {nx : Nat → Nat} {k : Nat} {l : List Nat} : l ∈ ringsTo nx k ↔ ∃ e, e < k ∧ least nx e ∧ l = orb nx e := by
  unfold ringsTo
  rw [List.mem_map]
  constructor
  · rintro ⟨e, he, rfl⟩
    rw [List.mem_filter, List.mem_range] at he
    exact ⟨e, he.1, of_decide_eq_true he.2, rfl⟩
  · rintro ⟨e, h1, h2, rfl⟩
    exact ⟨e, List.mem_filter.mpr ⟨List.mem_range.mpr h1, decide_eq_true h2⟩, rfl⟩
theorem least_ex {N : Nat} {nx : Nat → Nat} (I : Inj N nx) {e : Nat} (he : e < N) : ∃ x, x ∈ orb nx e ∧ least nx x := by
  have key : ∀ k e, e = k → e < N → ∃ x, x ∈ orb nx e ∧ least nx x := by
    intro k
    induction k using Nat.strongRecOn with
    | _ k ih =>
      intro e hk he
      by_cases h : least nx e
      · exact ⟨e, orb_self I he, h⟩
      · unfold least at h
        obtain ⟨x, hx⟩ := Classical.not_forall.mp h
        obtain ⟨hx, hlt⟩ := Classical.not_imp.mp hx
        obtain ⟨y, hy, hl⟩ := ih x (by omega) x rfl (orb_mem_lt I he hx)
        exact ⟨y, (orb_same I he hx y).mp hy, hl⟩
  exact key e e rfl he
theorem least_uniq {N : Nat} {nx : Nat → Nat} (I : Inj N nx) {e x : Nat} (he : e < N) (hx : x ∈ orb nx e) (h1 : least nx e) (h2 : least nx x) : e = x := by
  have a := h1 x hx
  have b := h2 e (orb_sym I he hx)
  omega
/-- an end lies in the rings that begin below k just where its ring has an end below k -/
theorem ringsTo_in {N : Nat} {nx : Nat → Nat} (I : Inj N nx) {k x : Nat} (hk : k ≤ N) (hx : x < N) : x ∈ (ringsTo nx k).flatten ↔ ∃ y ∈ orb nx x, y < k := by
  rw [List.mem_flatten]
  constructor
  · rintro ⟨l, hl, hxl⟩
    obtain ⟨e, he, _, rfl⟩ := ringsTo_mem.mp hl
    exact ⟨e, orb_sym I (by omega) hxl, he⟩
  · rintro ⟨y, hy, hyk⟩
    obtain ⟨z, hz, hl⟩ := least_ex I hx
    have hzy : z ≤ y := hl y ((orb_same I hx hz y).mpr hy)
    exact ⟨_, ringsTo_mem.mpr ⟨z, by omega, hl, rfl⟩, orb_sym I hx hz⟩
theorem ringsTo_nodup {N : Nat} {nx : Nat → Nat} (I : Inj N nx) : ∀ k, k ≤ N → (ringsTo nx k).flatten.Nodup := by
  intro k
  induction k with
  | zero => intro _; simp [ringsTo]
  | succ k ih =>
    intro hk
    have hkN : k < N := by omega
    by_cases h : least nx k
    · rw [(ringsTo_succ nx k).1 h, List.flatten_append, List.nodup_append]
      refine ⟨ih (by omega), by simpa using (orb_is I hkN).2.1, fun a ha b hb e => ?_⟩
      subst e
      have hb : a ∈ orb nx k := by simpa using hb
      have ha2 : a < N := orb_mem_lt I hkN hb
      obtain ⟨y, hy, hyk⟩ := (ringsTo_in I (by omega) ha2).mp ha
      have := h y ((orb_same I hkN hb y).mp hy)
      omega
    · rw [(ringsTo_succ nx k).2 h]; exact ih (by omega)
theorem rings_part {m : Nat} {nx : Nat → Nat} (I : Inj (2 * m) nx) : Part m (ringsTo nx (2 * m)) nx (seat (ringsTo nx (2 * m))) := by
  refine part_seat (ringsTo_nodup I _ (Nat.le_refl _)) (fun e => ?_) fun l hl => ?_
  · constructor
    · intro h
      obtain ⟨l, hl, hel⟩ := List.mem_flatten.mp h
      obtain ⟨x, hx, _, rfl⟩ := ringsTo_mem.mp hl
      exact orb_mem_lt I hx hel
    · intro h
      exact (ringsTo_in I (Nat.le_refl _) h).mpr ⟨e, orb_self I h, h⟩
  · obtain ⟨x, hx, _, rfl⟩ := ringsTo_mem.mp hl
    exact ⟨x, (orb_is I hx).2.2⟩
theorem rings_ne {m : Nat} {nx : Nat → Nat} (I : Inj (2 * m) nx) : ∀ l ∈ ringsTo nx (2 * m), l ≠ [] := fun l hl => by
  obtain ⟨x, hx, _, rfl⟩ := ringsTo_mem.mp hl
  exact (orb_is I hx).1
/-- the lands of a drawing -/
noncomputable def stp (rows : List (List Nat)) (e : Nat) : Nat := beh rows (mate e)
noncomputable def landsOf (rows : List (List Nat)) (m : Nat) : List (List Nat) := ringsTo (stp rows) (2 * m)
theorem Dr.inj {rows : List (List Nat)} {m : Nat} (D : Dr rows m) : Inj (2 * m) (stp rows) := D.part.inj.mate
theorem Dr.lands {rows : List (List Nat)} {m : Nat} (D : Dr rows m) : Part m (landsOf rows m) (stp rows) (seat (landsOf rows m)) := rings_part D.inj
end Rf
end
section
set_option autoImplicit false
set_option linter.all false
/-! Mh: ring drawings: both trees, the two ties left, the marks; a round there is. -/
namespace Rf

/-- all ends hang together -/
def Conn (m : Nat) (bh : Nat → Nat) : Prop := ∀ S : Nat → Prop, (∀ e, e < 2 * m → S e → S (bh e)) → (∀ e, e < 2 * m → S e → S (mate e)) → ∀ e e', e < 2 * m → e' < 2 * m → S e → S e'
/-- one part, one hole -/
structure Ring (rows : List (List Nat)) (m : Nat) : Prop where
  dr : Dr rows m
  ne : ∀ r ∈ rows, r ≠ []
  pos : 0 < m
  conn : Conn m (beh rows)
  euler : ∃ F, Rings m (stp rows) F ∧ m = rows.length + F
section
variable {rows : List (List Nat)} {m : Nat}
theorem Ring.inj (R : Ring rows m) : Inj (2 * m) (stp rows) := R.dr.inj
theorem Ring.lands (R : Ring rows m) : (landsOf rows m).length + rows.length = m := by
  obtain ⟨F, h1, h2⟩ := R.euler
  have := h1.count R.dr.lands (rings_ne R.inj)
  omega
theorem Ring.at (R : Ring rows m) {P : Nat} (h : P < rows.length) : ∃ e, e < 2 * m ∧ seat rows e = P := by
  cases hr : rows[P] with
  | nil => exact absurd hr (R.ne _ (List.getElem_mem h))
  | cons e r =>
    have h2 : rows[P]? = some (e :: r) := by rw [List.getElem?_eq_getElem h, hr]
    exact ⟨e, R.dr.part.lt (List.mem_of_getElem? h2) (by simp), R.dr.part.num _ _ _ h2 (by simp)⟩
theorem Part.s_lt {L : List (List Nat)} {nx s : Nat → Nat} (P : Part m L nx s) {e : Nat} (h : e < 2 * m) : s e < L.length := by
  obtain ⟨l, hl, _⟩ := P.row h
  exact (List.getElem?_eq_some_iff.mp hl).1
theorem Ring.land_at (R : Ring rows m) {l : Nat} (h : l < (landsOf rows m).length) : ∃ e, e < 2 * m ∧ seat (landsOf rows m) e = l := by
  have hne := rings_ne R.inj
  cases hr : (landsOf rows m)[l] with
  | nil => exact absurd hr (hne _ (List.getElem_mem h))
  | cons e r =>
    have h2 : (landsOf rows m)[l]? = some (e :: r) := by rw [List.getElem?_eq_getElem h, hr]
    exact ⟨e, R.dr.lands.lt (List.mem_of_getElem? h2) (by simp), R.dr.lands.num _ _ _ h2 (by simp)⟩
/-- the tree of places from a root, closed: it has all places -/
structure PTree (rows : List (List Nat)) (m root : Nat) (T : List (Nat × Nat)) : Prop where
  tree : Tree m (seat rows) (fun _ => True) root T
  hroot : root < rows.length
  closed : ∀ e, e < 2 * m → seat rows e ∈ root :: T.map (·.1) → seat rows (mate e) ∈ root :: T.map (·.1)
theorem Ring.full (R : Ring rows m) {root : Nat} {T : List (Nat × Nat)} (t : PTree rows m root T) : ∀ e, e < 2 * m → seat rows e ∈ root :: T.map (·.1) := by
  intro e he
  obtain ⟨e0, h0, hs⟩ := R.at t.hroot
  exact R.conn (fun e => seat rows e ∈ root :: T.map (·.1)) (fun x hx h => by rw [R.dr.part.s_nx hx]; exact h) (fun x hx h => t.closed x hx h) e0 e h0 he (by rw [hs]; simp)
theorem perm_len {l : List Nat} {n : Nat} (hn : l.Nodup) (h : ∀ x, x ∈ l ↔ x < n) : l.length = n := by
  have := ((List.perm_ext_iff_of_nodup hn List.nodup_range).mpr fun x => by rw [h, List.mem_range]).length_eq (l₂ := List.range n)
  rwa [List.length_range] at this
theorem Ring.tlen (R : Ring rows m) {root : Nat} {T : List (Nat × Nat)} (t : PTree rows m root T) : T.length + 1 = rows.length := by
  have := perm_len t.tree.nd (n := rows.length) fun x => by
    constructor
    · intro h
      rcases List.mem_cons.mp h with z | z
      · rw [z]; exact t.hroot
      · obtain ⟨⟨P, e⟩, hp, hpe⟩ := List.mem_map.mp z
        obtain ⟨i, hi⟩ := List.mem_iff_getElem?.mp hp
        obtain ⟨h1, h2, _⟩ := t.tree.step i P e hi
        have hpe : P = x := hpe
        rw [← hpe, ← h2]
        exact R.dr.part.s_lt h1
    · intro h
      obtain ⟨e, he, hs⟩ := R.at h
      rw [← hs]; exact R.full t e he
  simpa using this
/-- the tree of lands beside it -/
structure LTree (rows : List (List Nat)) (m : Nat) (T : List (Nat × Nat)) (first : Nat) (C : List (Nat × Nat)) : Prop where
  tree : Tree m (seat (landsOf rows m)) (fun e => ¬ OnT T e) first C
  hfirst : first < (landsOf rows m).length
  closed : ∀ e, e < 2 * m → seat (landsOf rows m) e ∈ first :: C.map (·.1) → ¬ OnT T e → seat (landsOf rows m) (mate e) ∈ first :: C.map (·.1)
theorem Ring.lfull (R : Ring rows m) {root first : Nat} {T C : List (Nat × Nat)} (t : PTree rows m root T) (c : LTree rows m T first C) : ∀ e, e < 2 * m → seat (landsOf rows m) e ∈ first :: C.map (·.1) := by
  have P := R.dr.part
  have Q := R.dr.lands
  let f : Nat → Int := fun l => ite01 (l ∈ first :: C.map (·.1))
  have ha := dl_anti (m := m) (ld := seat (landsOf rows m)) f
  have hz := t.tree.leaf (d := 0) P ha (fun i l hl _ => by
    rw [dl_row P Q f l (List.mem_of_getElem? hl)]; exact ⟨0, by omega⟩) (fun e he ht => by
      have k : seat (landsOf rows m) e ∈ first :: C.map (·.1) ↔ seat (landsOf rows m) (mate e) ∈ first :: C.map (·.1) := by
        refine ⟨fun h => c.closed e he h ht, fun h => ?_⟩
        have := c.closed (mate e) (mate_lt he) h fun z => ht z.mate
        rwa [mate_mate] at this
      refine ⟨0, ?_⟩
      show ite01 (seat (landsOf rows m) e ∈ first :: C.map (·.1)) - ite01 (seat (landsOf rows m) (mate e) ∈ first :: C.map (·.1)) = 0 * 0
      simp only [ite01, k]; omega)
  have step : ∀ e, e < 2 * m → (seat (landsOf rows m) e ∈ first :: C.map (·.1)) → seat (landsOf rows m) (mate e) ∈ first :: C.map (·.1) := by
    intro e he h
    obtain ⟨k, hk⟩ := hz e he
    have hk2 : ite01 (seat (landsOf rows m) e ∈ first :: C.map (·.1)) - ite01 (seat (landsOf rows m) (mate e) ∈ first :: C.map (·.1)) = 0 * k := hk
    by_cases z : seat (landsOf rows m) (mate e) ∈ first :: C.map (·.1)
    · exact z
    · unfold ite01 at hk2
      rw [if_pos h, if_neg z] at hk2; omega
  intro e he
  obtain ⟨e0, h0, hs⟩ := R.land_at c.hfirst
  refine R.conn (fun e => seat (landsOf rows m) e ∈ first :: C.map (·.1)) (fun x hx h => ?_) step e0 e h0 he (by rw [hs]; simp)
  have q := Q.s_nx (mate_lt hx)
  have q2 : seat (landsOf rows m) (beh rows (mate (mate x))) = seat (landsOf rows m) (mate x) := q
  rw [mate_mate] at q2
  show seat (landsOf rows m) (beh rows x) ∈ _
  rw [q2]; exact step x hx h
theorem Ring.clen (R : Ring rows m) {root first : Nat} {T C : List (Nat × Nat)} (t : PTree rows m root T) (c : LTree rows m T first C) : C.length + 1 = (landsOf rows m).length := by
  have := perm_len c.tree.nd (n := (landsOf rows m).length) fun x => by
    constructor
    · intro h
      rcases List.mem_cons.mp h with z | z
      · rw [z]; exact c.hfirst
      · obtain ⟨⟨P, e⟩, hp, hpe⟩ := List.mem_map.mp z
        obtain ⟨i, hi⟩ := List.mem_iff_getElem?.mp hp
        obtain ⟨h1, h2, _⟩ := c.tree.step i P e hi
        have hpe : P = x := hpe
        rw [← hpe, ← h2]
        exact R.dr.lands.s_lt h1
    · intro h
      obtain ⟨e, he, hs⟩ := R.land_at h
      rw [← hs]; exact R.lfull t c e he
  simpa using this
/-- a tree's ties are unlike -/
theorem Tree.ties {s : Nat → Nat} {ok : Nat → Prop} {root : Nat} {T : List (Nat × Nat)} (t : Tree m s ok root T) : (T.map fun p => p.2 / 2).Nodup := by
  have hn := (List.nodup_cons.mp t.nd).2
  refine map_nodup (nodup_of_map hn) fun x hx y hy h => ?_
  obtain ⟨i, hi⟩ := List.mem_iff_getElem?.mp hx
  obtain ⟨j, hj⟩ := List.mem_iff_getElem?.mp hy
  obtain ⟨P, e⟩ := x
  obtain ⟨P', e'⟩ := y
  have k1 := t.step i P e hi
  have k2 := t.step j P' e' hj
  rcases div_cases h with z | z
  · have z : e = e' := z
    subst z
    rw [← k1.2.1, ← k2.2.1]
  · have z : e = mate e' := z
    have a1 := t.before hj hi (by rw [← z]; exact k1.2.1)
    have a2 := t.before hi hj (by rw [z, mate_mate]; exact k2.2.1)
    omega
theorem on_map {T : List (Nat × Nat)} {k : Nat} : k ∈ (T.map fun p => p.2 / 2) ↔ OnT T (2 * k) := by
  rw [List.mem_map]
  constructor
  · rintro ⟨p, hp, h⟩; exact ⟨p, hp, by omega⟩
  · rintro ⟨p, hp, h⟩; exact ⟨p, hp, by omega⟩
/-- just two ties are left -/
theorem Ring.left (R : Ring rows m) {root first : Nat} {T C : List (Nat × Nat)} (t : PTree rows m root T) (c : LTree rows m T first C) {lf : List Nat} (hn : lf.Nodup) (hl : ∀ k, k ∈ lf ↔ k < m ∧ ¬ OnT T (2 * k) ∧ ¬ OnT C (2 * k)) : lf.length = 2 := by
  have h1 := R.tlen t
  have h2 := R.clen t c
  have h3 := R.lands
  have off : ∀ k, OnT C (2 * k) → ¬ OnT T (2 * k) := by
    rintro k ⟨p, hp, hd⟩ z
    obtain ⟨i, hi⟩ := List.mem_iff_getElem?.mp hp
    exact (c.tree.step i p.1 p.2 hi).2.2.2 (OnT_div z hd.symm)
  have lt : ∀ {s : Nat → Nat} {ok : Nat → Prop} {r : Nat} {U : List (Nat × Nat)}, Tree m s ok r U → ∀ k, OnT U (2 * k) → k < m := by
    rintro s ok r U u k ⟨p, hp, hd⟩
    obtain ⟨i, hi⟩ := List.mem_iff_getElem?.mp hp
    have := (u.step i p.1 p.2 hi).1
    omega
  have all := perm_len (l := (T.map fun p => p.2 / 2) ++ ((C.map fun p => p.2 / 2) ++ lf)) (n := m) (by
    rw [List.nodup_append, List.nodup_append]
    refine ⟨t.tree.ties, ⟨c.tree.ties, hn, fun a ha b hb e => ?_⟩, fun a ha b hb e => ?_⟩
    · subst e
      exact ((hl a).mp hb).2.2 ((on_map).mp ha)
    · subst e
      have ha2 := (on_map).mp ha
      rcases List.mem_append.mp hb with z | z
      · exact off a ((on_map).mp z) ha2
      · exact ((hl a).mp z).2.1 ha2) (fun k => by
      rw [List.mem_append, List.mem_append, on_map, on_map, hl]
      constructor
      · rintro (h | h | h)
        · exact lt t.tree k h
        · exact lt c.tree k h
        · exact h.1
      · intro h
        by_cases a : OnT T (2 * k)
        · exact .inl a
        · by_cases b : OnT C (2 * k)
          · exact .inr (.inl b)
          · exact .inr (.inr ⟨h, a, b⟩))
  simp only [List.length_append, List.length_map] at all
  omega

/-! ### marks -/
/-- the mark of an end, from those of the ties -/
def mrk (f : Nat → Int) (e : Nat) : Int := if e % 2 = 0 then f (e / 2) else - f (e / 2)
theorem mrk_anti (f : Nat → Int) : Anti m (mrk f) := fun e _ => by
  unfold mrk
  rw [mate_div]
  by_cases h : e % 2 = 0
  · rw [if_neg (by unfold mate; rw [if_pos h]; omega), if_pos h]
  · rw [if_pos (by unfold mate; rw [if_neg h]; omega), if_neg h]; omega
theorem mrk_even (f : Nat → Int) (k : Nat) : mrk f (2 * k) = f k := by
  unfold mrk
  rw [if_pos (by omega), show 2 * k / 2 = k by omega]
theorem S_anti {c : Nat → Int} (h : Anti m c) : S m c = 0 := by
  have e1 := S_mate m c
  have e2 : S m (fun e => c (mate e)) = - S m c := by
    rw [← S_neg]
    exact S_congr fun e he => h e he
  omega
/-- one more land set right: the tie of e gets such a mark that the land of e comes to nought -/
def put1 (f : Nat → Int) (e : Nat) (s : Int) (k : Nat) : Int := if k = e / 2 then (if e % 2 = 0 then - s else s) else f k
/-- all lands from the i-th of the tree on are set right -/
structure Fixed (rows : List (List Nat)) (m : Nat) (C : List (Nat × Nat)) (f0 : Nat → Int) (i : Nat) (f : Nat → Int) : Prop where
  same : ∀ k, ¬ OnT (C.drop i) (2 * k) → f k = f0 k
  zero : ∀ j P e l, i ≤ j → C[j]? = some (P, e) → (landsOf rows m)[P]? = some l → sm (mrk f) l = 0
theorem sm_put {L : List (List Nat)} {nx s : Nat → Nat} (Q : Part m L nx s) {f : Nat → Int} {e : Nat} (he : e < 2 * m) (x : Int) (hf : f (e / 2) = 0) {i : Nat} {l : List Nat} (hl : L[i]? = some l) (hm : s (mate e) ≠ i) :
    sm (mrk (put1 f e x)) l = sm (mrk f) l - (if s e = i then x else 0) := by
  have hmem := List.mem_of_getElem? hl
  have z : ∀ y, y ∈ l → y ≠ e → mrk (put1 f e x) y = mrk f y := by
    intro y hy hne
    have hd : y / 2 ≠ e / 2 := fun q => by
      rcases div_cases q with w | w
      · exact hne w
      · exact hm (by rw [← w]; exact Q.num _ _ _ hl hy)
    unfold mrk put1
    rw [if_neg hd]
  have hv : mrk (put1 f e x) e = - x := by
    unfold mrk put1
    rw [if_pos rfl]
    by_cases h : e % 2 = 0
    · rw [if_pos h, if_pos h]
    · rw [if_neg h, if_neg h]
  have hv0 : mrk f e = 0 := by
    unfold mrk
    rw [hf]; split <;> rfl
  by_cases hs : s e = i
  · rw [if_pos hs]
    have hel : e ∈ l := (Q.mem_iff hl he).mpr hs
    have p := List.perm_cons_erase hel
    rw [sm_perm p, sm_perm p, sm_cons, sm_cons, hv, hv0]
    rw [sm_congr (l := l.erase e) fun y hy => z y (List.mem_of_mem_erase hy) fun w => by
      subst w
      exact List.Nodup.not_mem_erase (Q.rnd hmem) hy]
    omega
  · rw [if_neg hs, sm_congr fun y hy => z y hy fun w => hs (by rw [← w]; exact Q.num _ _ _ hl hy)]; omega
theorem Fixed.step (R : Ring rows m) {T C : List (Nat × Nat)} {first : Nat} (c : LTree rows m T first C) {f0 f : Nat → Int} (h0 : ∀ k, OnT C (2 * k) → f0 k = 0) {i P e : Nat} {l : List Nat} (hi : C[i]? = some (P, e)) (hl : (landsOf rows m)[P]? = some l) (s : Fixed rows m C f0 (i + 1) f) :
    Fixed rows m C f0 i (put1 f e (sm (mrk f) l)) := by
  have Q := R.dr.lands
  obtain ⟨h1, h2, h3, h4⟩ := c.tree.step i P e hi
  have hlt := (List.getElem?_eq_some_iff.mp hi).1
  have hdrop : C.drop i = (P, e) :: C.drop (i + 1) := by
    rw [List.drop_eq_getElem_cons hlt]
    have := (List.getElem?_eq_some_iff.mp hi).2
    rw [this]
  have hk : ¬ OnT (C.drop (i + 1)) (2 * (e / 2)) := by
    rintro ⟨p, hp, hd⟩
    have ht := c.tree.ties
    have e1 : C = C.take i ++ (P, e) :: C.drop (i + 1) := by rw [← hdrop, List.take_append_drop]
    rw [e1, List.map_append, List.map_cons, List.nodup_append, List.nodup_cons] at ht
    exact ht.2.1.1 (List.mem_map.mpr ⟨p, hp, by dsimp only; omega⟩)
  have hf : f (e / 2) = 0 := by
    rw [s.same _ hk]
    exact h0 _ ⟨(P, e), List.mem_of_getElem? hi, by dsimp only; omega⟩
  have hmate : ∀ j P' e', i ≤ j → C[j]? = some (P', e') → seat (landsOf rows m) (mate e) ≠ P' := by
    intro j P' e' hij hj z
    have := c.tree.before hi hj z
    omega
  refine ⟨fun k hk2 => ?_, fun j P' e' l' hij hj hl' => ?_⟩
  · have hne : k ≠ e / 2 := fun z => hk2 (by rw [hdrop]; exact ⟨(P, e), by simp, by dsimp only; omega⟩)
    unfold put1
    rw [if_neg hne]
    exact s.same k fun ⟨p, hp, hd⟩ => hk2 ⟨p, by rw [hdrop]; simp [hp], hd⟩
  · rw [sm_put Q h1 _ hf hl' (hmate j P' e' hij hj)]
    by_cases hz : j = i
    · subst hz
      rw [hi] at hj
      cases hj
      rw [hl] at hl'
      cases hl'
      rw [if_pos h2]; omega
    · have hne : seat (landsOf rows m) e ≠ P' := by
        rw [h2]
        intro w
        subst w
        exact hz (c.tree.uniq hj hi)
      rw [if_neg hne, s.zero j P' e' l' (by omega) hj hl']; omega
theorem Fixed.done (R : Ring rows m) {T C : List (Nat × Nat)} {root first : Nat} (t : PTree rows m root T) (c : LTree rows m T first C) {f0 f : Nat → Int} (s : Fixed rows m C f0 0 f) : ∀ l ∈ landsOf rows m, sm (mrk f) l = 0 := by
  have Q := R.dr.lands
  have other : ∀ i l, (landsOf rows m)[i]? = some l → i ≠ first → sm (mrk f) l = 0 := by
    intro i l hl hne
    have hi := (List.getElem?_eq_some_iff.mp hl).1
    obtain ⟨e, he, hs⟩ := R.land_at hi
    have := R.lfull t c e he
    rw [hs] at this
    rcases List.mem_cons.mp this with z | z
    · exact absurd z hne
    · obtain ⟨⟨P, e2⟩, hp, hpe⟩ := List.mem_map.mp z
      have hpe : P = i := hpe
      subst hpe
      obtain ⟨j, hj⟩ := List.mem_iff_getElem?.mp hp
      exact s.zero j P e2 l (Nat.zero_le _) hj hl
  intro l hl
  obtain ⟨i, hi⟩ := List.mem_iff_getElem?.mp hl
  by_cases z : i = first
  · subst z
    -- the first land: what is left of all
    have tot := Q.sum (mrk f)
    rw [S_anti (mrk_anti f)] at tot
    obtain ⟨hlt, he⟩ := List.getElem?_eq_some_iff.mp hi
    have e1 : landsOf rows m = (landsOf rows m).take i ++ l :: (landsOf rows m).drop (i + 1) := by
      rw [← he, ← List.drop_eq_getElem_cons hlt, List.take_append_drop]
    have z1 : ((List.take i (landsOf rows m)).map (sm (mrk f))).sum = 0 := sum_zero fun k hk => by
      obtain ⟨j, hj, rfl⟩ := List.mem_iff_getElem.mp hk
      rw [List.length_take] at hj
      rw [List.getElem_take]
      exact other j _ (List.getElem?_eq_getElem (by omega)) (by omega)
    have z2 : ((List.drop (i + 1) (landsOf rows m)).map (sm (mrk f))).sum = 0 := sum_zero fun k hk => by
      obtain ⟨j, hj, rfl⟩ := List.mem_iff_getElem.mp hk
      rw [List.length_drop] at hj
      rw [List.getElem_drop]
      exact other (i + 1 + j) _ (List.getElem?_eq_getElem (by omega)) (by omega)
    rw [e1, List.map_append, List.map_cons, List.sum_append, List.sum_cons, z1, z2] at tot
    omega
  · exact other i l hi z
/-- the marks of the program: at the start 1 on one of the ties left, 0 on all others -/
def one1 (l k : Nat) : Int := if k = l then 1 else 0
theorem Ring.floor (R : Ring rows m) {root first : Nat} {T C : List (Nat × Nat)} (t : PTree rows m root T) (c : LTree rows m T first C) {l0 l1 : Nat} (hl : ∀ k, k ∈ [l0, l1] ↔ k < m ∧ ¬ OnT T (2 * k) ∧ ¬ OnT C (2 * k)) (hne : l0 ≠ l1) {f g : Nat → Int}
    (sf : Fixed rows m C (one1 l0) 0 f) (sg : Fixed rows m C (one1 l1) 0 g) : Floor m rows (landsOf rows m) (beh rows) (seat rows) (seat (landsOf rows m)) T C l0 l1 (mrk f) (mrk g) := by
  have k0 := (hl l0).mp (by simp)
  have k1 := (hl l1).mp (by simp)
  have offC : ∀ k, OnT T (2 * k) → ¬ OnT C (2 * k) := by
    rintro k h ⟨p, hp, hd⟩
    obtain ⟨i, hi⟩ := List.mem_iff_getElem?.mp hp
    exact (c.tree.step i p.1 p.2 hi).2.2.2 (OnT_div h hd.symm)
  have val : ∀ {l : Nat} {f : Nat → Int}, Fixed rows m C (one1 l) 0 f → ∀ k, ¬ OnT C (2 * k) → f k = one1 l k := fun s k h => s.same k h
  have tz : ∀ {l : Nat} {f : Nat → Int}, Fixed rows m C (one1 l) 0 f → ¬ OnT T (2 * l) → ∀ e, e < 2 * m → OnT T e → mrk f e = 0 := by
    intro l f s hlT e he ht
    have ht2 : OnT T (2 * (e / 2)) := OnT_div ht (by omega)
    have : f (e / 2) = 0 := by
      rw [val s _ (offC _ ht2)]
      unfold one1
      rw [if_neg fun z => hlT (by rw [← z]; exact ht2)]
    unfold mrk
    rw [this]; split <;> rfl
  refine ⟨R.dr.part, R.dr.lands, ⟨_, root, t.tree, R.full t⟩, ⟨first, c.tree, R.lfull t c⟩, k0.1, k1.1, hne, fun e he => ?_, ⟨k0.2.1, k0.2.2⟩, ⟨k1.2.1, k1.2.2⟩, mrk_anti f, mrk_anti g, tz sf k0.2.1, tz sg k1.2.1, ?_, ?_, ?_, ?_, Fixed.done R t c sf, Fixed.done R t c sg⟩
  · by_cases a : OnT T e
    · exact .inl a
    · by_cases b : OnT C e
      · exact .inr (.inl b)
      · have := (hl (e / 2)).mpr ⟨by omega, fun z => a (OnT_div z (by omega)), fun z => b (OnT_div z (by omega))⟩
        simp at this
        exact .inr (.inr this)
  · rw [mrk_even, val sf _ k0.2.2]; unfold one1; rw [if_pos rfl]
  · rw [mrk_even, val sf _ k1.2.2]; unfold one1; rw [if_neg hne.symm]
  · rw [mrk_even, val sg _ k0.2.2]; unfold one1; rw [if_neg hne]
  · rw [mrk_even, val sg _ k1.2.2]; unfold one1; rw [if_pos rfl]
/-- the marks may be told the other way about -/
theorem Floor.swap {lands : List (List Nat)} {bh st ld : Nat → Nat} {T C : List (Nat × Nat)} {l0 l1 : Nat} {a b : Nat → Int} (F : Floor m rows lands bh st ld T C l0 l1 a b) : Floor m rows lands bh st ld T C l1 l0 b a :=
  ⟨F.P, F.Q, F.t, F.c, F.h1, F.h0, F.ne.symm, fun e he => by rcases F.left e he with h | h | h | h <;> simp [h], F.f1, F.f0, F.ba, F.aa, F.bz, F.az, F.b1, F.b0, F.a1, F.a0, F.bl, F.al⟩

/-! ### there is a round function -/
theorem nodup_sub_le {l k : List Nat} (hn : l.Nodup) (h : ∀ x ∈ l, x ∈ k) : l.length ≤ k.length := by
  induction l generalizing k with
  | nil => simp
  | cons a l ih =>
    rw [List.nodup_cons] at hn
    have ha := h a (by simp)
    have := ih (k := k.erase a) hn.2 fun x hx => (List.mem_erase_of_ne (fun z => hn.1 (by rw [← z]; exact hx))).mpr (h x (by simp [hx]))
    rw [List.length_erase_of_mem ha] at this
    have : 0 < k.length := List.length_pos_of_mem ha
    simp only [List.length_cons]; omega
theorem Ring.ptree (R : Ring rows m) : ∃ T, PTree rows m 0 T := by
  have hV : 0 < rows.length := by
    have := R.dr.part.s_lt (e := 0) (by have := R.pos; omega)
    omega
  have key : ∀ k, (∃ T, PTree rows m 0 T) ∨ ∃ T, Tree m (seat rows) (fun _ => True) 0 T ∧ T.length = k := by
    intro k
    induction k with
    | zero => exact .inr ⟨[], ⟨by simp, fun i P e h => by simp at h⟩, rfl⟩
    | succ k ih =>
      rcases ih with h | ⟨T, t, hk⟩
      · exact .inl h
      · by_cases hc : ∀ e, e < 2 * m → seat rows e ∈ 0 :: T.map (·.1) → seat rows (mate e) ∈ 0 :: T.map (·.1)
        · exact .inl ⟨T, t, hV, hc⟩
        · right
          obtain ⟨e, hc⟩ := Classical.not_forall.mp hc
          obtain ⟨he, hc⟩ := Classical.not_imp.mp hc
          obtain ⟨hs, hc⟩ := Classical.not_imp.mp hc
          refine ⟨T ++ [(seat rows (mate e), mate e)], ⟨?_, fun i P e2 h => ?_⟩, by simp [hk]⟩
          · rw [List.map_append, ← List.cons_append, List.nodup_append]
            refine ⟨t.nd, by simp, fun a ha b hb z => ?_⟩
            simp at hb
            subst hb z
            exact hc ha
          · by_cases hi : i < T.length
            · rw [List.getElem?_append_left hi] at h
              rw [List.take_append_of_le_length (by omega)]
              exact t.step i P e2 h
            · rw [List.getElem?_append_right (by omega)] at h
              have hi2 : i - T.length = 0 := by
                have := (List.getElem?_eq_some_iff.mp h).1
                simp at this; omega
              rw [hi2] at h
              cases h
              refine ⟨mate_lt he, rfl, ?_, trivial⟩
              rw [mate_mate, show i = T.length by omega, List.take_left]
              exact hs
  rcases key (rows.length + 1) with h | ⟨T, t, hk⟩
  · exact h
  · have := nodup_le t.nd (n := rows.length) fun x hx => by
      rcases List.mem_cons.mp hx with z | z
      · rw [z]; exact hV
      · obtain ⟨⟨P, e⟩, hp, hpe⟩ := List.mem_map.mp z
        obtain ⟨i, hi⟩ := List.mem_iff_getElem?.mp hp
        obtain ⟨h1, h2, _⟩ := t.step i P e hi
        have hpe : P = x := hpe
        rw [← hpe, ← h2]
        exact R.dr.part.s_lt h1
    simp at this; omega
theorem Ring.cyc (R : Ring rows m) : ∃ z : Nat → Int, Cyl m rows z ∧ ∃ e, e < 2 * m ∧ z e ≠ 0 := by
  obtain ⟨T, t⟩ := R.ptree
  have h1 := R.tlen t
  have h2 := R.lands
  obtain ⟨k, hk, hn⟩ : ∃ k, k < m ∧ ¬ OnT T (2 * k) := by
    refine Classical.byContradiction fun hc => ?_
    have hall : ∀ k ∈ List.range m, k ∈ T.map fun p => p.2 / 2 := fun k hk => by
      rw [List.mem_range] at hk
      exact (on_map).mpr (Classical.byContradiction fun hn => hc ⟨k, hk, hn⟩)
    have := nodup_sub_le List.nodup_range hall
    simp at this; omega
  obtain ⟨z, za, zr, zv, _⟩ := t.tree.round R.dr.part (R.full t) (e := 2 * k) (by omega) hn
  exact ⟨z, ⟨za, zr⟩, 2 * k, by omega, by rw [zv]; decide⟩
end
end Rf
end
section
set_option linter.all false
set_option autoImplicit false
set_option maxRecDepth 100000
set_option maxHeartbeats 1000000
/-! Fw: a small layer over the readings. B: what is known and stays; H: the heap; Val: an expression's value, the heap as it was; VH: a value with a heap behind it. -/
namespace Rf
open PySem L2

/-! ### heaps -/
/-- the known part B can be read in H -/
def Le (B H : Hp) : Prop := ∀ a o, Rd B a o → Rd H a o
/-- all of H is there, exactly -/
def Ex (H H' : Hp) : Prop := ∀ a o, H a = some o → H' a = some o
theorem Ex.refl (H : Hp) : Ex H H := fun _ _ h => h
theorem Ex.trans {H H1 H2 : Hp} (a : Ex H H1) (b : Ex H1 H2) : Ex H H2 := fun x o h => b x o (a x o h)
theorem Ex.le {H H' : Hp} (e : Ex H H') : Le H H' := fun a o h => by
  rcases h with h | ⟨u, h⟩
  · exact .inl (e a _ h)
  · exact .inr ⟨u, e a _ h⟩
theorem Le.refl (H : Hp) : Le H H := fun _ _ h => h
theorem Le.trans {H H1 H2 : Hp} (a : Le H H1) (b : Le H1 H2) : Le H H2 := fun x o h => b x o (a x o h)
theorem Ex.new {H : Hp} {p : Addr} {o : HO} (h : H p = none) : Ex H (upd H p o) := fun a u e => by
  rw [upd_ne (ne_of_none e h)]
  exact e
theorem Ex.mut {H H' : Hp} {p : Addr} {o : HO} (e : Ex H H') (h : H p = none) : Ex H (upd H' p o) := fun a u ha => by
  rw [upd_ne (ne_of_none ha h)]
  exact e a u ha
theorem rd_some {H : Hp} {a : Addr} {o : HO} (h : Rd H a o) : H a ≠ none := by
  rcases h with h | ⟨u, h⟩ <;> rw [h] <;> exact fun z => nomatch z
theorem rd_upd {H : Hp} {a p : Addr} {o u : HO} (h : Rd H a o) (n : a ≠ p) : Rd (upd H p u) a o := by
  rcases h with h | ⟨ob, h⟩
  · exact .inl (by rw [upd_ne n]; exact h)
  · exact .inr ⟨ob, by rw [upd_ne n]; exact h⟩
theorem rd_of_upd {H : Hp} {a p : Addr} {o u : HO} (h : Rd (L2.upd H p u) a o) (n : a ≠ p) : Rd H a o := by
  rcases h with h | ⟨ob, h⟩
  · exact .inl (by rw [upd_ne n] at h; exact h)
  · exact .inr ⟨ob, by rw [upd_ne n] at h; exact h⟩
theorem Le.mut {B H : Hp} {p : Addr} {o : HO} (e : Le B H) (h : B p = none) : Le B (upd H p o) := fun a u ha =>
  rd_upd (e a u ha) fun z => (rd_some ha) (by rw [z]; exact h)
theorem Ex.free {H H' : Hp} (e : Ex H H') {p : Addr} (h : H' p = none) : H p = none := by
  cases q : H p with
  | none => rfl
  | some o => rw [e p o q] at h; cases h
theorem Le.free {H H' : Hp} (e : Le H H') {p : Addr} (h : H' p = none) : H p = none := by
  cases q : H p with
  | none => rfl
  | some o => exact absurd h (rd_some (e p o (.inl q)))

/-- from (B, H) to (B', H'): nothing that stood was changed; nothing that was there but not known is now known -/
structure Ext (B H B' H' : Hp) : Prop where
  bb : Ex B B'
  le : Le B' H'
  hh : Ex H H'
  fr : ∀ a, H a ≠ none → B a = none → B' a = none
theorem Ext.refl {B H : Hp} (h : Le B H) : Ext B H B H := ⟨.refl _, h, .refl _, fun _ _ h => h⟩
theorem Ext.trans {B H B1 H1 B2 H2 : Hp} (a : Ext B H B1 H1) (b : Ext B1 H1 B2 H2) : Ext B H B2 H2 :=
  ⟨a.bb.trans b.bb, b.le, a.hh.trans b.hh, fun x h1 h2 => b.fr x (fun z => h1 (a.hh.free z)) (a.fr x h1 h2)⟩
/-- the heap grew or its own objects changed; what is known is as it was -/
theorem Ext.same {B H H' : Hp} (e : Ex H H') (l : Le B H') : Ext B H B H' := ⟨.refl _, l, e, fun _ _ h => h⟩
/-- a new object that nobody will change -/
theorem Ext.new {B H : Hp} {p : Addr} {o : HO} (l : Le B H) (h : H p = none) : Ext B H (upd B p o) (upd H p o) := by
  have hb := l.free h
  refine ⟨.new hb, fun a u ha => ?_, .new h, fun a h1 h2 => ?_⟩
  · by_cases e : a = p
    · subst e
      rcases ha with ha | ⟨ob, ha⟩
      · rw [upd_same] at ha; exact .inl (by rw [upd_same]; exact ha)
      · rw [upd_same] at ha; exact .inr ⟨ob, by rw [upd_same]; exact ha⟩
    · exact rd_upd (l a u (rd_of_upd ha e)) e
  · have e : a ≠ p := fun z => h1 (by rw [z]; exact h)
    rw [upd_ne e]; exact h2
/-- an own object p (not in the heap H0 at the start, not known) -/
structure Own (H0 B H : Hp) (p : Addr) (o : HO) : Prop where
  h0 : H0 p = none
  b : B p = none
  h : H p = some o
theorem Own.ne {H0 B H : Hp} {p q : Addr} {o u : HO} (a : Own H0 B H p o) (b : H q = some u) (d : o ≠ u) : p ≠ q := ne_of a.h b d
/-- what else happens keeps it -/
theorem Own.ext {H0 B H B' H' : Hp} {p : Addr} {o : HO} (a : Own H0 B H p o) (e : Ext B H B' H') : Own H0 B' H' p o :=
  ⟨a.h0, e.fr p (fun z => by rw [a.h] at z; cases z) a.b, e.hh p o a.h⟩
theorem Own.put {H0 B H : Hp} {p : Addr} {o : HO} (a : Own H0 B H p o) (u : HO) : Own H0 B (upd H p u) p u := ⟨a.h0, a.b, upd_same⟩
theorem Own.other {H0 B H : Hp} {p q : Addr} {o u : HO} (a : Own H0 B H p o) (n : p ≠ q) : Own H0 B (upd H q u) p o := ⟨a.h0, a.b, by rw [upd_ne n]; exact a.h⟩
theorem Own.of_new {H0 B H : Hp} {p : Addr} {o : HO} (e : Ex H0 H) (l : Le B H) (h : H p = none) : Own H0 B (upd H p o) p o := ⟨e.free h, l.free h, upd_same⟩
/-- the step that an own object's change is -/
theorem Ext.put {B0 H0 B H : Hp} {p : Addr} {o : HO} (e : Ext B0 H0 B H) (a : Own H0 B H p o) (u : HO) : Ext B0 H0 B (upd H p u) :=
  ⟨e.bb, e.le.mut a.b, e.hh.mut a.h0, e.fr⟩
/-- a new own object -/
theorem Ext.own {B0 H0 B H : Hp} {p : Addr} {o : HO} (e : Ext B0 H0 B H) (h : H p = none) : Ext B0 H0 B (upd H p o) :=
  ⟨e.bb, e.le.mut (e.le.free h), e.hh.trans (.new h), e.fr⟩
/-- an own object becomes known -/
theorem Ext.freeze {B0 H0 B H : Hp} {p : Addr} {o : HO} (e : Ext B0 H0 B H) (a : Own H0 B H p o) : Ext B0 H0 (upd B p o) H := by
  refine ⟨e.bb.trans (.new a.b), fun x u hx => ?_, e.hh, fun x h1 h2 => ?_⟩
  · by_cases n : x = p
    · subst n
      rcases hx with hx | ⟨ob, hx⟩
      · rw [upd_same] at hx; cases hx; exact .inl a.h
      · rw [upd_same] at hx; cases hx; exact .inr ⟨ob, a.h⟩
    · exact e.le x u (rd_of_upd hx n)
  · have n : x ≠ p := fun z => h1 (by rw [z]; exact a.h0)
    rw [upd_ne n]; exact e.fr x h1 h2
theorem Own.frozen {H0 B H : Hp} {p q : Addr} {o u : HO} (a : Own H0 B H p o) (n : p ≠ q) : Own H0 (upd B q u) H p o := ⟨a.h0, by rw [upd_ne n]; exact a.b, a.h⟩

/-! ### data -/
def nv (n : Nat) : V := .int (n : Int)
def Each {α : Type} (R : V → α → Prop) (vs : List V) (xs : List α) : Prop := vs.length = xs.length ∧ ∀ (i : Nat) (v : V) (x : α), vs[i]? = some v → xs[i]? = some x → R v x
theorem Each.mono {α : Type} {R S : V → α → Prop} {vs : List V} {xs : List α} (h : Each R vs xs) (k : ∀ v x, R v x → S v x) : Each S vs xs := ⟨h.1, fun i v x a b => k _ _ (h.2 i v x a b)⟩
theorem Each.nil {α : Type} {R : V → α → Prop} : Each R [] [] := ⟨rfl, fun i v x a _ => by simp at a⟩
theorem Each.snoc {α : Type} {R : V → α → Prop} {vs : List V} {xs : List α} {v : V} {x : α} (h : Each R vs xs) (r : R v x) : Each R (vs ++ [v]) (xs ++ [x]) := by
  refine ⟨by simp [h.1], fun i u y a b => ?_⟩
  by_cases hi : i < vs.length
  · rw [List.getElem?_append_left hi] at a
    rw [List.getElem?_append_left (by rw [← h.1]; exact hi)] at b
    exact h.2 i u y a b
  · have hb := (List.getElem?_eq_some_iff.mp a).1
    simp at hb
    have e : i = vs.length := by omega
    subst e
    simp at a
    rw [h.1] at b
    simp at b
    subst a b
    exact r
theorem Each.get {α : Type} {R : V → α → Prop} {vs : List V} {xs : List α} (h : Each R vs xs) {i : Nat} {x : α} (e : xs[i]? = some x) : ∃ v, vs[i]? = some v ∧ R v x := by
  have hi : i < vs.length := by rw [h.1]; exact (List.getElem?_eq_some_iff.mp e).1
  exact ⟨vs[i], List.getElem?_eq_getElem hi, h.2 i _ _ (List.getElem?_eq_getElem hi) e⟩
theorem Each.getV {α : Type} {R : V → α → Prop} {vs : List V} {xs : List α} (h : Each R vs xs) {i : Nat} {v : V} (e : vs[i]? = some v) : ∃ x, xs[i]? = some x ∧ R v x := by
  have hi : i < xs.length := by rw [← h.1]; exact (List.getElem?_eq_some_iff.mp e).1
  exact ⟨xs[i], List.getElem?_eq_getElem hi, h.2 i _ _ e (List.getElem?_eq_getElem hi)⟩
section
variable {K : PySem.W.Frag} {B H H' : Hp} {v : V}
theorem sqL_le {a : Addr} {xs : List V} (h : SqL K B a xs) (e : Le B H) : SqL K H a xs := by
  rcases h with h | h
  · exact .inl (e _ _ h)
  · exact .inr h
theorem sqT_le {a : Addr} {xs : List V} (h : SqT K B a xs) (e : Le B H) : SqT K H a xs := by
  rcases h with h | h
  · exact .inl (e _ _ h)
  · exact .inr h
/-- a list of natural numbers; of whole numbers; of any values -/
def LN (K : PySem.W.Frag) (H : Hp) (v : V) (ns : List Nat) : Prop := ∃ p, v = .ref p ∧ SqL K H p (ns.map nv)
def LI (K : PySem.W.Frag) (H : Hp) (v : V) (ns : List Int) : Prop := ∃ p, v = .ref p ∧ SqL K H p (ns.map V.int)
/-- a list of lists of natural numbers -/
def LL (K : PySem.W.Frag) (H : Hp) (v : V) (xss : List (List Nat)) : Prop := ∃ p vs, v = .ref p ∧ SqL K H p vs ∧ Each (LN K H) vs xss
/-- a pair of whole numbers; a list of such -/
def T2 (K : PySem.W.Frag) (H : Hp) (v : V) (ab : Int × Int) : Prop := ∃ p, v = .ref p ∧ SqT K H p [.int ab.1, .int ab.2]
def LT (K : PySem.W.Frag) (H : Hp) (v : V) (xs : List (Int × Int)) : Prop := ∃ p vs, v = .ref p ∧ SqL K H p vs ∧ Each (T2 K H) vs xs
/-- a dict -/
def DD (H : Hp) (v : V) (kvs : List (Key × V)) : Prop := ∃ p, v = .ref p ∧ Rd H p (.dK kvs)
theorem LN.le {ns : List Nat} (h : LN K B v ns) (e : Le B H) : LN K H v ns := let ⟨p, a, b⟩ := h; ⟨p, a, sqL_le b e⟩
theorem LI.le {ns : List Int} (h : LI K B v ns) (e : Le B H) : LI K H v ns := let ⟨p, a, b⟩ := h; ⟨p, a, sqL_le b e⟩
theorem LL.le {ns : List (List Nat)} (h : LL K B v ns) (e : Le B H) : LL K H v ns := let ⟨p, vs, a, b, c⟩ := h; ⟨p, vs, a, sqL_le b e, c.mono fun _ _ x => x.le e⟩
theorem T2.le {ab : Int × Int} (h : T2 K B v ab) (e : Le B H) : T2 K H v ab := let ⟨p, a, b⟩ := h; ⟨p, a, sqT_le b e⟩
theorem LT.le {ns : List (Int × Int)} (h : LT K B v ns) (e : Le B H) : LT K H v ns := let ⟨p, vs, a, b, c⟩ := h; ⟨p, vs, a, sqL_le b e, c.mono fun _ _ x => x.le e⟩
theorem DD.le {kvs : List (Key × V)} (h : DD B v kvs) (e : Le B H) : DD H v kvs := let ⟨p, a, b⟩ := h; ⟨p, a, e _ _ b⟩
theorem LN.of {p : Addr} {ns : List Nat} (h : H p = some (.lst (ns.map nv))) : LN K H (.ref p) ns := ⟨p, rfl, .of h⟩
theorem LI.of {p : Addr} {ns : List Int} (h : H p = some (.lst (ns.map V.int))) : LI K H (.ref p) ns := ⟨p, rfl, .of h⟩
theorem LL.of {p : Addr} {vs : List V} {xss : List (List Nat)} (h : H p = some (.lst vs)) (e : Each (LN K H) vs xss) : LL K H (.ref p) xss := ⟨p, vs, rfl, .of h, e⟩
theorem DD.of {p : Addr} {kvs : List (Key × V)} (h : H p = some (.dK kvs)) : DD H (.ref p) kvs := ⟨p, rfl, .inl h⟩
end

/-! ### values -/
section
variable {K : PySem.W.Frag} {σ : St} {B H : Hp} {ta tb te : TE} {t u : TT} {v x y z : V}
def VH (te : TE) (σ : St) (H : Hp) (P : V → Hp → Prop) : Prop := ∀ Q : VK, (∀ v H', P v H' → Q v H') → te σ H Q
theorem val_vh (h : Val te σ H v) : VH te σ H fun v' H' => v' = v ∧ H' = H := fun Q q => h Q (q v H ⟨rfl, rfl⟩)
theorem VH.mono {P P' : V → Hp → Prop} (h : VH te σ H P) (k : ∀ v H', P v H' → P' v H') : VH te σ H P' := fun Q q => h Q fun v H' p => q v H' (k v H' p)
theorem vas {w : V} (h : Val te σ H v) (e : v = w) : Val te σ H w := e ▸ h
theorem vint {i j : Int} (h : Val te σ H (.int i)) (e : i = j) : Val te σ H (.int j) := e ▸ h
theorem vnat {i : Int} {j : Nat} (h : Val te σ H (.int i)) (e : i = (j : Int)) : Val te σ H (nv j) := by rw [e] at h; exact h
theorem v_var {i : Nat} (h : σ[i]? = some (some v)) : Val (tVar i) σ H v := val_var h
theorem v_c : Val (tC v) σ H v := val_c
theorem v_add {i j : Int} (ha : Val ta σ H (.int i)) (hb : Val tb σ H (.int j)) : Val (tOp rAddI ta tb) σ H (.int (i + j)) := val_op ha hb fun Q q => ⟨i, j, rfl, rfl, q⟩
theorem v_sub {i j : Int} (ha : Val ta σ H (.int i)) (hb : Val tb σ H (.int j)) : Val (tOp rSubI ta tb) σ H (.int (i - j)) := val_op ha hb fun Q q => ⟨i, j, rfl, rfl, q⟩
theorem v_mul {i j : Int} (ha : Val ta σ H (.int i)) (hb : Val tb σ H (.int j)) (c : CMul i j) : Val (tOp rMulI ta tb) σ H (.int (i * j)) := val_op ha hb fun Q q => ⟨i, j, rfl, rfl, c, q⟩
theorem v_mulW {i j : Int} (ha : Val ta σ H (.int i)) (hb : Val tb σ H (.int j)) (c : CMulW i j) : Val (tOp rMulW ta tb) σ H (.int (i * j)) := val_op ha hb fun Q q => ⟨i, j, rfl, rfl, c, q⟩
theorem v_mod {i j : Int} (ha : Val ta σ H (.int i)) (hb : Val tb σ H (.int j)) (c : 0 < j) : Val (tOp rModI ta tb) σ H (.int (i % j)) := val_op ha hb fun Q q => ⟨i, j, rfl, rfl, c, q⟩
theorem v_div {i j : Int} (ha : Val ta σ H (.int i)) (hb : Val tb σ H (.int j)) (c : CDiv i j) : Val (tOp rDivI ta tb) σ H (.int (i / j)) := val_op ha hb fun Q q => ⟨i, j, rfl, rfl, c, q⟩
theorem v_pow {i j : Int} (ha : Val ta σ H (.int i)) (hb : Val tb σ H (.int j)) (c : CPow i j) : Val (tOp rPowI ta tb) σ H (.int (i ^ j.toNat)) := val_op ha hb fun Q q => ⟨i, j, rfl, rfl, c, q⟩
theorem v_neg {i : Int} (ha : Val ta σ H (.int i)) : Val (tUn rNegI ta) σ H (.int (-i)) := fun Q q => ha _ ⟨i, rfl, q⟩
theorem v_ixL {p : Addr} {xs : List V} {j : Nat} (ha : Val ta σ H (.ref p)) (hb : Val tb σ H (nv j)) (hs : SqL K H p xs) (hj : xs[j]? = some v) : Val (tOp (rIxL K) ta tb) σ H v :=
  val_op ha hb fun Q q => ⟨p, xs, j, v, rfl, rfl, hs, atI_nat hj, q⟩
theorem v_ixN {a : V} {ns : List Nat} {j n : Nat} (ha : Val ta σ H a) (hs : LN K H a ns) (hb : Val tb σ H (nv j)) (hj : ns[j]? = some n) : Val (tOp (rIxL K) ta tb) σ H (nv n) := by
  obtain ⟨p, rfl, hp⟩ := hs
  exact v_ixL ha hb hp (by rw [List.getElem?_map, hj]; rfl)
theorem v_ixI {a : V} {ns : List Int} {j : Nat} {n : Int} (ha : Val ta σ H a) (hs : LI K H a ns) (hb : Val tb σ H (nv j)) (hj : ns[j]? = some n) : Val (tOp (rIxL K) ta tb) σ H (.int n) := by
  obtain ⟨p, rfl, hp⟩ := hs
  exact v_ixL ha hb hp (by rw [List.getElem?_map, hj]; rfl)
/-- an item that is a list -/
theorem v_ixLL {a : V} {xss : List (List Nat)} {j : Nat} {xs : List Nat} (ha : Val ta σ H a) (hs : LL K H a xss) (hb : Val tb σ H (nv j)) (hj : xss[j]? = some xs) : ∃ w, Val (tOp (rIxL K) ta tb) σ H w ∧ LN K H w xs := by
  obtain ⟨p, vs, rfl, hp, he⟩ := hs
  obtain ⟨w, hw, hl⟩ := he.get hj
  exact ⟨w, v_ixL ha hb hp hw, hl⟩
theorem v_lastL {p : Addr} {xs : List V} (ha : Val ta σ H (.ref p)) (hs : SqL K H p (xs ++ [v])) : Val (tOp (rIxL K) ta (tUn rNegI (tC (.int 1)))) σ H v :=
  val_op ha (v_neg v_c) fun Q q => ⟨p, xs ++ [v], -1, v, rfl, rfl, hs, atI_last xs v, q⟩
theorem v_ixT {p : Addr} {xs : List V} {j : Nat} (ha : Val ta σ H (.ref p)) (hb : Val tb σ H (nv j)) (hs : SqT K H p xs) (hj : xs[j]? = some v) : Val (tOp (rIxT K) ta tb) σ H v :=
  val_op ha hb fun Q q => ⟨p, xs, j, v, rfl, rfl, hs, atI_nat hj, q⟩
theorem v_len {p : Addr} {xs : List V} (ha : Val ta σ H (.ref p)) (hs : SqL K H p xs) : Val (tCB (rLenS K) (tCons ta tNil)) σ H (nv xs.length) := fun Q q => ha _ ⟨p, xs, rfl, .inl hs, q⟩
theorem v_lenN {a : V} {ns : List Nat} (ha : Val ta σ H a) (hs : LN K H a ns) : Val (tCB (rLenS K) (tCons ta tNil)) σ H (nv ns.length) := by
  obtain ⟨p, rfl, hp⟩ := hs
  exact vas (v_len ha hp) (by simp)
theorem v_lenI {a : V} {ns : List Int} (ha : Val ta σ H a) (hs : LI K H a ns) : Val (tCB (rLenS K) (tCons ta tNil)) σ H (nv ns.length) := by
  obtain ⟨p, rfl, hp⟩ := hs
  exact vas (v_len ha hp) (by simp)
theorem v_lenL {a : V} {xss : List (List Nat)} (ha : Val ta σ H a) (hs : LL K H a xss) : Val (tCB (rLenS K) (tCons ta tNil)) σ H (nv xss.length) := by
  obtain ⟨p, vs, rfl, hp, he⟩ := hs
  exact vas (v_len ha hp) (by rw [he.1])
theorem v_abs {i : Int} (ha : Val ta σ H (.int i)) : Val (tCB rAbsI (tCons ta tNil)) σ H (.int (if i < 0 then -i else i)) := fun Q q => ha _ ⟨i, rfl, q⟩
theorem v_max {i j : Int} (ha : Val ta σ H (.int i)) (hb : Val tb σ H (.int j)) : Val (tCB rMaxI (tCons ta (tCons tb tNil))) σ H (.int (if j > i then j else i)) := fun Q q => ha _ (hb _ ⟨i, j, rfl, q⟩)
/-- a dict's item -/
theorem v_dget {a : V} {kvs : List (Key × V)} {k : Key} (ha : Val ta σ H a) (hs : DD H a kvs) (hb : Val tb σ H (kV k)) (hv : valV kvs k = some v) : Val (tDGet ta tb) σ H v := fun Q q => by
  obtain ⟨p, rfl, hp⟩ := hs
  exact ha _ (hb _ ⟨p, v, rfl, .inl ⟨kvs, k, hp, rfl, hv.symm⟩, q⟩)
theorem v_din {a : V} {kvs : List (Key × V)} {k : Key} (hb : Val tb σ H (kV k)) (ha : Val ta σ H a) (hs : DD H a kvs) : Val (tDIn tb ta) σ H (.bl (valV kvs k).isSome) := fun Q q => by
  obtain ⟨p, rfl, hp⟩ := hs
  exact hb _ (ha _ ⟨p, valV kvs k, rfl, .inl ⟨kvs, k, hp, rfl, rfl⟩, q⟩)
theorem v_dnin {a : V} {kvs : List (Key × V)} {k : Key} (hb : Val tb σ H (kV k)) (ha : Val ta σ H a) (hs : DD H a kvs) : Val (tDNotIn tb ta) σ H (.bl (!(valV kvs k).isSome)) := fun Q q => by
  obtain ⟨p, rfl, hp⟩ := hs
  exact hb _ (ha _ ⟨p, valV kvs k, rfl, .inl ⟨kvs, k, hp, rfl, rfl⟩, q⟩)
theorem v_lt {i j : Int} (ha : Val ta σ H (.int i)) (hb : Val tb σ H (.int j)) : Val (tOp rLtI ta tb) σ H (.bl (decide (i < j))) := val_op ha hb fun Q q => ⟨i, j, rfl, rfl, q⟩
theorem v_gt {i j : Int} (ha : Val ta σ H (.int i)) (hb : Val tb σ H (.int j)) : Val (tOp rGtI ta tb) σ H (.bl (decide (j < i))) := val_op ha hb fun Q q => ⟨i, j, rfl, rfl, q⟩
theorem v_ge {i j : Int} (ha : Val ta σ H (.int i)) (hb : Val tb σ H (.int j)) : Val (tOp rGeI ta tb) σ H (.bl (decide (j ≤ i))) := val_op ha hb fun Q q => ⟨i, j, rfl, rfl, q⟩
theorem v_eq (ha : Val ta σ H x) (hb : Val tb σ H y) (hs : scal x y = true) : Val (tOp rEq ta tb) σ H (.bl (decide (x = y))) := val_op ha hb fun Q q => ⟨hs, q⟩
theorem v_ne (ha : Val ta σ H x) (hb : Val tb σ H y) (hs : scal x y = true) : Val (tOp rNe ta tb) σ H (.bl (!decide (x = y))) := val_op ha hb fun Q q => ⟨hs, q⟩
theorem v_eqI {i j : Int} (ha : Val ta σ H (.int i)) (hb : Val tb σ H (.int j)) : Val (tOp rEq ta tb) σ H (.bl (decide (i = j))) := vas (v_eq ha hb rfl) (by congr 1; simp)
theorem v_neI {i j : Int} (ha : Val ta σ H (.int i)) (hb : Val tb σ H (.int j)) : Val (tOp rNe ta tb) σ H (.bl (!decide (i = j))) := vas (v_ne ha hb rfl) (by congr 2; simp)
theorem v_isN (ha : Val ta σ H x) : Val (tIsN ta) σ H (.bl (decide (x = .non))) := fun Q q => ha _ q
theorem v_andV {a b : Bool} (ha : Val ta σ H (.bl a)) (hb : a = true → Val tb σ H (.bl b)) : Val (tAndV ta tb) σ H (.bl (a && b)) := fun Q q => ha _ ⟨a, rfl, by
  cases a with
  | true => exact iteT (hb rfl _ q)
  | false => exact iteF q⟩
theorem v_orV {a b : Bool} (ha : Val ta σ H (.bl a)) (hb : a = false → Val tb σ H (.bl b)) : Val (tOrV ta tb) σ H (.bl (a || b)) := fun Q q => ha _ ⟨a, rfl, by
  cases a with
  | true => exact iteT q
  | false => exact iteF (hb rfl _ q)⟩
theorem inV_nat (n : Nat) : ∀ ns : List Nat, inV (nv n) (ns.map nv) = decide (n ∈ ns)
  | [] => rfl
  | m :: r => by
    have ih := inV_nat n r
    unfold inV at ih ⊢
    rw [List.map_cons, List.any_cons, ih]
    have e : eqV (nv m) (nv n) = decide (n = m) := by
      show ((m : Int) == (n : Int)) = decide (n = m)
      by_cases h : n = m
      · subst h; simp
      · simp [h]; omega
    rw [e]
    simp [List.mem_cons]
theorem flat_nat : ∀ ns : List Nat, (ns.map nv).all flatV = true
  | [] => rfl
  | _ :: r => by rw [List.map_cons, List.all_cons, flat_nat r]; rfl
theorem v_inN {a : V} {ns : List Nat} {n : Nat} (ha : Val ta σ H (nv n)) (hb : Val tb σ H a) (hs : LN K H a ns) : Val (tOp (rIn K false) ta tb) σ H (.bl (decide (n ∈ ns))) := by
  obtain ⟨p, rfl, hp⟩ := hs
  refine val_op ha hb fun Q q => ⟨p, ns.map nv, rfl, .inl hp, rfl, flat_nat ns, ?_⟩
  rw [inV_nat]; exact q
theorem v_ninN {a : V} {ns : List Nat} {n : Nat} (ha : Val ta σ H (nv n)) (hb : Val tb σ H a) (hs : LN K H a ns) : Val (tOp (rIn K true) ta tb) σ H (.bl (!decide (n ∈ ns))) := by
  obtain ⟨p, rfl, hp⟩ := hs
  refine val_op ha hb fun Q q => ⟨p, ns.map nv, rfl, .inl hp, rfl, flat_nat ns, ?_⟩
  rw [inV_nat]; exact q

/-! ### tests -/
theorem a_t {b : Bool} (h : Val te σ H (.bl b)) : Ans (tTest te) σ H b := fun Q q => h _ ⟨b, rfl, q⟩
theorem a_b {b : Bool} (h : Val te σ H (.bl b)) : Ans (tB te) σ H b := fun Q q => h _ ⟨b, rfl, q⟩
theorem a_not {b : Bool} (h : Ans t σ H b) : Ans (tNot t) σ H (!b) := ans_not h
theorem a_and {a b : Bool} (h1 : Ans t σ H a) (h2 : a = true → Ans u σ H b) : Ans (tAnd t u) σ H (a && b) := fun Q q => h1 _ (by
  cases a with
  | true => exact iteT (h2 rfl _ q)
  | false => exact iteF q)
theorem a_or {a b : Bool} (h1 : Ans t σ H a) (h2 : a = false → Ans u σ H b) : Ans (tOr t u) σ H (a || b) := fun Q q => h1 _ (by
  cases a with
  | true => exact iteT q
  | false => exact iteF (h2 rfl _ q))

/-! ### arguments, calls -/
def Arg (ta : TA) (σ : St) (H : Hp) (vs : List V) : Prop := ∀ Q : List V → Hp → Prop, Q vs H → ta σ H Q
theorem g_nil : Arg tNil σ H [] := fun _ q => q
theorem g_cons {tr : TA} {vs : List V} (h : Val te σ H v) (hr : Arg tr σ H vs) : Arg (tCons te tr) σ H (v :: vs) := fun Q q => h _ (hr _ q)
/-- a call, by its promise at the values -/
theorem c_call {sp : Sp} {ta : TA} {vs : List V} {P : V → Hp → Prop} (ha : Arg ta σ H vs) (h : ∀ Q : VK, (∀ v H', P v H' → Q v H') → sp vs H Q E0) : VH (tCall sp [] E0 ta) σ H P := fun Q q => ha _ (by
  show sp (vs ++ []) H Q E0
  rw [List.append_nil]
  exact h Q q)
theorem c_val {sp : Sp} {ta : TA} {vs : List V} (ha : Arg ta σ H vs) (h : ∀ Q : VK, Q v H → sp vs H Q E0) : Val (tCall sp [] E0 ta) σ H v := fun Q q => ha _ (by
  show sp (vs ++ []) H Q E0
  rw [List.append_nil]
  exact h Q q)

/-! ### new things -/
theorem n_lst {ta : TA} {vs : List V} (h : Arg ta σ H vs) (hz : vs.length ≤ 100000) : VH (tLst ta) σ H fun w H' => ∃ p, H p = none ∧ w = .ref p ∧ H' = upd H p (.lst vs) := fun Q q =>
  h _ ⟨Nat.le_trans hz (by decide), fun p hp => q _ _ ⟨p, hp, rfl, rfl⟩⟩
theorem n_tup {ta : TA} {vs : List V} (h : Arg ta σ H vs) (hz : vs.length ≤ 100000) : VH (tTup ta) σ H fun w H' => ∃ p, H p = none ∧ w = .ref p ∧ H' = upd H p (.tup vs) := fun Q q =>
  h _ ⟨Nat.le_trans hz (by decide), fun p hp => q _ _ ⟨p, hp, rfl, rfl⟩⟩
theorem n_dict : VH tDNewK σ H fun w H' => ∃ p, H p = none ∧ w = .ref p ∧ H' = upd H p (.dK []) := fun Q q p hp => q _ _ ⟨p, hp, rfl, rfl⟩
/-- {k: v} -/
theorem n_disp1 {tk tv : TE} {k : Key} (hk : ∀ H', Ex H H' → Val tk σ H' (kV k)) (hv : ∀ H', Ex H H' → Val tv σ H' v) : VH (tDisp [(tk, tv)]) σ H fun w H' => ∃ p, H p = none ∧ w = .ref p ∧ H' = upd H p (.dK [(k, v)]) := fun Q q p hp => by
  refine hk _ (.new hp) _ (hv _ (.new hp) _ ⟨upd_same, [(k, v)], rfl, by simp, ?_⟩)
  rw [upd_upd]
  exact q _ _ ⟨p, hp, rfl, rfl⟩
theorem rep_flat {α : Type} (a : α) : ∀ n : Nat, (List.replicate n [a]).flatten = List.replicate n a
  | 0 => rfl
  | n + 1 => by rw [List.replicate_succ, List.flatten_cons, rep_flat a n]; rfl
/-- [c] * n -/
theorem n_rep {tn : TE} {n : Nat} (hv : Val te σ H v) (hn : ∀ H', Ex H H' → Val tn σ H' (nv n)) (hz : n ≤ 100000) : VH (tOp rRep (tLst (tCons te tNil)) tn) σ H fun w H' => ∃ p l, H p = none ∧ H l = none ∧ p ≠ l ∧ w = .ref p ∧ H' = upd (upd H l (.lst [v])) p (.lst (List.replicate n v)) := fun Q q => by
  refine (n_lst (g_cons hv g_nil) (by simp)) _ fun w H' ⟨l, hl, ew, eH⟩ => ?_
  subst ew eH
  have h63 := line63
  have hs : 100000 ≤ sizeLine := by decide
  refine hn _ (.new hl) _ ⟨l, n, [v], rfl, rfl, upd_same, by omega, by omega, by simp; omega, fun p hp => ?_⟩
  have npl : p ≠ l := fun e => by rw [e, upd_same] at hp; cases hp
  have hp' : H p = none := by rw [upd_ne npl] at hp; exact hp
  refine q _ _ ⟨p, l, hp', hl, npl, rfl, ?_⟩
  have er : (List.replicate (n : Int).toNat [v]).flatten = List.replicate n v := by rw [Int.toNat_natCast]; exact rep_flat v n
  rw [er]
end
end Rf
end
section
set_option linter.all false
set_option autoImplicit false
set_option maxRecDepth 100000
set_option maxHeartbeats 1000000
/-! Fs: statements, loops, comprehensions of the small layer. -/
namespace Rf
open PySem L2
section
variable {K : PySem.W.Frag} {σ : St} {B H : Hp} {ta tb te tl : TE} {c u : TT} {v x y z : V} {D : Ends} {t t1 t2 tb' : TS} {g : TG}

/-! ### statements -/
theorem s_set {i : Nat} {P : V → Hp → Prop} (h : VH te σ H P) (k : ∀ v H', P v H' → D.nx (σ.set i (some v)) H') : tAsg te (gName i) D σ H := h _ k
theorem s_setV {i : Nat} (h : Val te σ H v) (k : D.nx (σ.set i (some v)) H) : tAsg te (gName i) D σ H := h _ k
theorem q_set {i : Nat} {P : V → Hp → Prop} (h : VH te σ H P) (k : ∀ v H', P v H' → t2 D (σ.set i (some v)) H') : tSeq (tAsg te (gName i)) t2 D σ H := h _ k
theorem q_setV {i : Nat} (h : Val te σ H v) (k : t2 D (σ.set i (some v)) H) : tSeq (tAsg te (gName i)) t2 D σ H := h _ k
theorem s_if {b : Bool} (h : Ans c σ H b) (h1 : b = true → t1 D σ H) (h2 : b = false → t2 D σ H) : tIfS c t1 t2 D σ H := h _ (by
  cases b with
  | true => exact iteT (h1 rfl)
  | false => exact iteF (h2 rfl))
theorem q_if {b : Bool} (h : Ans c σ H b) (h1 : b = true → t1 { D with nx := t D } σ H) (h2 : b = false → t2 { D with nx := t D } σ H) : tSeq (tIfS c t1 t2) t D σ H := s_if (D := { D with nx := t D }) h h1 h2
theorem q_ifT (h : Ans c σ H true) (k : t1 { D with nx := t D } σ H) : tSeq (tIfS c t1 t2) t D σ H := q_if h (fun _ => k) (fun e => nomatch e)
theorem q_ifF (h : Ans c σ H false) (k : t2 { D with nx := t D } σ H) : tSeq (tIfS c t1 t2) t D σ H := q_if h (fun e => nomatch e) (fun _ => k)
/-- the test is a value reached by a change of the heap -/
theorem q_ifH {P : Bool → Hp → Prop} (h : ∀ Q : Bool → Hp → Prop, (∀ b H', P b H' → Q b H') → c σ H Q) (k : ∀ b H', P b H' → if b = true then t1 { D with nx := t D } σ H' else t2 { D with nx := t D } σ H') : tSeq (tIfS c t1 t2) t D σ H := h _ k
theorem s_ret {P : V → Hp → Prop} (h : VH te σ H P) (k : ∀ v H', P v H' → D.rt v H') : tRet te D σ H := h _ k
theorem s_retV (h : Val te σ H v) (k : D.rt v H) : tRet te D σ H := h _ k
theorem q_drop {P : V → Hp → Prop} (h : VH te σ H P) (k : ∀ v H', P v H' → t2 D σ H') : tSeq (tDrop te) t2 D σ H := h _ k
theorem q_seq (h : t1 { D with nx := t2 D } σ H) : tSeq t1 t2 D σ H := h
theorem tyL {p : Addr} {xs : List V} (h : SqL K H p xs) : tyV K "list" (.ref p) H := .inl ⟨rfl, xs, h⟩
/-- l.append(e) -/
theorem s_app {l : Addr} {xs : List V} (hl : Val ta σ H (.ref l)) (h : Val te σ H v) (ho : H l = some (.lst xs)) (hz : xs.length < 100000) (k : D.nx σ (upd H l (.lst (xs ++ [v])))) :
    tDrop (tBM K "list" rAppend ta (tCons te tNil)) D σ H := hl _ ⟨tyL (.of ho), h _ ⟨l, xs, v, rfl, rfl, ho, Nat.lt_of_lt_of_le hz (by decide), k⟩⟩
theorem s_appH {l : Addr} {P : V → Hp → Prop} {ys : List V} (hl : Val ta σ H (.ref l)) (ht : SqL K H l ys) (h : VH te σ H P) (k : ∀ v H', P v H' → ∃ xs, H' l = some (.lst xs) ∧ xs.length < 100000 ∧ D.nx σ (upd H' l (.lst (xs ++ [v])))) :
    tDrop (tBM K "list" rAppend ta (tCons te tNil)) D σ H := hl _ ⟨tyL ht, h _ fun v H' p => by
  obtain ⟨xs, ho, hz, q⟩ := k v H' p
  exact ⟨l, xs, v, rfl, rfl, ho, Nat.lt_of_lt_of_le hz (by decide), q⟩⟩
/-- l.pop(), its value used by what follows -/
theorem n_pop {l : Addr} {xs : List V} (hl : Val ta σ H (.ref l)) (ho : H l = some (.lst (xs ++ [v]))) : VH (tBM0 K "list" rPop ta) σ H fun w H' => w = v ∧ H' = upd H l (.lst xs) := fun Q q =>
  hl _ ⟨tyL (.of ho), l, xs ++ [v], v, rfl, rfl, ho, by simp, by
    rw [List.dropLast_concat]
    exact q v _ ⟨rfl, rfl⟩⟩
/-- l.pop(j) -/
theorem n_popAt {l : Addr} {xs : List V} {j : Nat} (hl : Val ta σ H (.ref l)) (hj : Val te σ H (nv j)) (ho : H l = some (.lst xs)) (hz : xs.length ≤ 100000) (hx : xs[j]? = some v) : VH (tBM K "list" rPopAt ta (tCons te tNil)) σ H fun w H' => w = v ∧ H' = upd H l (.lst (xs.eraseIdx j)) := fun Q q =>
  hl _ ⟨tyL (.of ho), hj _ ⟨l, xs, j, j, v, rfl, rfl, ho, by omega, by
    have := (List.getElem?_eq_some_iff.mp hx).1
    omega, by
    have hlt := (List.getElem?_eq_some_iff.mp hx).1
    have e : ixN xs.length (j : Int) = some j := by
      unfold ixN
      rw [if_pos (by omega), if_pos (by omega)]
      rfl
    exact (ixN_seq e).1, hx, q v _ ⟨rfl, rfl⟩⟩⟩
/-- l.insert(j, e) -/
theorem s_insert {l : Addr} {xs : List V} {j : Nat} (hl : Val ta σ H (.ref l)) (hj : Val tb σ H (nv j)) (h : Val te σ H v) (ho : H l = some (.lst xs)) (hz : xs.length < 100000) (hx : j ≤ 100000) (k : D.nx σ (upd H l (.lst (xs.take j ++ [v] ++ xs.drop j)))) :
    tDrop (tBM K "list" rInsert ta (tCons tb (tCons te tNil))) D σ H := hl _ ⟨tyL (.of ho), hj _ (h _ ⟨l, xs, j, v, rfl, rfl, ho, Nat.lt_of_lt_of_le hz (by decide), by omega, by omega, by rw [Int.toNat_natCast]; exact k⟩)⟩
/-- l[j] = e -/
theorem s_setL {l : Addr} {xs : List V} {j : Nat} (h : Val te σ H v) (hl : Val ta σ H (.ref l)) (hj : Val tb σ H (nv j)) (ho : H l = some (.lst xs)) (hx : j < xs.length) (k : D.nx σ (upd H l (.lst (xs.set j v)))) : tAsg te (gSub ta tb rSetL) D σ H :=
  h _ (hl _ (hj _ ⟨l, xs, j, j, rfl, rfl, ho, by
    unfold ixN
    rw [if_pos (by omega), if_pos (by omega)]
    rfl, k⟩))
theorem s_setLH {l : Addr} {P : V → Hp → Prop} (h : VH te σ H P) (k : ∀ v H', P v H' → ∃ xs j, Val ta σ H' (.ref l) ∧ Val tb σ H' (nv j) ∧ H' l = some (.lst xs) ∧ j < xs.length ∧ D.nx σ (upd H' l (.lst (xs.set j v)))) : tAsg te (gSub ta tb rSetL) D σ H :=
  h _ fun v H' p => by
    obtain ⟨xs, j, hl, hj, ho, hx, q⟩ := k v H' p
    refine hl _ (hj _ ⟨l, xs, j, j, rfl, rfl, ho, ?_, q⟩)
    unfold ixN
    rw [if_pos (by omega), if_pos (by omega)]
    rfl
/-- d[k] = e -/
theorem s_dput {d : Addr} {kvs : List (Key × V)} {k : Key} (h : Val te σ H v) (hd : Val ta σ H (.ref d)) (hk : Val tb σ H (kV k)) (ho : H d = some (.dK kvs)) (hz : kvs.length < 100000) (q : D.nx σ (upd H d (.dK (putK kvs k v)))) : sDPut ta tb te D σ H :=
  h _ (hd _ (hk _ ⟨d, _, rfl, .inl ⟨kvs, k, ho, rfl, Nat.lt_of_lt_of_le hz (by decide), rfl⟩, q⟩))
/-- n op= e -/
theorem s_aug {i : Nat} {f : Int → Int → Int} {a b : Int} (hx : σ[i]? = some (some (.int a))) (h : Val te σ H (.int b)) (k : D.nx (σ.set i (some (.int (f a b)))) H) : tAug i te (ipI f) D σ H := ⟨_, hx, h _ ⟨a, b, rfl, rfl, k⟩⟩
/-- l[j] op= e -/
theorem s_augL {l : Addr} {xs : List V} {j : Nat} {f : Int → Int → Int} {a b : Int} (hl : Val ta σ H (.ref l)) (hj : Val tb σ H (nv j)) (ho : H l = some (.lst xs)) (hx : xs[j]? = some (.int a)) (h : Val te σ H (.int b)) (k : D.nx σ (upd H l (.lst (xs.set j (.int (f a b)))))) :
    tAugS ta tb te (rIxN K) (ipI f) rSetL D σ H :=
  hl _ (hj _ ⟨l, xs, j, .int a, rfl, rfl, .of ho, hx, h _ ⟨a, b, rfl, rfl, l, xs, j, j, rfl, rfl, ho, by
    have := (List.getElem?_eq_some_iff.mp hx).1
    unfold ixN
    rw [if_pos (by omega), if_pos (by omega)]
    rfl, k⟩⟩)

/-! ### loops -/
theorem f_list {a : Addr} {xs : List V} (h : Val tl σ H (.ref a)) (hx : SqL K H a xs) (Pv : Nat → St → Hp → Prop) (h0 : Pv 0 σ H) (hl : ∀ i σ' H', Pv i σ' H' → SqL K H' a xs)
    (hs : ∀ i x σ' H', xs[i]? = some x → Pv i σ' H' → g x σ' H' fun σ2 H2 => tb' { D with nx := Pv (i + 1), ct := Pv (i + 1), bk := D.nx } σ2 H2) (hd : ∀ σ' H', Pv xs.length σ' H' → D.nx σ' H') : tFor (iList K tl) g tb' D σ H :=
  h _ ⟨a, rfl, ⟨xs, hx⟩, for_list Pv h0 (fun i σ' H' _ p => hl i σ' H' p) hs hd⟩
/-- over a list of natural numbers, the target a name -/
theorem f_LN {a : V} {ns : List Nat} {j : Nat} (h : Val tl σ H a) (hx : LN K B a ns) (Pv : Nat → St → Hp → Prop) (h0 : Pv 0 σ H) (hB : ∀ i σ' H', Pv i σ' H' → Le B H')
    (hs : ∀ i n σ' H', ns[i]? = some n → Pv i σ' H' → tb' { D with nx := Pv (i + 1), ct := Pv (i + 1), bk := D.nx } (σ'.set j (some (nv n))) H') (hd : ∀ σ' H', Pv ns.length σ' H' → D.nx σ' H') : tFor (iList K tl) (gName j) tb' D σ H := by
  obtain ⟨p, rfl, hp⟩ := hx
  refine f_list h (sqL_le hp (hB 0 σ H h0)) Pv h0 (fun i σ' H' q => sqL_le hp (hB i σ' H' q)) (fun i x σ' H' e q => ?_) (fun σ' H' q => hd σ' H' (by simpa using q))
  rw [List.getElem?_map] at e
  obtain ⟨n, hn, rfl⟩ := Option.map_eq_some_iff.mp e
  exact hs i n σ' H' hn q
/-- over a list of lists -/
theorem f_LL {a : V} {xss : List (List Nat)} {j : Nat} (h : Val tl σ H a) (hx : LL K B a xss) (Pv : Nat → St → Hp → Prop) (h0 : Pv 0 σ H) (hB : ∀ i σ' H', Pv i σ' H' → Le B H')
    (hs : ∀ i w xs σ' H', xss[i]? = some xs → LN K B w xs → Pv i σ' H' → tb' { D with nx := Pv (i + 1), ct := Pv (i + 1), bk := D.nx } (σ'.set j (some w)) H') (hd : ∀ σ' H', Pv xss.length σ' H' → D.nx σ' H') : tFor (iList K tl) (gName j) tb' D σ H := by
  obtain ⟨p, vs, rfl, hp, he⟩ := hx
  refine f_list h (sqL_le hp (hB 0 σ H h0)) Pv h0 (fun i σ' H' q => sqL_le hp (hB i σ' H' q)) (fun i w σ' H' e q => ?_) (fun σ' H' q => hd σ' H' (by rw [← he.1]; exact q))
  obtain ⟨xs, h1, h2⟩ := he.getV e
  exact hs i w xs σ' H' h1 h2 q
theorem f_rng {n : Nat} {j : Nat} (h : Val te σ H (nv n)) (hn : n ≤ 100000) (Pv : Nat → St → Hp → Prop) (h0 : Pv 0 σ H)
    (hs : ∀ i σ' H', i < n → Pv i σ' H' → tb' { D with nx := Pv (i + 1), ct := Pv (i + 1), bk := D.nx } (σ'.set j (some (nv i))) H') (hd : ∀ σ' H', Pv n σ' H' → D.nx σ' H') : tFor (iRng1 (tCons te tNil)) (gName j) tb' D σ H :=
  h _ ⟨n, rfl, by omega, by omega, by
    rw [Int.toNat_natCast]
    refine for_range Pv h0 (fun i σ' H' hi q => ?_) hd
    rw [Int.zero_add]
    exact hs i σ' H' hi q⟩
/-- for i, x in enumerate(l) -/
theorem f_enum {a : Addr} {xs : List V} {j k : Nat} (h : Val tl σ H (.ref a)) (hx : SqL K H a xs) (Pv : Nat → St → Hp → Prop) (h0 : Pv 0 σ H) (hl : ∀ i σ' H', Pv i σ' H' → SqL K H' a xs)
    (hs : ∀ i x σ' H' T, xs[i]? = some x → Pv i σ' H' → H' T = none → tb' { D with nx := Pv (i + 1), ct := Pv (i + 1), bk := D.nx } ((σ'.set j (some (nv i))).set k (some x)) (upd H' T (.tup [nv i, x]))) (hd : ∀ σ' H', Pv xs.length σ' H' → D.nx σ' H') :
    tFor (iEnum K (tCons tl tNil)) (gTup K 2 (gCons (gName j) (gCons (gName k) gNil))) tb' D σ H := by
  refine h _ ⟨a, xs, rfl, hx, fun i m σ' H' => m = xs.length - i ∧ i ≤ xs.length ∧ Pv i σ' H', ⟨xs.length, by simp, Nat.zero_le _, h0⟩, ?_⟩
  rintro i m σ' H' ⟨rfl, hi, p⟩
  have q := hl i σ' H' p
  by_cases hlt : i < xs.length
  · refine .inr ⟨⟨xs, xs[i], q, List.getElem?_eq_getElem hlt⟩, Pv (i + 1), fun σ2 H2 p2 => ⟨xs.length - (i + 1), by omega, rfl, hlt, p2⟩, fun w H2 hy => ?_⟩
    obtain ⟨T, x, rfl, nT, rfl, hat⟩ := hy
    exact ⟨T, [nv i, x], rfl, .inl (.inl upd_same), rfl, nv i, [x], rfl, x, [], rfl, rfl, hs i x σ' H' T (hat xs q) p nT⟩
  · have e : i = xs.length := by omega
    subst e
    exact .inl ⟨⟨xs, q, Nat.le_refl _⟩, hd σ' H' p⟩
/-- for x in reversed(l) -/
theorem f_rev {P : V → Hp → Prop} {j : Nat} (h : VH tl σ H P) (k : ∀ w H1, P w H1 → ∃ (a : Addr) (xs : List V) (Pv : Nat → St → Hp → Prop), w = .ref a ∧ SqL K H1 a xs ∧ Pv 0 σ H1 ∧ (∀ i σ' H', Pv i σ' H' → SqL K H' a xs) ∧
      (∀ i x σ' H', i < xs.length → xs[xs.length - 1 - i]? = some x → Pv i σ' H' → tb' { D with nx := Pv (i + 1), ct := Pv (i + 1), bk := D.nx } (σ'.set j (some x)) H') ∧ ∀ σ' H', Pv xs.length σ' H' → D.nx σ' H') : tFor (iRev K (tCons tl tNil)) (gName j) tb' D σ H := by
  refine h _ fun w H1 p1 => ?_
  obtain ⟨a, xs, Pv, rfl, hx, h0, hl, hs, hd⟩ := k w H1 p1
  refine ⟨a, xs, rfl, hx, fun i m σ' H' => m = xs.length - i ∧ i ≤ xs.length ∧ Pv i σ' H', ⟨xs.length, by simp, Nat.zero_le _, h0⟩, ?_⟩
  rintro i m σ' H' ⟨rfl, hi, p⟩
  have q := hl i σ' H' p
  by_cases hlt : i < xs.length
  · have hb : xs.length - 1 - i < xs.length := by omega
    refine .inr ⟨⟨hlt, xs, xs[xs.length - 1 - i], q, List.getElem?_eq_getElem hb⟩, Pv (i + 1), fun σ2 H2 p2 => ⟨xs.length - (i + 1), by omega, rfl, hlt, p2⟩, fun w H2 hy => ?_⟩
    obtain ⟨rfl, hat⟩ := hy
    exact hs i w σ' _ hlt (hat xs q) p
  · have e : i = xs.length := by omega
    subst e
    exact .inl ⟨Nat.le_refl _, hd σ' H' p⟩
/-- while -/
theorem f_while (W : Nat → St → Hp → Prop) {m0 : Nat} (h0 : W m0 σ H)
    (hs : ∀ m σ' H', W m σ' H' → ∃ b, Ans c σ' H' b ∧ (b = true → tb' { D with nx := fun σ2 H2 => ∃ m', m' < m ∧ W m' σ2 H2, ct := fun σ2 H2 => ∃ m', m' < m ∧ W m' σ2 H2, bk := D.nx } σ' H') ∧ (b = false → D.nx σ' H')) : tWhile c tb' D σ H := by
  refine ⟨W, ⟨m0, h0⟩, fun m σ' H' w => ?_⟩
  obtain ⟨b, ha, h1, h2⟩ := hs m σ' H' w
  refine ha _ ?_
  cases b with
  | true => exact iteT ⟨_, fun _ _ q => q, h1 rfl⟩
  | false => exact iteF (h2 rfl)

/-! ### dicts that are walked: locked meanwhile -/
theorem le_lock {p : Addr} {o : HO} {od : Obj} (h : Le B H) (hp : H p = some o) (nf : ∀ ob w, o ≠ .frz ob w) : Le B (upd H p (.frz od o)) := fun a w ha => by
  have q := h a w ha
  by_cases e : a = p
  · subst e
    rcases q with q | ⟨ob, q⟩
    · rw [hp] at q; cases q; exact .inr ⟨od, upd_same⟩
    · rw [hp] at q; cases q; exact absurd rfl (nf _ _)
  · exact rd_upd q e
theorem ext_unlock {B2 H2 : Hp} {p : Addr} {o : HO} {od : Obj} (l : Le B H) (hp : H p = some o) (nf : ∀ ob w, o ≠ .frz ob w) (e : Ext B (upd H p (.frz od o)) B2 H2) (h2 : H2 p = some (.frz od o)) : Ext B H B2 (upd H2 p o) := by
  have hb : B p = none ∨ B p = some o := by
    cases q : B p with
    | none => exact .inl rfl
    | some w =>
      rcases l p w (.inl q) with r | ⟨ob, r⟩
      · rw [hp] at r; cases r; exact .inr rfl
      · rw [hp] at r; cases r; exact absurd rfl (nf _ _)
  have hb2 : B2 p = none ∨ B2 p = some o := by
    rcases hb with q | q
    · exact .inl (e.fr p (by rw [upd_same]; exact fun z => nomatch z) q)
    · exact .inr (e.bb p _ q)
  refine ⟨e.bb, fun a w ha => ?_, fun a w ha => ?_, fun a h1 h3 => ?_⟩
  · by_cases n : a = p
    · subst n
      rcases ha with ha | ⟨ob, ha⟩
      · rcases hb2 with q | q
        · rw [q] at ha; cases ha
        · rw [q] at ha; cases ha; exact .inl upd_same
      · rcases hb2 with q | q
        · rw [q] at ha; cases ha
        · rw [q] at ha; cases ha; exact absurd rfl (nf _ _)
    · exact rd_upd (e.le a w ha) n
  · by_cases n : a = p
    · subst n; rw [hp] at ha; cases ha; exact upd_same
    · rw [upd_ne n]; exact e.hh a w (by rw [upd_ne n]; exact ha)
  · exact e.fr a (by
      by_cases n : a = p
      · subst n; rw [upd_same]; exact fun z => nomatch z
      · rw [upd_ne n]; exact h1) h3
/-- what a turn is to reach within a locked walk -/
def lkN (p : Addr) (o : HO) (od : Obj) (P : St → Hp → Prop) : St → Hp → Prop := fun σ H => H p = some (.frz od o) ∧ P σ (upd H p o)
def lkR (p : Addr) (o : HO) (od : Obj) (P : VK) : VK := fun v H => H p = some (.frz od o) ∧ P v (upd H p o)
theorem upd_lock {p : Addr} {o w : HO} (h : H p = some w) : upd (upd H p o) p w = H := by
  funext a
  by_cases n : a = p
  · subst n; rw [upd_same, h]
  · rw [upd_ne n, upd_ne n]
theorem upd_back {p : Addr} {w : HO} (h : H p = some w) : upd H p w = H := by
  funext a
  by_cases n : a = p
  · subst n; rw [upd_same, h]
  · rw [upd_ne n]
theorem f_vals {p : Addr} {kvs : List (Key × V)} {j : Nat} (hp : H p = some (.dK kvs)) (hv : ∀ H', Val te σ H' (.ref p)) (Pv : Nat → St → Hp → Prop) (h0 : Pv 0 σ H) (hk : ∀ i σ' H', Pv i σ' H' → H' p = some (.dK kvs))
    (hs : ∀ i k x σ' H' od, kvs[i]? = some (k, x) → Pv i σ' H' → tb' ⟨lkN p (.dK kvs) od (Pv (i + 1)), lkR p (.dK kvs) od D.rt, lkN p (.dK kvs) od D.nx, lkN p (.dK kvs) od (Pv (i + 1))⟩ (σ'.set j (some x)) (upd H' p (.frz od (.dK kvs)))) (hd : ∀ σ' H', Pv kvs.length σ' H' → D.nx σ' H') :
    tLock (tFor (iVals te) (gName j) tb') D σ H := by
  refine ⟨p, .dK kvs, hp, trivial, fun od => hv _ _ ⟨p, od, kvs, rfl, upd_same, ?_⟩⟩
  refine ⟨fun i m σ' H' => m = kvs.length - i ∧ i ≤ kvs.length ∧ lkN p (.dK kvs) od (Pv i) σ' H', ⟨kvs.length, by simp, Nat.zero_le _, upd_same, by rw [upd_lock hp]; exact h0⟩, ?_⟩
  rintro i m σ' H' ⟨rfl, hi, hf, q⟩
  by_cases hlt : i < kvs.length
  · refine .inr ⟨⟨hf, hlt⟩, lkN p (.dK kvs) od (Pv (i + 1)), fun σ2 H2 p2 => ⟨kvs.length - (i + 1), by omega, rfl, hlt, p2⟩, fun x H2 hy => ?_⟩
    obtain ⟨rfl, k, hat⟩ := hy
    have r := hs i k x σ' _ od hat q
    rw [upd_lock hf] at r
    exact r
  · have e : i = kvs.length := by omega
    subst e
    exact .inl ⟨⟨hf, Nat.le_refl _⟩, hf, hd σ' _ q⟩
theorem f_keys {p : Addr} {kvs : List (Key × V)} {j : Nat} (hp : H p = some (.dK kvs)) (hv : ∀ H', Val te σ H' (.ref p)) (Pv : Nat → St → Hp → Prop) (h0 : Pv 0 σ H) (hk : ∀ i σ' H', Pv i σ' H' → H' p = some (.dK kvs))
    (hs : ∀ i k x σ' H' od, kvs[i]? = some (k, x) → Pv i σ' H' → tb' ⟨lkN p (.dK kvs) od (Pv (i + 1)), lkR p (.dK kvs) od D.rt, lkN p (.dK kvs) od D.nx, lkN p (.dK kvs) od (Pv (i + 1))⟩ (σ'.set j (some (kV k))) (upd H' p (.frz od (.dK kvs)))) (hd : ∀ σ' H', Pv kvs.length σ' H' → D.nx σ' H') :
    tLock (tFor (iKeys te) (gName j) tb') D σ H := by
  refine ⟨p, .dK kvs, hp, trivial, fun od => hv _ _ ⟨p, od, rfl, .inl ⟨kvs, upd_same, ?_⟩⟩⟩
  refine ⟨fun i m σ' H' => m = kvs.length - i ∧ i ≤ kvs.length ∧ lkN p (.dK kvs) od (Pv i) σ' H', ⟨kvs.length, by simp, Nat.zero_le _, upd_same, by rw [upd_lock hp]; exact h0⟩, ?_⟩
  rintro i m σ' H' ⟨rfl, hi, hf, q⟩
  by_cases hlt : i < kvs.length
  · refine .inr ⟨⟨hf, hlt⟩, lkN p (.dK kvs) od (Pv (i + 1)), fun σ2 H2 p2 => ⟨kvs.length - (i + 1), by omega, rfl, hlt, p2⟩, fun x H2 hy => ?_⟩
    obtain ⟨rfl, k, w, hat, rfl⟩ := hy
    have r := hs i k w σ' _ od hat q
    rw [upd_lock hf] at r
    exact r
  · have e : i = kvs.length := by omega
    subst e
    exact .inl ⟨⟨hf, Nat.le_refl _⟩, hf, hd σ' _ q⟩
theorem f_items {p : Addr} {kvs : List (Key × V)} {j l : Nat} (hp : H p = some (.dK kvs)) (hv : ∀ H', Val te σ H' (.ref p)) (Pv : Nat → St → Hp → Prop) (h0 : Pv 0 σ H) (hk : ∀ i σ' H', Pv i σ' H' → H' p = some (.dK kvs))
    (hs : ∀ i k x σ' H' od T, kvs[i]? = some (k, x) → Pv i σ' H' → T ≠ p → H' T = none → tb' ⟨lkN p (.dK kvs) od (Pv (i + 1)), lkR p (.dK kvs) od D.rt, lkN p (.dK kvs) od D.nx, lkN p (.dK kvs) od (Pv (i + 1))⟩ ((σ'.set j (some (kV k))).set l (some x)) (upd (upd H' p (.frz od (.dK kvs))) T (.tup [kV k, x]))) (hd : ∀ σ' H', Pv kvs.length σ' H' → D.nx σ' H') :
    tLock (tFor (iItems te) (gTup K 2 (gCons (gName j) (gCons (gName l) gNil))) tb') D σ H := by
  refine ⟨p, .dK kvs, hp, trivial, fun od => hv _ _ ⟨p, od, kvs, rfl, upd_same, ?_⟩⟩
  refine ⟨fun i m σ' H' => m = kvs.length - i ∧ i ≤ kvs.length ∧ lkN p (.dK kvs) od (Pv i) σ' H', ⟨kvs.length, by simp, Nat.zero_le _, upd_same, by rw [upd_lock hp]; exact h0⟩, ?_⟩
  rintro i m σ' H' ⟨rfl, hi, hf, q⟩
  by_cases hlt : i < kvs.length
  · refine .inr ⟨⟨hf, hlt⟩, lkN p (.dK kvs) od (Pv (i + 1)), fun σ2 H2 p2 => ⟨kvs.length - (i + 1), by omega, rfl, hlt, p2⟩, fun x H2 hy => ?_⟩
    obtain ⟨T, k, w, hat, rfl, nT, rfl⟩ := hy
    have nTp : T ≠ p := fun e => by rw [e, hf] at nT; cases nT
    have r := hs i k w σ' _ od T hat q nTp (by rw [upd_ne nTp]; exact nT)
    rw [upd_lock hf] at r
    exact ⟨T, [kV k, w], rfl, .inl (.inl upd_same), rfl, kV k, [w], rfl, w, [], rfl, rfl, r⟩
  · have e : i = kvs.length := by omega
    subst e
    exact .inl ⟨⟨hf, Nat.le_refl _⟩, hf, hd σ' _ q⟩

/-! ### comprehensions -/
theorem take_snoc {α : Type} {l : List α} {i : Nat} {x : α} (h : l[i]? = some x) : l.take (i + 1) = l.take i ++ [x] := by
  rw [List.take_add_one, h]
  rfl
theorem fm_snoc {xs : List V} {i : Nat} {x : V} {f : V → Bool} {g : V → V} (h : xs[i]? = some x) : ((xs.take (i + 1)).filter f).map g = ((xs.take i).filter f).map g ++ (if f x = true then [g x] else []) := by
  rw [take_snoc h, List.filter_append, List.map_append, List.filter_cons]
  by_cases e : f x = true
  · rw [if_pos e, if_pos e]; rfl
  · rw [if_neg e, if_neg e]; rfl
theorem fm_len {xs : List V} {i : Nat} {f : V → Bool} {g : V → V} : (((xs.take i).filter f).map g).length ≤ xs.length := by
  rw [List.length_map]
  refine Nat.le_trans (List.length_filter_le _ _) ?_
  rw [List.length_take]
  exact Nat.min_le_right _ _
/-- the list so far stands at D, all else as at the start (H) -/
theorem lc_turn {te' : TE} {tt : TT} {σ2 : St} {xs : List V} {i : Nat} {D : Addr} {f : V → Bool} {g : V → V} (hD : H D = none) (hz : xs.length < 100000) (hx : xs[i]? = some x)
    (ht : ∀ H', Ex H H' → Ans tt σ2 H' (f x)) (he : ∀ H', Ex H H' → f x = true → Val te' σ2 H' (g x)) :
    tt σ2 (upd H D (.lst (((xs.take i).filter f).map g))) fun b H3 => if b = true then te' σ2 H3 fun y H4 => ∃ acc, H4 D = some (.lst acc) ∧ acc.length < sizeLine ∧ upd H4 D (.lst (acc ++ [y])) = upd H D (.lst (((xs.take (i + 1)).filter f).map g)) else H3 = upd H D (.lst (((xs.take (i + 1)).filter f).map g)) := by
  refine ht _ (.new hD) _ ?_
  rw [fm_snoc hx]
  cases hf : f x with
  | true =>
    refine iteT (he _ (.new hD) hf _ ⟨_, upd_same, Nat.lt_of_le_of_lt fm_len (Nat.lt_of_lt_of_le hz (by decide)), ?_⟩)
    rw [upd_upd]
    rfl
  | false =>
    refine iteF ?_
    rw [if_neg (by decide), List.append_nil]
theorem n_lc {a : Addr} {xs : List V} {j : Nat} {vs : List Nat} {tt : TT} (f : V → Bool) (g : V → V) (hl : Val tl σ H (.ref a)) (hx : SqL K H a xs) (hz : xs.length < 100000) (hw : ∀ x, wipe ((wipe σ vs).set j (some x)) vs = wipe σ vs)
    (ht : ∀ x H', x ∈ xs → Ex H H' → Ans tt ((wipe σ vs).set j (some x)) H' (f x)) (he : ∀ x H', x ∈ xs → Ex H H' → f x = true → Val te ((wipe σ vs).set j (some x)) H' (g x)) :
    VH (tLc (iList K tl) (gName j) tt te vs) σ H fun w H' => ∃ D, H D = none ∧ w = .ref D ∧ H' = upd H D (.lst ((xs.filter f).map g)) := fun Q q =>
  hl _ ⟨a, rfl, ⟨xs, hx⟩, fun D hD => lc_list (xs := xs) (fun i H' => H' = upd H D (.lst (((xs.take i).filter f).map g))) rfl
    (fun i H' _ e => by rw [e]; exact sqL_le hx (Ex.new hD).le)
    (fun i x H' hi e => ⟨hw x, by
      rw [e]
      have hm : x ∈ xs := List.mem_of_getElem? hi
      exact lc_turn hD hz hi (fun H' e => ht x H' hm e) fun H' e hf => he x H' hm e hf⟩)
    (fun H' e => q _ _ ⟨D, hD, rfl, by rw [e, List.take_length]⟩)⟩
/-- sum([..]) -/
theorem n_sum {P P' : V → Hp → Prop} (h : VH te σ H P) (k : ∀ w H', P w H' → ∃ (a : Addr) (ns : List Int), w = .ref a ∧ SqL K H' a (ns.map V.int) ∧ P' (.int ns.sum) H') : VH (tCB (rSum K) (tCons te tNil)) σ H P' := fun Q q =>
  h _ fun w H' p => by
    obtain ⟨a, ns, rfl, hs, r⟩ := k w H' p
    exact ⟨a, ns, rfl, hs, q _ _ r⟩
theorem a_yes : Ans tYes σ H true := fun _ q => q
/-- the same, by places: of any list's items, the f i kept, g i told -/
theorem ix_snoc {i : Nat} {f : Nat → Bool} {g : Nat → V} : ((List.range (i + 1)).filter f).map g = ((List.range i).filter f).map g ++ (if f i = true then [g i] else []) := by
  rw [List.range_succ, List.filter_append, List.map_append, List.filter_cons]
  by_cases e : f i = true
  · rw [if_pos e, if_pos e]; rfl
  · rw [if_neg e, if_neg e]; rfl
theorem ix_len {i : Nat} {f : Nat → Bool} {g : Nat → V} : (((List.range i).filter f).map g).length ≤ i := by
  rw [List.length_map]
  refine Nat.le_trans (List.length_filter_le _ _) ?_
  rw [List.length_range]
  exact Nat.le_refl _
theorem n_lcI {a : Addr} {xs : List V} {j : Nat} {vs : List Nat} {tt : TT} (f : Nat → Bool) (g : Nat → V) (hl : Val tl σ H (.ref a)) (hx : SqL K H a xs) (hz : xs.length < 100000) (hw : ∀ x, wipe ((wipe σ vs).set j (some x)) vs = wipe σ vs)
    (ht : ∀ i x H', xs[i]? = some x → Ex H H' → Ans tt ((wipe σ vs).set j (some x)) H' (f i)) (he : ∀ i x H', xs[i]? = some x → Ex H H' → f i = true → Val te ((wipe σ vs).set j (some x)) H' (g i)) :
    VH (tLc (iList K tl) (gName j) tt te vs) σ H fun w H' => ∃ D, H D = none ∧ w = .ref D ∧ H' = upd H D (.lst (((List.range xs.length).filter f).map g)) := fun Q q =>
  hl _ ⟨a, rfl, ⟨xs, hx⟩, fun D hD => lc_list (xs := xs) (fun i H' => H' = upd H D (.lst (((List.range i).filter f).map g))) rfl
    (fun i H' _ e => by rw [e]; exact sqL_le hx (Ex.new hD).le)
    (fun i x H' hi e => ⟨hw x, by
      rw [e]
      refine ht i x _ hi (.new hD) _ ?_
      have hlt := (List.getElem?_eq_some_iff.mp hi).1
      have hl : (((List.range i).filter f).map g).length < sizeLine := Nat.lt_of_le_of_lt ix_len (Nat.lt_of_lt_of_le (Nat.lt_trans hlt hz) (by decide))
      rw [ix_snoc]
      cases hf : f i with
      | true =>
        refine iteT (he i x _ hi (.new hD) hf _ ⟨_, upd_same, hl, ?_⟩)
        rw [upd_upd]
        rfl
      | false =>
        refine iteF ?_
        rw [if_neg (by decide), List.append_nil]⟩)
    (fun H' e => q _ _ ⟨D, hD, rfl, e⟩)⟩
/-- items by their places are the items -/
theorem ix_items {α : Type} (l : List α) (d : α) (f : α → Bool) (g : α → V) : ((List.range l.length).filter fun i => f (l.getD i d)).map (fun i => g (l.getD i d)) = (l.filter f).map g := by
  have e : l = (List.range l.length).map fun i => l.getD i d := by
    refine List.ext_getElem? fun i => ?_
    by_cases h : i < l.length
    · rw [List.getElem?_map, List.getElem?_range h, List.getElem?_eq_getElem h]
      simp [h]
    · rw [List.getElem?_eq_none (by omega), List.getElem?_eq_none (by simpa using h)]
  conv => rhs; rw [e, List.filter_map, List.map_map]
  rfl
theorem n_lcR {n : Nat} {j : Nat} {vs : List Nat} {tt : TT} (f : V → Bool) (g : V → V) (hl : Val ta σ H (nv n)) (hz : n < 100000) (hw : ∀ x, wipe ((wipe σ vs).set j (some x)) vs = wipe σ vs)
    (ht : ∀ i H', i < n → Ex H H' → Ans tt ((wipe σ vs).set j (some (nv i))) H' (f (nv i))) (he : ∀ i H', i < n → Ex H H' → f (nv i) = true → Val te ((wipe σ vs).set j (some (nv i))) H' (g (nv i))) :
    VH (tLc (iRng1 (tCons ta tNil)) (gName j) tt te vs) σ H fun w H' => ∃ D, H D = none ∧ w = .ref D ∧ H' = upd H D (.lst ((((List.range n).map nv).filter f).map g)) := fun Q q =>
  hl _ ⟨n, rfl, by omega, by omega, fun D hD => by
    have hlen : ((List.range n).map nv).length = n := by simp
    rw [Int.toNat_natCast]
    refine lc_range (lo := 0) (n := n) (fun i H' => H' = upd H D (.lst (((((List.range n).map nv).take i).filter f).map g))) rfl
      (fun i H' hi e => ⟨hw _, ?_⟩) (fun H' e => q _ _ ⟨D, hD, rfl, by rw [e, List.take_of_length_le (by rw [hlen]; exact Nat.le_refl _)]⟩)
    rw [e, Int.zero_add]
    have hx : ((List.range n).map nv)[i]? = some (nv i) := by rw [List.getElem?_map, List.getElem?_range hi]; rfl
    exact lc_turn hD (by rw [hlen]; exact hz) hx (fun H' e => ht i H' hi e) fun H' e hf => he i H' hi e hf⟩
/-- an element whose value needs new things: the list and all that stood stand in H' -/
theorem n_lcX {a : Addr} {xs : List V} {j : Nat} {vs : List Nat} (g : V → V) (hl : Val tl σ H (.ref a)) (hx : SqL K H a xs) (hz : xs.length < 100000) (hw : ∀ x, wipe ((wipe σ vs).set j (some x)) vs = wipe σ vs)
    (he : ∀ x H', x ∈ xs → Ex H H' → VH te ((wipe σ vs).set j (some x)) H' fun w H2 => w = g x ∧ Ex H' H2) :
    VH (tLc (iList K tl) (gName j) tYes te vs) σ H fun w H' => ∃ D, H D = none ∧ w = .ref D ∧ Ex H H' ∧ H' D = some (.lst (xs.map g)) := fun Q q =>
  hl _ ⟨a, rfl, ⟨xs, hx⟩, fun D hD => lc_list (xs := xs) (fun i H' => Ex H H' ∧ H' D = some (.lst ((xs.take i).map g))) ⟨.new hD, upd_same⟩
    (fun i H' _ e => sqL_le hx e.1.le)
    (fun i x H' hi e => ⟨hw x, by
      have hm : x ∈ xs := List.mem_of_getElem? hi
      unfold tYes
      refine iteT (he x H' hm e.1 _ fun w H2 ⟨ew, e2⟩ => ⟨(xs.take i).map g, e2 _ _ e.2, ?_, (e.1.trans e2).mut hD, ?_⟩)
      · rw [List.length_map, List.length_take]
        exact Nat.lt_of_le_of_lt (Nat.min_le_right _ _) (Nat.lt_of_lt_of_le hz (by decide))
      · rw [upd_same, take_snoc hi, List.map_append, ew]
        rfl⟩)
    (fun H' e => q _ _ ⟨D, hD, rfl, e.1, by rw [e.2, List.take_length]⟩)⟩
end
end Rf
end
section
set_option linter.all false
set_option autoImplicit false
set_option maxRecDepth 100000
set_option maxHeartbeats 1000000
/-! P1: mate_of, count_ends, seats_of, behind_of. -/
namespace Rf
open PySem L2

/-! ### promises -/
/-- what a def hands back, the known part grown -/
def Ret (B H : Hp) (P : V → Hp → Prop) (Q : VK) : Prop := ∀ v B' H', Ext B H B' H' → P v B' → Q v H'
/-- a drawing that the program meets: no place is bare, few places and ties -/
structure Dw (rows : List (List Nat)) (m : Nat) : Prop where
  dr : Dr rows m
  ne : ∀ r ∈ rows, r ≠ []
  sm : m ≤ 500
  sn : rows.length ≤ 500
theorem Dw.len {rows : List (List Nat)} {m : Nat} (D : Dw rows m) : rows.flatten.length = 2 * m := by
  have := D.dr.part.perm.length_eq
  rwa [List.length_range] at this
theorem Dw.row_le {rows : List (List Nat)} {m : Nat} (D : Dw rows m) {r : List Nat} (h : r ∈ rows) : r.length ≤ 1000 := by
  have := nodup_le (D.dr.part.rnd h) (n := 2 * m) fun x hx => D.dr.part.lt h hx
  have := D.sm
  omega
section
variable {K : PySem.W.Frag}
def sp_mate : Sp := fun vs H Q _ => ∃ e : Nat, vs = [nv e] ∧ Q (nv (mate e)) H
def sp_cnt (K : PySem.W.Frag) : Sp := fun vs H Q _ => ∃ B v rows m, vs = [v] ∧ Le B H ∧ LL K B v rows ∧ Dw rows m ∧ Ret B H (fun w _ => w = nv (2 * m)) Q
def sp_seats (K : PySem.W.Frag) : Sp := fun vs H Q _ => ∃ B v rows m, vs = [v] ∧ Le B H ∧ LL K B v rows ∧ Dw rows m ∧ Ret B H (fun w B' => LN K B' w ((List.range (2 * m)).map (seat rows))) Q
def sp_behind (K : PySem.W.Frag) : Sp := fun vs H Q _ => ∃ B v rows m, vs = [v] ∧ Le B H ∧ LL K B v rows ∧ Dw rows m ∧ Ret B H (fun w B' => LN K B' w ((List.range (2 * m)).map (beh rows))) Q
/-- how they are called -/
theorem call_mate {te : TE} {σ : St} {H : Hp} {e : Nat} (h : Val te σ H (nv e)) : Val (tCall sp_mate [] E0 (tCons te tNil)) σ H (nv (mate e)) := c_val (g_cons h g_nil) fun _ q => ⟨e, rfl, q⟩
theorem call_cnt {te : TE} {σ : St} {B H : Hp} {v : V} {rows : List (List Nat)} {m : Nat} (h : Val te σ H v) (l : Le B H) (hv : LL K B v rows) (D : Dw rows m) : VH (tCall (sp_cnt K) [] E0 (tCons te tNil)) σ H fun w H' => ∃ B', Ext B H B' H' ∧ w = nv (2 * m) :=
  c_call (g_cons h g_nil) fun Q q => ⟨B, v, rows, m, rfl, l, hv, D, fun w B' H' e p => q w H' ⟨B', e, p⟩⟩
theorem call_seats {te : TE} {σ : St} {B H : Hp} {v : V} {rows : List (List Nat)} {m : Nat} (h : Val te σ H v) (l : Le B H) (hv : LL K B v rows) (D : Dw rows m) : VH (tCall (sp_seats K) [] E0 (tCons te tNil)) σ H fun w H' => ∃ B', Ext B H B' H' ∧ LN K B' w ((List.range (2 * m)).map (seat rows)) :=
  c_call (g_cons h g_nil) fun Q q => ⟨B, v, rows, m, rfl, l, hv, D, fun w B' H' e p => q w H' ⟨B', e, p⟩⟩
theorem call_behind {te : TE} {σ : St} {B H : Hp} {v : V} {rows : List (List Nat)} {m : Nat} (h : Val te σ H v) (l : Le B H) (hv : LL K B v rows) (D : Dw rows m) : VH (tCall (sp_behind K) [] E0 (tCons te tNil)) σ H fun w H' => ∃ B', Ext B H B' H' ∧ LN K B' w ((List.range (2 * m)).map (beh rows)) :=
  c_call (g_cons h g_nil) fun Q q => ⟨B, v, rows, m, rfl, l, hv, D, fun w B' H' e p => q w H' ⟨B', e, p⟩⟩

/-! ### mate_of -/
theorem r_mate (t : TS) (ht : t = (tRet (tOp rSubI (tOp rAddI (tVar 0) (tC (.int 1))) (tOp rMulI (tC (.int 2)) (tOp rModI (tVar 0) (tC (.int 2))))))) (vs : List V) (H : Hp) (Q : VK) (E : XK) (h : sp_mate vs H Q E) : t { nx := fun _ H' => Q .non H', rt := Q } (start ["end"] vs) H := by
  obtain ⟨e, rfl, q⟩ := h
  subst ht
  refine s_retV (v := nv (mate e)) ?_ q
  refine vint (v_sub (v_add (v_var rfl) v_c) (v_mul v_c (v_mod (v_var rfl) v_c (by decide)) (.inl ⟨by decide, by decide⟩))) ?_
  rw [mate_int]
theorem r_mate_of (vs : List V) (H : Hp) (Q : VK) (E : XK) (h : sp_mate vs H Q E) : t_mate_of K { nx := fun _ H' => Q .non H', rt := Q } (start N_mate_of vs) H := r_mate _ rfl vs H Q E h
theorem r__law_mate (vs : List V) (H : Hp) (Q : VK) (E : XK) (h : sp_mate vs H Q E) : t__law_mate K { nx := fun _ H' => Q .non H', rt := Q } (start N__law_mate vs) H := by
  obtain ⟨e, rfl, q⟩ := h
  exact r_mate _ rfl [nv e] H Q E ⟨e, rfl, q⟩

/-! ### count_ends -/
theorem sum_len : ∀ rows : List (List Nat), (rows.map fun r => (r.length : Int)).sum = (rows.flatten.length : Int)
  | [] => rfl
  | r :: rows => by
    rw [List.map_cons, List.sum_cons, sum_len rows, List.flatten_cons, List.length_append]
    omega
theorem r_count_ends (vs : List V) (H : Hp) (Q : VK) (E : XK) (h : sp_cnt K vs H Q E) : t_count_ends K { nx := fun _ H' => Q .non H', rt := Q } (start N_count_ends vs) H := by
  obtain ⟨B, v, rows, m, rfl, hl, hv, D, k⟩ := h
  obtain ⟨p, us, rfl, hp, he⟩ := hv
  have hus : us.length < 100000 := by have := D.sn; have := he.1; omega
  refine s_ret (n_sum (n_lcI (fun _ => true) (fun i => nv (rows.getD i []).length) (v_var rfl) (sqL_le hp hl) hus (fun _ => rfl) (fun i x H' hi e => a_yes) (fun i x H' hi e _ => ?_)) fun w H' hw => ?_) (P := fun w H' => ∃ B', Ext B H B' H' ∧ w = nv (2 * m)) fun w H' ⟨B', e, p⟩ => k w B' H' e p
  · obtain ⟨r, hr, hx⟩ := he.getV hi
    rw [List.getD_eq_getElem?_getD, hr]
    exact v_lenN (v_var rfl) (hx.le (hl.trans e.le))
  · obtain ⟨Dd, hD, rfl, rfl⟩ := hw
    have e1 : (((List.range us.length).filter fun _ => true).map fun i => nv (rows.getD i []).length) = (rows.map fun r => (r.length : Int)).map V.int := by
      have := ix_items rows [] (fun _ => true) (fun r => nv r.length)
      rw [he.1, this, List.map_map, show rows.filter (fun _ => true) = rows from List.filter_eq_self.mpr fun _ _ => rfl]
      rfl
    refine ⟨Dd, rows.map fun r => (r.length : Int), rfl, .of (by rw [upd_same, e1]), _, Ext.new hl hD, ?_⟩
    rw [sum_len, D.len]
    rfl

/-! ### seats_of -/
/-- a list that has at each end of some ends what f tells -/
def Told (f : Nat → Nat) (done : List Nat) (xs : List V) (n : Nat) : Prop := xs.length = n ∧ ∀ e, e ∈ done → e < n → xs[e]? = some (nv (f e))
theorem Told.put {f : Nat → Nat} {done : List Nat} {xs : List V} {n e : Nat} (h : Told f done xs n) : Told f (done ++ [e]) (xs.set e (nv (f e))) n := by
  refine ⟨by rw [List.length_set]; exact h.1, fun x hx hn => ?_⟩
  by_cases z : x = e
  · subst z
    rw [List.getElem?_set_self (by rw [h.1]; exact hn)]
  · rw [List.getElem?_set_ne (fun w => z w.symm)]
    rcases List.mem_append.mp hx with w | w
    · exact h.2 x w hn
    · exact absurd (List.mem_singleton.mp w) z
theorem Told.all {f : Nat → Nat} {done : List Nat} {xs : List V} {n : Nat} (h : Told f done xs n) (ha : ∀ e, e < n → e ∈ done) : xs = ((List.range n).map f).map nv := by
  refine List.ext_getElem? fun i => ?_
  by_cases hi : i < n
  · rw [h.2 i (ha i hi) hi, List.map_map, List.getElem?_map, List.getElem?_range hi]; rfl
  · rw [List.getElem?_eq_none (by rw [h.1]; omega), List.getElem?_eq_none (by simp; omega)]
theorem flat_take {rows : List (List Nat)} {i : Nat} {r : List Nat} (h : rows[i]? = some r) : (rows.take (i + 1)).flatten = (rows.take i).flatten ++ r := by
  rw [take_snoc h, List.flatten_append]; simp
/-- [c] * count_ends(drawing) -/
theorem n_zeros {σ : St} {i : Nat} {c v : V} {B H : Hp} {rows : List (List Nat)} {m : Nat} (hi : σ[i]? = some (some v)) (hl : Le B H) (hv : LL K B v rows) (D : Dw rows m) :
    VH (tOp rRep (tLst (tCons (tC c) tNil)) (tCall (sp_cnt K) [] E0 (tCons (tVar i) tNil))) σ H fun w H' => ∃ B' p, Ext B H B' H' ∧ Own H B' H' p (.lst (List.replicate (2 * m) c)) ∧ w = .ref p := by
  have hm := D.sm
  intro Q q
  refine (n_lst (g_cons v_c g_nil) (by simp)) _ fun w H1 ⟨l, hl1, ew, eH⟩ => ?_
  subst ew eH
  refine call_cnt (v_var hi) (hl.trans (Ex.new hl1).le) hv D _ fun n H2 ⟨B2, e2, en⟩ => ?_
  subst en
  have h63 := line63
  have hs : 100000 ≤ sizeLine := by decide
  refine ⟨l, ((2 * m : Nat) : Int), [c], rfl, rfl, e2.hh l _ upd_same, by omega, by omega, by simp; omega, fun p hp => ?_⟩
  rw [Int.toNat_natCast, rep_flat]
  have ex : Ext B H B2 H2 := ⟨e2.bb, e2.le, (Ex.new hl1).trans e2.hh, fun a h1 h2 => e2.fr a (fun z => h1 ((Ex.new hl1).free z)) h2⟩
  exact q _ _ ⟨B2, p, ex.own hp, Own.of_new ex.hh ex.le hp, rfl⟩
/-- [c] * len(l) -/
theorem n_zerosL {σ : St} {c : V} {B H : Hp} {tn : TE} {n : Nat} (hl : Le B H) (hn : ∀ H', Ex H H' → Val tn σ H' (nv n)) (hz : n ≤ 100000) :
    VH (tOp rRep (tLst (tCons (tC c) tNil)) tn) σ H fun w H' => ∃ p, Ext B H B H' ∧ Own H B H' p (.lst (List.replicate n c)) ∧ w = .ref p := fun Q q =>
  n_rep v_c hn hz Q fun w H' ⟨p, l, hp, hl1, ne, ew, eH⟩ => by
    subst ew eH
    have e1 := (Ext.refl hl).own hl1 (o := .lst [c])
    have hp' : (upd H l (.lst [c])) p = none := by rw [upd_ne ne]; exact hp
    exact q _ _ ⟨p, e1.own hp', Own.of_new e1.hh e1.le hp', rfl⟩
theorem r_seats_of (vs : List V) (H : Hp) (Q : VK) (E : XK) (h : sp_seats K vs H Q E) : t_seats_of K (sp_cnt K) { nx := fun _ H' => Q .non H', rt := Q } (start N_seats_of vs) H := by
  obtain ⟨B, v, rows, m, rfl, hl, hv, D, k⟩ := h
  have P := D.dr.part
  have hm := D.sm
  -- seats = [0] * count_ends(drawing)
  refine q_set (n_zeros rfl hl hv D) ?_
  · rintro w H1 ⟨B1, p, e1, o1, rfl⟩
    -- for place, row in enumerate(drawing)
    obtain ⟨a, us, rfl, ha, he⟩ := hv
    refine f_enum (a := a) (xs := us) (v_var rfl) (sqL_le ha (e1.bb.le.trans e1.le))
      (fun i σ H' => ∃ x2 x3 x4 xs, σ = [some (.ref a), some (.ref p), x2, x3, x4] ∧ Ext B H B1 H' ∧ Own H B1 H' p (.lst xs) ∧ Told (seat rows) (rows.take i).flatten xs (2 * m))
      ⟨none, none, none, _, rfl, e1, o1, by simp, fun e h => by simp at h⟩ (fun i σ' H' ⟨_, _, _, _, _, e, _⟩ => sqL_le ha (e1.bb.le.trans e.le)) ?_ ?_
    · rintro i x σ' H' T hx ⟨x2, x3, x4, xs, rfl, e2, o2, ht⟩ hT
      obtain ⟨r, hr, hxr⟩ := he.getV hx
      have e3 := e2.own hT (o := .tup [nv i, x])
      have nT : p ≠ T := ne_of_none o2.h hT
      have hrm := List.mem_of_getElem? hr
      -- for end in row: seats[end] = place
      refine f_LN (a := x) (ns := r) (B := B1) (v_var rfl) (hxr.le (e1.bb.le))
        (fun j σ H' => ∃ x4 xs, σ = [some (.ref a), some (.ref p), some (nv i), some x, x4] ∧ Ext B H B1 H' ∧ Own H B1 H' p (.lst xs) ∧ Told (seat rows) ((rows.take i).flatten ++ r.take j) xs (2 * m))
        ⟨x4, xs, rfl, e3, o2.other nT, by simpa using ht⟩ (fun j σ' H' ⟨_, _, _, e, _⟩ => e.le) ?_ ?_
      · rintro j e σ' H' he ⟨x4, xs, rfl, e4, o4, ht4⟩
        have hem : e ∈ r := List.mem_of_getElem? he
        have hlt := P.lt hrm hem
        refine s_setL (v := nv i) (v_var rfl) (v_var rfl) (v_var rfl) o4.h (by rw [ht4.1]; exact hlt) ?_
        refine ⟨_, _, rfl, e4.put o4 _, o4.put _, ?_⟩
        have hs : seat rows e = i := P.num i r e hr hem
        have := ht4.put (e := e)
        rw [hs, List.append_assoc, ← take_snoc he] at this
        exact this
      · rintro σ' H' ⟨x4, xs, rfl, e4, o4, ht4⟩
        refine ⟨_, _, _, _, rfl, e4, o4, ?_⟩
        rw [flat_take hr]
        rw [List.take_length] at ht4
        exact ht4
    · rintro σ' H' ⟨x2, x3, x4, xs, rfl, e2, o2, ht⟩
      rw [he.1, List.take_length] at ht
      have hxs := ht.all fun e he => (P.mem e).mpr he
      refine s_retV (v_var rfl) (k _ _ _ (e2.freeze o2) ?_)
      exact LN.of (by rw [upd_same, hxs])
end
end Rf
end
section
set_option linter.all false
set_option autoImplicit false
set_option maxRecDepth 100000
set_option maxHeartbeats 1000000
/-! P2: behind_of, lands_of, land_numbers, _law_seats, _law_behind, _law_lands. -/
namespace Rf
open PySem L2

/-! ### dicts by their keys in order -/
def ki (n : Nat) : Key := .inl (n : Int)
theorem ki_inj {a b : Nat} : ki a = ki b ↔ a = b := by
  unfold ki
  constructor
  · intro h; injection h with h; omega
  · intro h; rw [h]
def dkv (ks : List Nat) (f : Nat → V) : List (Key × V) := ks.map fun n => (ki n, f n)
theorem dkv_len (ks : List Nat) (f : Nat → V) : (dkv ks f).length = ks.length := by unfold dkv; rw [List.length_map]
theorem dkv_val (f : Nat → V) (n : Nat) : ∀ ks : List Nat, valV (dkv ks f) (ki n) = if n ∈ ks then some (f n) else none
  | [] => by simp [dkv, valV_nil]
  | k :: ks => by
    show valV ((ki k, f k) :: dkv ks f) (ki n) = _
    by_cases h : k = n
    · subst h
      rw [valV_pos rfl, if_pos (by simp)]
    · rw [valV_neg (fun z => h (ki_inj.mp z)), dkv_val f n ks]
      simp [show ¬ n = k from fun z => h z.symm]
theorem dkv_in {f : Nat → V} {n : Nat} {ks : List Nat} (h : n ∈ ks) : valV (dkv ks f) (ki n) = some (f n) := by rw [dkv_val, if_pos h]
theorem dkv_out {f : Nat → V} {n : Nat} {ks : List Nat} (h : n ∉ ks) : valV (dkv ks f) (ki n) = none := by rw [dkv_val, if_neg h]
theorem dkv_congr {f g : Nat → V} {ks : List Nat} (h : ∀ n ∈ ks, f n = g n) : dkv ks f = dkv ks g := List.map_congr_left fun n hn => by rw [h n hn]
theorem dkv_new {f : Nat → V} {e : Nat} {ks : List Nat} (h : e ∉ ks) : putK (dkv ks f) (ki e) (f e) = dkv (ks ++ [e]) f := by
  rw [putK_new _ (dkv_out h)]
  unfold dkv
  rw [List.map_append]; rfl
theorem dkv_newV {f : Nat → V} {e : Nat} {ks : List Nat} {v : V} (h : e ∉ ks) : putK (dkv ks f) (ki e) v = dkv (ks ++ [e]) fun n => if n = e then v else f n := by
  rw [dkv_congr (g := fun n => if n = e then v else f n) fun n hn => by rw [if_neg fun z => h (by rw [← z]; exact hn)]]
  have := dkv_new (f := fun n => if n = e then v else f n) h
  rw [if_pos rfl] at this
  exact this
theorem dkv_old {f : Nat → V} {e : Nat} {ks : List Nat} {v : V} (h : e ∈ ks) : putK (dkv ks f) (ki e) v = dkv ks fun n => if n = e then v else f n := by
  unfold putK
  rw [valV_any, dkv_in h, Option.isSome_some, if_pos rfl]
  unfold dkv
  rw [List.map_map]
  refine List.map_congr_left fun n _ => ?_
  show (if ki n = ki e then (ki n, v) else (ki n, f n)) = _
  by_cases z : n = e
  · subst z; dsimp only; rw [if_pos rfl, if_pos rfl]
  · dsimp only; rw [if_neg fun q => z (ki_inj.mp q), if_neg z]
section
variable {K : PySem.W.Frag} {σ : St} {B H : Hp} {ta tb te : TE} {D : Ends}
/-- a dict at v: the keys ks, their values f -/
def DK (H : Hp) (v : V) (ks : List Nat) (f : Nat → V) : Prop := DD H v (dkv ks f)
theorem DK.le {v : V} {ks : List Nat} {f : Nat → V} (h : DK B v ks f) (e : Le B H) : DK H v ks f := DD.le h e
theorem DK.of {p : Addr} {ks : List Nat} {f : Nat → V} (h : H p = some (.dK (dkv ks f))) : DK H (.ref p) ks f := DD.of h
theorem v_get {a : V} {ks : List Nat} {f : Nat → V} {n : Nat} (ha : Val ta σ H a) (hs : DK H a ks f) (hb : Val tb σ H (nv n)) (hn : n ∈ ks) : Val (tDGet ta tb) σ H (f n) := v_dget ha hs (k := ki n) hb (dkv_in hn)
theorem v_in {a : V} {ks : List Nat} {f : Nat → V} {n : Nat} (hb : Val tb σ H (nv n)) (ha : Val ta σ H a) (hs : DK H a ks f) : Val (tDIn tb ta) σ H (.bl (decide (n ∈ ks))) := by
  refine vas (v_din (k := ki n) hb ha hs) ?_
  rw [dkv_val]
  by_cases h : n ∈ ks
  · rw [if_pos h, decide_eq_true h]; rfl
  · rw [if_neg h, decide_eq_false h]; rfl
theorem v_nin {a : V} {ks : List Nat} {f : Nat → V} {n : Nat} (hb : Val tb σ H (nv n)) (ha : Val ta σ H a) (hs : DK H a ks f) : Val (tDNotIn tb ta) σ H (.bl (!decide (n ∈ ks))) := by
  refine vas (v_dnin (k := ki n) hb ha hs) ?_
  rw [dkv_val]
  by_cases h : n ∈ ks
  · rw [if_pos h, decide_eq_true h]; rfl
  · rw [if_neg h, decide_eq_false h]; rfl
/-- d[n] = f n, a new key -/
theorem s_putN {d : Addr} {ks : List Nat} {f : Nat → V} {n : Nat} (h : Val te σ H (f n)) (hd : Val ta σ H (.ref d)) (hk : Val tb σ H (nv n)) (ho : H d = some (.dK (dkv ks f))) (hn : n ∉ ks) (hz : ks.length < 100000) (q : D.nx σ (upd H d (.dK (dkv (ks ++ [n]) f)))) : sDPut ta tb te D σ H :=
  s_dput (k := ki n) h hd hk ho (by rw [dkv_len]; exact hz) (by rw [dkv_new hn]; exact q)
theorem s_putO {d : Addr} {ks : List Nat} {f : Nat → V} {n : Nat} {v : V} (h : Val te σ H v) (hd : Val ta σ H (.ref d)) (hk : Val tb σ H (nv n)) (ho : H d = some (.dK (dkv ks f))) (hn : n ∈ ks) (hz : ks.length < 100000) (q : D.nx σ (upd H d (.dK (dkv ks fun x => if x = n then v else f x)))) : sDPut ta tb te D σ H :=
  s_dput (k := ki n) h hd hk ho (by rw [dkv_len]; exact hz) (by rw [dkv_old hn]; exact q)

/-! ### for k in range(len(L)): for e in L[k]: d[e] = k -/
theorem set_two {σ : St} {b c : Nat} {y z v : Option V} (n : b ≠ c) : ((σ.set b y).set c z).set b v = (σ.set b v).set c z := by
  rw [List.set_comm _ _ n, List.set_set, List.set_comm _ _ n.symm]
theorem get_two {σ : St} {a b c : Nat} {y z : Option V} (n1 : b ≠ a) (n2 : c ≠ a) : ((σ.set b y).set c z)[a]? = σ[a]? := by rw [List.getElem?_set_ne n2, List.getElem?_set_ne n1]
theorem nodup_take {L : List (List Nat)} (hn : L.flatten.Nodup) {i : Nat} {l : List Nat} (hl : L[i]? = some l) {j e : Nat} (he : l[j]? = some e) : e ∉ (L.take i).flatten ++ l.take j := by
  obtain ⟨hi, hle⟩ := List.getElem?_eq_some_iff.mp hl
  have e1 : L = L.take i ++ l :: L.drop (i + 1) := by rw [← hle, ← List.drop_eq_getElem_cons hi, List.take_append_drop]
  obtain ⟨hj, hje⟩ := List.getElem?_eq_some_iff.mp he
  have e2 : l = l.take j ++ e :: l.drop (j + 1) := by rw [← hje, ← List.drop_eq_getElem_cons hj, List.take_append_drop]
  have e3 : L.flatten = ((L.take i).flatten ++ l.take j) ++ (e :: (l.drop (j + 1) ++ (L.drop (i + 1)).flatten)) := by
    conv => lhs; rw [e1]
    rw [List.flatten_append, List.flatten_cons]
    conv => lhs; rw [e2]
    simp
  rw [e3, List.nodup_append] at hn
  exact fun h => hn.2.2 e h e (by simp) rfl
theorem f_home {a b c d : Nat} {v : V} {p : Addr} {L : List (List Nat)} (n1 : b ≠ a) (n2 : c ≠ a) (n3 : b ≠ d) (n4 : c ≠ d) (n5 : b ≠ c) (hb : b < σ.length) (hc : c < σ.length) (hv : σ[a]? = some (some v)) (hd : σ[d]? = some (some (.ref p))) (hB : Le B H) (hL : LL K B v L) (hp : H p = some (.dK [])) (hpB : B p = none)
    (nd : L.flatten.Nodup) (sz : L.length ≤ 1000) (sf : L.flatten.length ≤ 1000) (k : ∀ y z, D.nx ((σ.set b y).set c z) (upd H p (.dK (dkv L.flatten fun e => nv (seat L e))))) :
    tFor (iRng1 (tCons (tCB (rLenS K) (tCons (tVar a) tNil)) tNil)) (gName b) (tFor (iList K (tOp (rIxL K) (tVar a) (tVar b))) (gName c) (sDPut (tVar d) (tVar c) (tVar b))) D σ H := by
  have lim : ∀ (i : Nat) (l : List Nat), L[i]? = some l → ∀ j, ((L.take i).flatten ++ l.take j).length ≤ 1000 := by
    intro i l hl j
    have h1 : ((L.take i).flatten ++ l.take j).Sublist L.flatten := by
      have h2 := flat_take hl
      have h3 : (L.take (i + 1)).flatten.Sublist L.flatten := by
        conv => rhs; rw [← List.take_append_drop (i + 1) L, List.flatten_append]
        exact List.sublist_append_left _ _
      rw [h2] at h3
      exact (List.Sublist.append_left (List.take_sublist _ _) _).trans h3
    have := h1.length_le
    omega
  refine f_rng (n := L.length) (v_lenL (v_var hv) (hL.le hB)) (by omega)
    (fun i σ' H' => ∃ y z, σ' = (σ.set b y).set c z ∧ H' = upd H p (.dK (dkv (L.take i).flatten fun e => nv (seat L e)))) ⟨σ[b], σ[c], by simp, (upd_back hp).symm⟩ ?_ ?_
  · rintro i σ' H' hi ⟨y, z, rfl, rfl⟩
    rw [set_two n5]
    have hl : L[i]? = some L[i] := List.getElem?_eq_getElem hi
    have le' : ∀ o, Le B (upd H p o) := fun o => hB.mut hpB
    have hvb : ((σ.set b (some (nv i))).set c z)[b]? = some (some (nv i)) := by rw [List.getElem?_set_ne n5.symm, List.getElem?_set_self hb]
    obtain ⟨w, hw, hwl⟩ := v_ixLL (K := K) (ta := tVar a) (tb := tVar b) (v_var ((get_two n1 n2).trans hv)) (hL.le (le' (.dK (dkv (L.take i).flatten fun e => nv (seat L e))))) (v_var hvb) hl
    -- the list itself stands in the known part
    obtain ⟨q, us, hq1, hq2, hq3⟩ := id hL
    obtain ⟨w', hw', hwl'⟩ := hq3.get hl
    have hval : Val (tOp (rIxL K) (tVar a) (tVar b)) ((σ.set b (some (nv i))).set c z) (upd H p (.dK (dkv (L.take i).flatten fun e => nv (seat L e)))) w' := by
      subst hq1
      exact v_ixL (v_var ((get_two n1 n2).trans hv)) (v_var hvb) (sqL_le hq2 (le' _)) hw'
    refine f_LN (B := B) hval hwl' (fun j σ2 H2 => ∃ z, σ2 = (σ.set b (some (nv i))).set c z ∧ H2 = upd H p (.dK (dkv ((L.take i).flatten ++ L[i].take j) fun e => nv (seat L e)))) ⟨z, rfl, by simp⟩ (fun j σ2 H2 ⟨_, _, e⟩ => by rw [e]; exact le' _) ?_ ?_
    · rintro j e σ2 H2 he ⟨z2, rfl, rfl⟩
      rw [List.set_set]
      have hem := List.mem_of_getElem? he
      have hs : seat L e = i := seat_eq nd hl hem
      have hvb2 : ((σ.set b (some (nv i))).set c (some (nv e)))[b]? = some (some (nv i)) := by rw [List.getElem?_set_ne n5.symm, List.getElem?_set_self hb]
      refine s_putN (n := e) (f := fun e => nv (seat L e)) (by rw [hs]; exact v_var hvb2) (v_var ((get_two n3 n4).trans hd)) (v_var (List.getElem?_set_self (by simpa using hc))) upd_same (nodup_take nd hl he) (by have := lim i _ hl j; omega) ?_
      refine ⟨_, rfl, ?_⟩
      rw [upd_upd, List.append_assoc, ← take_snoc he]
    · rintro σ2 H2 ⟨z2, rfl, rfl⟩
      refine ⟨_, _, rfl, ?_⟩
      rw [List.take_length, flat_take hl]
  · rintro σ' H' ⟨y, z, rfl, rfl⟩
    rw [List.take_length]
    exact k y z
end
end Rf
end
section
set_option linter.all false
set_option autoImplicit false
set_option maxRecDepth 100000
set_option maxHeartbeats 1000000
/-! P3: behind_of, land_numbers, lands_of, _law_seats, _law_behind, _law_lands. -/
namespace Rf
open PySem L2
section
variable {K : PySem.W.Frag}

theorem mod_nat (j n : Nat) : ((j : Int) + 1) % (n : Int) = (((j + 1) % n : Nat) : Int) := by
  rw [Int.natCast_emod]; rfl

/-! ### behind_of -/
theorem r_behind_of (vs : List V) (H : Hp) (Q : VK) (E : XK) (h : sp_behind K vs H Q E) : t_behind_of K (sp_cnt K) { nx := fun _ H' => Q .non H', rt := Q } (start N_behind_of vs) H := by
  obtain ⟨B, v, rows, m, rfl, hl, hv, D, k⟩ := h
  have P := D.dr.part
  have hm := D.sm
  refine q_set (n_zeros rfl hl hv D) ?_
  rintro w H1 ⟨B1, p, e1, o1, rfl⟩
  -- for row in drawing
  refine f_LL (B := B1) (v_var rfl) (hv.le e1.bb.le)
    (fun i σ H' => ∃ x2 x3 x4 xs, σ = [some v, some (.ref p), x2, x3, x4] ∧ Ext B H B1 H' ∧ Own H B1 H' p (.lst xs) ∧ Told (beh rows) (rows.take i).flatten xs (2 * m))
    ⟨none, none, none, _, rfl, e1, o1, by simp, fun e h => by simp at h⟩ (fun i σ' H' ⟨_, _, _, _, _, e, _⟩ => e.le) ?_ ?_
  · rintro i x r σ' H' hr hxr ⟨x2, x3, x4, xs, rfl, e2, o2, ht⟩
    have hrm := List.mem_of_getElem? hr
    obtain ⟨q, rfl, hq⟩ := id hxr
    -- for at, end in enumerate(row)
    refine f_enum (a := q) (xs := r.map nv) (v_var rfl) (sqL_le hq e2.le)
      (fun j σ H' => ∃ x3 x4 xs, σ = [some v, some (.ref p), some (.ref q), x3, x4] ∧ Ext B H B1 H' ∧ Own H B1 H' p (.lst xs) ∧ Told (beh rows) ((rows.take i).flatten ++ r.take j) xs (2 * m))
      ⟨x3, x4, xs, rfl, e2, o2, by simpa using ht⟩ (fun j σ' H' ⟨_, _, _, _, e, _⟩ => sqL_le hq e.le) ?_ ?_
    · rintro j y σ' H' T hy ⟨x3, x4, xs, rfl, e3, o3, ht3⟩ hT
      rw [List.getElem?_map] at hy
      obtain ⟨e, he, rfl⟩ := Option.map_eq_some_iff.mp hy
      have hem : e ∈ r := List.mem_of_getElem? he
      have hlt := P.lt hrm hem
      have e4 := e3.own hT (o := .tup [nv j, nv e])
      have o4 := o3.other (ne_of_none o3.h hT) (u := .tup [nv j, nv e])
      have hb := beh_at D.dr.nd hr he
      have hlen := D.row_le hrm
      have hpos : 0 < r.length := List.length_pos_of_mem hem
      -- behind[end] = row[(at + 1) % len(row)]
      refine s_setL (v := nv (beh rows e)) (v_ixN (j := (j + 1) % r.length) (v_var rfl) (hxr.le e4.le) (vnat (v_mod (v_add (v_var rfl) v_c) (v_lenN (v_var rfl) (hxr.le e4.le)) (by omega)) (mod_nat _ _)) hb) (v_var rfl) (v_var rfl) o4.h (by rw [ht3.1]; exact hlt) ?_
      refine ⟨_, _, _, rfl, e4.put o4 _, o4.put _, ?_⟩
      have := ht3.put (e := e)
      rw [List.append_assoc, ← take_snoc he] at this
      exact this
    · rintro σ' H' ⟨x3, x4, xs, rfl, e3, o3, ht3⟩
      refine ⟨_, _, _, _, rfl, e3, o3, ?_⟩
      rw [flat_take hr]
      rw [List.length_map, List.take_length] at ht3
      exact ht3
  · rintro σ' H' ⟨x2, x3, x4, xs, rfl, e2, o2, ht⟩
    rw [List.take_length] at ht
    have hxs := ht.all fun e he => (P.mem e).mpr he
    refine s_retV (v_var rfl) (k _ _ _ (e2.freeze o2) ?_)
    exact LN.of (by rw [upd_same, hxs])

/-! ### land_numbers -/
/-- lists of ends, no end twice, few -/
structure Few (L : List (List Nat)) : Prop where
  nd : L.flatten.Nodup
  sn : L.length ≤ 1000
  sf : L.flatten.length ≤ 1000
theorem Few.row {L : List (List Nat)} (F : Few L) {i : Nat} {l : List Nat} (hl : L[i]? = some l) (j : Nat) : ((L.take i).flatten ++ l.take j).length ≤ 1000 := by
  have h1 : ((L.take i).flatten ++ l.take j).Sublist L.flatten := by
    have h2 := flat_take hl
    have h3 : (L.take (i + 1)).flatten.Sublist L.flatten := by
      conv => rhs; rw [← List.take_append_drop (i + 1) L, List.flatten_append]
      exact List.sublist_append_left _ _
    rw [h2] at h3
    exact (List.Sublist.append_left (List.take_sublist _ _) _).trans h3
  have := h1.length_le
  have := F.sf
  omega
def sp_lnum (K : PySem.W.Frag) : Sp := fun vs H Q _ => ∃ B v L, vs = [v] ∧ Le B H ∧ LL K B v L ∧ Few L ∧ Ret B H (fun w B' => DK B' w L.flatten fun e => nv (seat L e)) Q
theorem call_lnum {te : TE} {σ : St} {B H : Hp} {v : V} {L : List (List Nat)} (h : Val te σ H v) (l : Le B H) (hv : LL K B v L) (D : Few L) : VH (tCall (sp_lnum K) [] E0 (tCons te tNil)) σ H fun w H' => ∃ B', Ext B H B' H' ∧ DK B' w L.flatten fun e => nv (seat L e) :=
  c_call (g_cons h g_nil) fun Q q => ⟨B, v, L, rfl, l, hv, D, fun w B' H' e p => q w H' ⟨B', e, p⟩⟩
theorem r_land_numbers (vs : List V) (H : Hp) (Q : VK) (E : XK) (h : sp_lnum K vs H Q E) : t_land_numbers K { nx := fun _ H' => Q .non H', rt := Q } (start N_land_numbers vs) H := by
  obtain ⟨B, v, L, rfl, hl, hv, F, k⟩ := h
  refine q_set n_dict ?_
  rintro w H1 ⟨p, hp, rfl, rfl⟩
  have e1 := (Ext.refl hl).own hp (o := .dK [])
  have o1 : Own H B _ p (.dK []) := Own.of_new (.refl H) hl hp
  obtain ⟨a, us, rfl, ha, he⟩ := hv
  refine f_enum (a := a) (xs := us) (v_var rfl) (sqL_le ha e1.le)
    (fun i σ H' => ∃ x2 x3 x4, σ = [some (.ref a), some (.ref p), x2, x3, x4] ∧ Ext B H B H' ∧ Own H B H' p (.dK (dkv (L.take i).flatten fun e => nv (seat L e))))
    ⟨none, none, none, rfl, e1, o1⟩ (fun i σ' H' ⟨_, _, _, _, e, _⟩ => sqL_le ha e.le) ?_ ?_
  · rintro i x σ' H' T hx ⟨x2, x3, x4, rfl, e2, o2⟩ hT
    obtain ⟨r, hr, hxr⟩ := he.getV hx
    have e3 := e2.own hT (o := .tup [nv i, x])
    have o3 := o2.other (ne_of_none o2.h hT) (u := .tup [nv i, x])
    refine f_LN (a := x) (ns := r) (B := B) (v_var rfl) hxr
      (fun j σ H' => ∃ x4, σ = [some (.ref a), some (.ref p), some (nv i), some x, x4] ∧ Ext B H B H' ∧ Own H B H' p (.dK (dkv ((L.take i).flatten ++ r.take j) fun e => nv (seat L e))))
      ⟨x4, rfl, e3, by simpa using o3⟩ (fun j σ' H' ⟨_, _, e, _⟩ => e.le) ?_ ?_
    · rintro j e σ' H' hej ⟨x4, rfl, e4, o4⟩
      have hs : seat L e = i := seat_eq F.nd hr (List.mem_of_getElem? hej)
      refine s_putN (n := e) (f := fun e => nv (seat L e)) (by rw [hs]; exact v_var rfl) (v_var rfl) (v_var rfl) o4.h (nodup_take F.nd hr hej) (by have := F.row hr j; omega) ?_
      refine ⟨_, rfl, e4.put o4 _, ?_⟩
      have := o4.put (.dK (dkv ((L.take i).flatten ++ r.take j ++ [e]) fun e => nv (seat L e)))
      rw [List.append_assoc, ← take_snoc hej] at this
      rw [List.append_assoc, ← take_snoc hej]
      exact this
    · rintro σ' H' ⟨x4, rfl, e4, o4⟩
      refine ⟨_, _, _, rfl, e4, ?_⟩
      rw [flat_take hr]
      rw [List.take_length] at o4
      exact o4
  · rintro σ' H' ⟨x2, x3, x4, rfl, e2, o2⟩
    rw [he.1, List.take_length] at o2
    exact s_retV (v_var rfl) (k _ _ _ (e2.freeze o2) (DK.of upd_same))

/-! ### _law_seats, _law_behind -/
theorem r__law_seats (vs : List V) (H : Hp) (Q : VK) (E : XK) (h : sp_lnum K vs H Q E) : t__law_seats K { nx := fun _ H' => Q .non H', rt := Q } (start N__law_seats vs) H := by
  obtain ⟨B, v, L, rfl, hl, hv, F, k⟩ := h
  refine q_set n_dict ?_
  rintro w H1 ⟨p, hp, rfl, rfl⟩
  have e1 := (Ext.refl hl).own hp (o := .dK [])
  have o1 : Own H B _ p (.dK []) := Own.of_new (.refl H) hl hp
  refine q_seq (f_home (B := B) (by decide) (by decide) (by decide) (by decide) (by decide) (by show 2 < 4; decide) (by show 3 < 4; decide) rfl rfl e1.le hv upd_same o1.b F.nd F.sn F.sf fun y z => ?_)
  exact s_retV (v_var rfl) (k _ _ _ ((e1.put o1 _).freeze (o1.put _)) (DK.of upd_same))
def sp_lbeh (K : PySem.W.Frag) : Sp := fun vs H Q _ => ∃ B v rows m, vs = [v] ∧ Le B H ∧ LL K B v rows ∧ Dw rows m ∧ Ret B H (fun w B' => DK B' w rows.flatten fun e => nv (beh rows e)) Q
theorem call_lbeh {te : TE} {σ : St} {B H : Hp} {v : V} {rows : List (List Nat)} {m : Nat} (h : Val te σ H v) (l : Le B H) (hv : LL K B v rows) (D : Dw rows m) : VH (tCall (sp_lbeh K) [] E0 (tCons te tNil)) σ H fun w H' => ∃ B', Ext B H B' H' ∧ DK B' w rows.flatten fun e => nv (beh rows e) :=
  c_call (g_cons h g_nil) fun Q q => ⟨B, v, rows, m, rfl, l, hv, D, fun w B' H' e p => q w H' ⟨B', e, p⟩⟩
theorem Dw.few {rows : List (List Nat)} {m : Nat} (D : Dw rows m) : Few rows := ⟨D.dr.nd, by have := D.sn; omega, by rw [D.len]; have := D.sm; omega⟩
theorem r__law_behind (vs : List V) (H : Hp) (Q : VK) (E : XK) (h : sp_lbeh K vs H Q E) : t__law_behind K { nx := fun _ H' => Q .non H', rt := Q } (start N__law_behind vs) H := by
  obtain ⟨B, v, rows, m, rfl, hl, hv, D, k⟩ := h
  have F := D.few
  refine q_set n_dict ?_
  rintro w H1 ⟨p, hp, rfl, rfl⟩
  have e1 := (Ext.refl hl).own hp (o := .dK [])
  have o1 : Own H B _ p (.dK []) := Own.of_new (.refl H) hl hp
  refine f_LL (B := B) (v_var rfl) hv
    (fun i σ H' => ∃ x2 x3, σ = [some v, some (.ref p), x2, x3] ∧ Ext B H B H' ∧ Own H B H' p (.dK (dkv (rows.take i).flatten fun e => nv (beh rows e))))
    ⟨none, none, rfl, e1, o1⟩ (fun i σ' H' ⟨_, _, _, e, _⟩ => e.le) ?_ ?_
  · rintro i x r σ' H' hr hxr ⟨x2, x3, rfl, e2, o2⟩
    have hrm := List.mem_of_getElem? hr
    have hlen := D.row_le hrm
    refine f_rng (n := r.length) (v_lenN (v_var rfl) (hxr.le e2.le)) (by omega)
      (fun j σ H' => ∃ x3, σ = [some v, some (.ref p), some x, x3] ∧ Ext B H B H' ∧ Own H B H' p (.dK (dkv ((rows.take i).flatten ++ r.take j) fun e => nv (beh rows e))))
      ⟨x3, rfl, e2, by simpa using o2⟩ ?_ ?_
    · rintro j σ' H' hj ⟨x3, rfl, e3, o3⟩
      have hej : r[j]? = some r[j] := List.getElem?_eq_getElem hj
      have hb := beh_at F.nd hr hej
      refine s_putN (n := r[j]) (f := fun e => nv (beh rows e)) (v_ixN (j := (j + 1) % r.length) (v_var rfl) (hxr.le e3.le) (vnat (v_mod (v_add (v_var rfl) v_c) (v_lenN (v_var rfl) (hxr.le e3.le)) (by omega)) (mod_nat _ _)) hb) (v_var rfl) (v_ixN (v_var rfl) (hxr.le e3.le) (v_var rfl) hej) o3.h (nodup_take F.nd hr hej) (by have := F.row hr j; omega) ?_
      refine ⟨_, rfl, e3.put o3 _, ?_⟩
      have := o3.put (.dK (dkv ((rows.take i).flatten ++ r.take j ++ [r[j]]) fun e => nv (beh rows e)))
      rw [List.append_assoc, ← take_snoc hej] at this
      rw [List.append_assoc, ← take_snoc hej]
      exact this
    · rintro σ' H' ⟨x3, rfl, e3, o3⟩
      refine ⟨_, _, rfl, e3, ?_⟩
      rw [flat_take hr]
      rw [List.take_length] at o3
      exact o3
  · rintro σ' H' ⟨x2, x3, rfl, e2, o2⟩
    rw [List.take_length] at o2
    exact s_retV (v_var rfl) (k _ _ _ (e2.freeze o2) (DK.of upd_same))
end
end Rf
end
section
set_option linter.all false
set_option autoImplicit false
set_option maxRecDepth 100000
set_option maxHeartbeats 1000000
/-! P4: lands_of, _law_lands. -/
namespace Rf
open PySem L2
open Classical in
/-- whether it is so -/
noncomputable def bb (p : Prop) : Bool := decide p
open Classical in
theorem bb_t {p : Prop} (h : p) : bb p = true := by unfold bb; exact decide_eq_true h
open Classical in
theorem bb_f {p : Prop} (h : ¬ p) : bb p = false := by unfold bb; exact decide_eq_false h
open Classical in
theorem bb_iff {p q : Prop} (h : p ↔ q) : bb p = bb q := by unfold bb; simp only [h]
open Classical in
theorem bb_true {p : Prop} : bb p = true ↔ p := by unfold bb; exact decide_eq_true_iff
open Classical in
theorem bb_false {p : Prop} : bb p = false ↔ ¬ p := by unfold bb; exact decide_eq_false_iff_not
/-- a list told by a function of its places -/
def fl (n : Nat) (g : Nat → V) : List V := (List.range n).map g
theorem fl_len (n : Nat) (g : Nat → V) : (fl n g).length = n := by unfold fl; simp
theorem fl_at {n : Nat} {g : Nat → V} {i : Nat} (h : i < n) : (fl n g)[i]? = some (g i) := by unfold fl; rw [List.getElem?_map, List.getElem?_range h]; rfl
theorem fl_congr {n : Nat} {g h : Nat → V} (k : ∀ i, i < n → g i = h i) : fl n g = fl n h := List.map_congr_left fun i hi => k i (List.mem_range.mp hi)
theorem fl_set {n : Nat} {g : Nat → V} {e : Nat} {v : V} : (fl n g).set e v = fl n fun x => if x = e then v else g x := by
  refine List.ext_getElem? fun i => ?_
  by_cases hi : i < n
  · rw [fl_at hi]
    by_cases z : i = e
    · subst z; rw [List.getElem?_set_self (by rw [fl_len]; exact hi), if_pos rfl]
    · rw [List.getElem?_set_ne (fun w => z w.symm), fl_at hi, if_neg z]
  · rw [List.getElem?_eq_none (by rw [List.length_set, fl_len]; omega), List.getElem?_eq_none (by rw [fl_len]; omega)]
theorem fl_rep (n : Nat) (v : V) : List.replicate n v = fl n fun _ => v := by
  refine List.ext_getElem? fun i => ?_
  by_cases hi : i < n
  · rw [fl_at hi, List.getElem?_replicate, if_pos hi]
  · rw [List.getElem?_eq_none (by simp; omega), List.getElem?_eq_none (by rw [fl_len]; omega)]
section
variable {K : PySem.W.Frag}
def sp_lands (K : PySem.W.Frag) : Sp := fun vs H Q _ => ∃ B v rows m, vs = [v] ∧ Le B H ∧ LL K B v rows ∧ Dw rows m ∧ Ret B H (fun w B' => LL K B' w (landsOf rows m)) Q
theorem call_lands {te : TE} {σ : St} {B H : Hp} {v : V} {rows : List (List Nat)} {m : Nat} (h : Val te σ H v) (l : Le B H) (hv : LL K B v rows) (D : Dw rows m) : VH (tCall (sp_lands K) [] E0 (tCons te tNil)) σ H fun w H' => ∃ B', Ext B H B' H' ∧ LL K B' w (landsOf rows m) :=
  c_call (g_cons h g_nil) fun Q q => ⟨B, v, rows, m, rfl, l, hv, D, fun w B' H' e p => q w H' ⟨B', e, p⟩⟩
theorem Dw.lfew {rows : List (List Nat)} {m : Nat} (D : Dw rows m) : Few (landsOf rows m) := by
  have P := D.dr.lands
  have h1 := P.perm.length_eq
  rw [List.length_range] at h1
  have hm := D.sm
  have h2 : (landsOf rows m).length ≤ (landsOf rows m).flatten.length := by
    have hne := rings_ne D.dr.inj
    have : ∀ L : List (List Nat), (∀ l ∈ L, l ≠ []) → L.length ≤ L.flatten.length := by
      intro L
      induction L with
      | nil => intro _; simp
      | cons l L ih =>
        intro h
        have a := ih fun x hx => h x (by simp [hx])
        have b := List.length_pos_iff.mpr (h l (by simp))
        rw [List.length_cons, List.flatten_cons, List.length_append]; omega
    exact this _ hne
  exact ⟨P.nd, by omega, by omega⟩
/-- whether the ring of x has an end below k -/
def low (rows : List (List Nat)) (k x : Nat) : Prop := ∃ y ∈ orb (stp rows) x, y < k
section
variable {rows : List (List Nat)} {m : Nat}
theorem low_self (D : Dw rows m) {k : Nat} (hk : k < 2 * m) : low rows k k ↔ ¬ least (stp rows) k := by
  unfold low least
  constructor
  · rintro ⟨y, hy, hl⟩ h
    have := h y hy
    omega
  · intro h
    obtain ⟨y, hy⟩ := Classical.not_forall.mp h
    obtain ⟨hy, hl⟩ := Classical.not_imp.mp hy
    exact ⟨y, hy, by omega⟩
theorem low_succ (D : Dw rows m) {k x : Nat} (hk : k < 2 * m) (hx : x < 2 * m) : low rows (k + 1) x ↔ low rows k x ∨ x ∈ orb (stp rows) k := by
  have I := D.dr.inj
  unfold low
  constructor
  · rintro ⟨y, hy, hl⟩
    by_cases h : y < k
    · exact .inl ⟨y, hy, h⟩
    · have : y = k := by omega
      subst this
      exact .inr (orb_sym I hx hy)
  · rintro (⟨y, hy, hl⟩ | h)
    · exact ⟨y, hy, by omega⟩
    · exact ⟨k, orb_sym I hk h, by omega⟩
/-- behind a skipped start all is as it was -/
theorem low_skip (D : Dw rows m) {k x : Nat} (hk : k < 2 * m) (hx : x < 2 * m) (h : low rows k k) : low rows (k + 1) x ↔ low rows k x := by
  rw [low_succ D hk hx]
  refine ⟨fun q => q.elim id fun z => ?_, .inl⟩
  obtain ⟨y, hy, hl⟩ := h
  exact ⟨y, (orb_same D.dr.inj hk z y).mpr hy, hl⟩
/-- an end of the ring of a least end k is in no ring begun below k -/
theorem low_orb (D : Dw rows m) {k x : Nat} (hk : k < 2 * m) (h : least (stp rows) k) (hx : x ∈ orb (stp rows) k) : ¬ low rows k x := by
  rintro ⟨y, hy, hl⟩
  have := h y ((orb_same D.dr.inj hk hx y).mp hy)
  omega
end

theorem r_lands_of (vs : List V) (H : Hp) (Q : VK) (E : XK) (h : sp_lands K vs H Q E) : t_lands_of K sp_mate (sp_behind K) { nx := fun _ H' => Q .non H', rt := Q } (start N_lands_of vs) H := by
  obtain ⟨B, v, rows, m, rfl, hl, hv, D, k⟩ := h
  have I := D.dr.inj
  have hm := D.sm
  -- behind = behind_of(drawing)
  refine q_set (call_behind (v_var rfl) hl hv D) ?_
  rintro b H1 ⟨B1, e1, hb⟩
  -- seen = [False] * len(behind)
  refine q_set (n_zerosL (n := 2 * m) e1.le (fun H' e => vas (v_lenN (v_var rfl) (hb.le (e1.le.trans e.le))) (by simp)) (by omega)) ?_
  rintro w2 H2 ⟨p, e2, o2, rfl⟩
  -- lands = []
  refine q_set (n_lst g_nil (by simp)) ?_
  rintro w3 H3 ⟨q, hq, rfl, rfl⟩
  have e3 := e1.trans (e2.own hq (o := .lst []))
  have oq : Own H B1 _ q (.lst []) := Own.of_new (e1.trans e2).hh e2.le hq
  have op0 : Own H B1 H2 p (.lst (List.replicate (2 * m) (.bl false))) := ⟨e1.hh.free o2.h0, o2.b, o2.h⟩
  have npq : p ≠ q := ne_of_none op0.h hq
  have op := op0.other npq (u := .lst [])
  -- for start in range(len(behind))
  refine q_seq (f_rng (n := 2 * m) (vas (v_lenN (v_var rfl) (hb.le e3.le)) (by simp)) (by omega)
    (fun i σ H' => ∃ x4 x5 x6 x7 B2 us, σ = [some v, some b, some (.ref p), some (.ref q), x4, x5, x6, x7] ∧ Ext B H B2 H' ∧ Ex B1 B2 ∧ Own H B2 H' p (.lst (fl (2 * m) fun x => .bl (bb (low rows i x)))) ∧ Own H B2 H' q (.lst us) ∧ Each (LN K B2) us (ringsTo (stp rows) i))
    ⟨none, none, none, none, B1, [], rfl, e3, .refl _, ?_, oq, Each.nil⟩ ?_ ?_)
  · rw [fl_rep] at op
    have e0 : (fl (2 * m) fun x => V.bl (bb (low rows 0 x))) = fl (2 * m) fun _ => V.bl false := fl_congr fun i _ => by rw [bb_f]; rintro ⟨y, _, h⟩; omega
    rw [e0]; exact op
  · rintro i σ' H' hi ⟨x4, x5, x6, x7, B2, us, rfl, e4, eb, o4, oq4, hus⟩
    have hb2 := hb.le eb.le
    -- if seen[start]: continue
    refine q_if (a_b (v_ixL (v_var rfl) (v_var rfl) (.of o4.h) (fl_at hi))) (fun hs => ?_) (fun hs => ?_)
    · have hlow := bb_true.mp hs
      refine ⟨_, _, _, _, B2, us, rfl, e4, eb, ?_, oq4, ?_⟩
      · have e0 : (fl (2 * m) fun x => V.bl (bb (low rows (i + 1) x))) = fl (2 * m) fun x => V.bl (bb (low rows i x)) := fl_congr fun x hx => by rw [bb_iff (low_skip D hi hx hlow)]
        rw [e0]; exact o4
      · rw [(ringsTo_succ _ i).2 ((low_self D hi).mp hlow)]; exact hus
    · have hleast : least (stp rows) i := Classical.not_not.mp fun z => (bb_false.mp hs) ((low_self D hi).mpr z)
      -- land = []
      refine q_set (n_lst g_nil (by simp)) ?_
      rintro w5 H5 ⟨l, hl5, rfl, rfl⟩
      have e5 := e4.own hl5 (o := .lst [])
      have nlp : p ≠ l := ne_of_none o4.h hl5
      have nlq : q ≠ l := ne_of_none oq4.h hl5
      have ol : Own H B2 _ l (.lst []) := Own.of_new e4.hh e4.le hl5
      have o5 := o4.other nlp (u := .lst [])
      have oq5 := oq4.other nlq (u := .lst [])
      -- end = start
      refine q_setV (v_var rfl) ?_
      have ho := orb_is I hi
      -- while not seen[end]
      refine q_seq (f_while (m0 := (orb (stp rows) i).length)
        (fun n σ H' => ∃ x7 pre rest cur, σ = [some v, some b, some (.ref p), some (.ref q), some (nv i), some (.ref l), some (nv cur), x7] ∧ Ext B H B2 H' ∧
          Own H B2 H' p (.lst (fl (2 * m) fun x => .bl (bb (low rows i x ∨ x ∈ pre)))) ∧ Own H B2 H' q (.lst us) ∧ Own H B2 H' l (.lst (pre.map nv)) ∧ n = rest.length ∧
          orb (stp rows) i = pre ++ rest ∧ Seg (stp rows) i pre cur ∧ Seg (stp rows) cur rest i)
        ⟨x7, [], orb (stp rows) i, i, rfl, e5, ?_, oq5, ol, rfl, rfl, rfl, ho.2.2⟩ ?_)
      · have e0 : (fl (2 * m) fun x => V.bl (bb (low rows i x ∨ x ∈ ([] : List Nat)))) = fl (2 * m) fun x => V.bl (bb (low rows i x)) := fl_congr fun x hx => by rw [bb_iff (q := low rows i x) (by simp)]
        rw [e0]; exact o5
      · rintro n σ2 H6 ⟨x7, pre, rest, cur, rfl, e6, o6, oq6, ol6, rfl, horb, hs1, hs2⟩
        have hcur : cur < 2 * m := (seg_lt I hs1 hi).2
        refine ⟨_, a_not (a_b (v_ixL (v_var rfl) (v_var rfl) (.of o6.h) (fl_at hcur))), fun hb' => ?_, fun hb' => ?_⟩
        · -- seen[end] = True; land.append(end); end = behind[mate_of(end)]
          have hns : ¬ (low rows i cur ∨ cur ∈ pre) := bb_false.mp (by simpa using hb')
          cases rest with
          | nil =>
            exfalso
            have : cur = i := hs2
            subst this
            exact hns (.inr (by have := orb_self I hi; rw [horb, List.append_nil] at this; exact this))
          | cons c rest =>
            have hc : cur = c := hs2.1
            subst hc
            refine q_seq (s_setL (v := .bl true) v_c (v_var rfl) (v_var rfl) o6.h (by rw [fl_len]; exact hcur) ?_)
            have e7 := e6.put o6 (.lst ((fl (2 * m) fun x => V.bl (bb (low rows i x ∨ x ∈ pre))).set cur (.bl true)))
            have o7 := o6.put (.lst ((fl (2 * m) fun x => V.bl (bb (low rows i x ∨ x ∈ pre))).set cur (.bl true)))
            have oq7 := oq6.other npq.symm (u := .lst ((fl (2 * m) fun x => V.bl (bb (low rows i x ∨ x ∈ pre))).set cur (.bl true)))
            have ol7 := ol6.other nlp.symm (u := .lst ((fl (2 * m) fun x => V.bl (bb (low rows i x ∨ x ∈ pre))).set cur (.bl true)))
            have hlen : (pre.map nv).length < 100000 := by
              have h1 := nodup_le (ho.2.1) (n := 2 * m) fun x hx => orb_mem_lt I hi hx
              rw [horb, List.length_append] at h1
              rw [List.length_map]; omega
            refine q_seq (s_app (v_var rfl) (v_var rfl) ol7.h hlen ?_)
            have e8 := e7.put ol7 (.lst (pre.map nv ++ [nv cur]))
            have ol8 := ol7.put (.lst (pre.map nv ++ [nv cur]))
            have o8 := o7.other nlp (u := .lst (pre.map nv ++ [nv cur]))
            have oq8 := oq7.other nlq (u := .lst (pre.map nv ++ [nv cur]))
            have hstep : ((List.range (2 * m)).map (beh rows))[mate cur]? = some (stp rows cur) := by
              rw [List.getElem?_map, List.getElem?_range (mate_lt hcur)]; rfl
            refine s_setV (v_ixN (v_var rfl) (hb2.le e8.le) (call_mate (v_var rfl)) hstep) ?_
            refine ⟨rest.length, by simp, x7, pre ++ [cur], rest, stp rows cur, rfl, e8, ?_, oq8, ?_, rfl, by rw [horb]; simp, Seg.append.mpr ⟨cur, hs1, rfl, rfl⟩, hs2.2⟩
            · have hf := fl_set (n := 2 * m) (g := fun x => V.bl (bb (low rows i x ∨ x ∈ pre))) (e := cur) (v := V.bl true)
              have e0 : (fl (2 * m) fun x => V.bl (bb (low rows i x ∨ x ∈ pre ++ [cur]))) = fl (2 * m) fun x => if x = cur then V.bl true else V.bl (bb (low rows i x ∨ x ∈ pre)) := fl_congr fun x hx => by
                by_cases z : x = cur
                · rw [if_pos z, bb_t]; exact .inr (by rw [z]; simp)
                · rw [if_neg z, bb_iff (q := low rows i x ∨ x ∈ pre)]; simp [z]
              rw [e0, ← hf]; exact o8
            · rw [List.map_append]; exact ol8
        · -- the ring is walked
          have hseen : low rows i cur ∨ cur ∈ pre := bb_true.mp (by simpa using hb')
          have hrest : rest = [] := by
            cases rest with
            | nil => rfl
            | cons c rest =>
              exfalso
              have hc : cur = c := hs2.1
              subst hc
              have hmem : cur ∈ orb (stp rows) i := by rw [horb]; simp
              rcases hseen with z | z
              · exact low_orb D hi hleast hmem z
              · have hn := ho.2.1
                rw [horb, List.nodup_append] at hn
                exact hn.2.2 cur z cur (by simp) rfl
          subst hrest
          rw [List.append_nil] at horb
          -- lands.append(land)
          have hlen : us.length < 100000 := by
            rw [hus.1]
            have := D.lfew.sn
            have h2 : (ringsTo (stp rows) i).length ≤ i := by
              unfold ringsTo
              rw [List.length_map]
              exact Nat.le_trans (List.length_filter_le _ _) (by simp)
            omega
          refine s_app (v_var rfl) (v_var rfl) oq6.h hlen ?_
          have e7 := (e6.put oq6 (.lst (us ++ [.ref l])))
          have o7 := o6.other npq (u := .lst (us ++ [.ref l]))
          have oq7 := oq6.put (.lst (us ++ [.ref l]))
          have ol7 := ol6.other nlq.symm (u := .lst (us ++ [.ref l]))
          have ex : Ex B2 (upd B2 l (.lst (pre.map nv))) := .new ol7.b
          refine ⟨_, _, _, _, upd B2 l (.lst (pre.map nv)), us ++ [.ref l], rfl, e7.freeze ol7, eb.trans ex, ?_, oq7.frozen nlq, ?_⟩
          · have e0 : (fl (2 * m) fun x => V.bl (bb (low rows (i + 1) x))) = fl (2 * m) fun x => V.bl (bb (low rows i x ∨ x ∈ pre)) := fl_congr fun x hx => by rw [bb_iff (low_succ D hi hx), horb]
            rw [e0]; exact o7.frozen nlp
          · rw [(ringsTo_succ _ i).1 hleast]
            refine (hus.mono fun u x hx => hx.le ex.le).snoc ?_
            rw [horb]
            exact LN.of upd_same
  · rintro σ' H' ⟨x4, x5, x6, x7, B2, us, rfl, e4, eb, o4, oq4, hus⟩
    -- no place is bare
    refine q_seq (f_LL (B := B2) (v_var rfl) (hv.le e4.bb.le) (fun i σ H2 => ∃ x7, σ = [some v, some b, some (.ref p), some (.ref q), x4, x5, x6, x7] ∧ H2 = H') ⟨x7, rfl, rfl⟩ (fun i σ2 H2 ⟨_, _, h⟩ => by rw [h]; exact e4.le) ?_ ?_)
    · rintro i x r σ2 H2 hr hxr ⟨x7, rfl, rfl⟩
      have hne : r ≠ [] := D.ne r (List.mem_of_getElem? hr)
      have hpos := List.length_pos_iff.mpr hne
      refine s_if (b := false) (a_t (vas (v_eqI (v_lenN (v_var rfl) (hxr.le e4.le)) v_c) (by rw [decide_eq_false]; omega))) (fun h => by cases h) (fun _ => ?_)
      exact ⟨_, rfl, rfl⟩
    · rintro σ2 H2 ⟨x7, rfl, rfl⟩
      exact s_retV (v_var rfl) (k _ _ _ (e4.freeze oq4) (LL.of upd_same (hus.mono fun u x hx => hx.le (Ex.new oq4.b).le)))
end
end Rf
end
section
set_option linter.all false
set_option autoImplicit false
set_option maxRecDepth 100000
set_option maxHeartbeats 1000000
/-! P5: _law_lands. -/
namespace Rf
open PySem L2
section
variable {K : PySem.W.Frag} {σ : St} {H : Hp} {ta tb : TE}
theorem nd_t {p : Prop} [Decidable p] (h : (!decide p) = true) : ¬ p := by simpa using h
theorem nd_f {p : Prop} [Decidable p] (h : (!decide p) = false) : p := by simpa using h
/-- xs + ys, the first one a value, the second one perhaps new -/
theorem n_cat {P P' : V → Hp → Prop} {a : Addr} (ha : Val ta σ H (.ref a)) (hb : VH tb σ H P) (k : ∀ w H', P w H' → ∃ b xs ys, w = .ref b ∧ H' a = some (.lst xs) ∧ H' b = some (.lst ys) ∧ xs.length + ys.length ≤ 100000 ∧ ∀ c, H' c = none → P' (.ref c) (upd H' c (.lst (xs ++ ys)))) :
    VH (tOp rCat ta tb) σ H P' := fun Q q => ha _ (hb _ fun w H' p => by
  obtain ⟨b, xs, ys, rfl, h1, h2, h3, h4⟩ := k w H' p
  exact ⟨a, b, xs, ys, rfl, rfl, h1, h2, Nat.le_trans h3 (by decide), fun c hc => q _ _ (h4 c hc)⟩)
theorem r__law_lands (vs : List V) (H : Hp) (Q : VK) (E : XK) (h : sp_lands K vs H Q E) : t__law_lands K sp_mate (sp_lbeh K) { nx := fun _ H' => Q .non H', rt := Q } (start N__law_lands vs) H := by
  obtain ⟨B, v, rows, m, rfl, hl, hv, D, k⟩ := h
  have I := D.dr.inj
  have P := D.dr.part
  have hm := D.sm
  -- behind = _law_behind(drawing)
  refine q_set (call_lbeh (v_var rfl) hl hv D) ?_
  rintro b H1 ⟨B1, e1, hb⟩
  -- seen = {}, lands = []
  refine q_set n_dict ?_
  rintro w2 H2 ⟨p, hp, rfl, rfl⟩
  have e2 := e1.own hp (o := .dK [])
  have op0 : Own H B1 _ p (.dK []) := Own.of_new e1.hh e1.le hp
  refine q_set (n_lst g_nil (by simp)) ?_
  rintro w3 H3 ⟨q, hq, rfl, rfl⟩
  have e3 := e2.own hq (o := .lst [])
  have oq : Own H B1 _ q (.lst []) := Own.of_new e2.hh e2.le hq
  have npq : p ≠ q := ne_of_none op0.h hq
  have op := op0.other npq (u := .lst [])
  -- for start in range(len(behind))
  have hlenb : Val (tCB rLenD (tCons (tVar 1) tNil)) [some v, some b, some (.ref p), some (.ref q), none, none, none, none] (upd (upd H1 p (.dK [])) q (.lst [])) (nv (2 * m)) := by
    obtain ⟨a, rfl, ha⟩ := hb.le e3.le
    refine fun Q q => v_var rfl _ ⟨a, _, rfl, ha, ?_⟩
    rw [dkv_len, D.len]
    exact q
  refine q_seq (f_rng (n := 2 * m) hlenb (by omega)
    (fun i σ H' => ∃ x4 x5 x6 x7 B2 us ks, σ = [some v, some b, some (.ref p), some (.ref q), x4, x5, x6, x7] ∧ Ext B H B2 H' ∧ Ex B1 B2 ∧ Own H B2 H' p (.dK (dkv ks fun _ => .bl true)) ∧ Own H B2 H' q (.lst us) ∧ Each (LN K B2) us (ringsTo (stp rows) i) ∧
      ks.Nodup ∧ (∀ x ∈ ks, x < 2 * m) ∧ ∀ x, x < 2 * m → (x ∈ ks ↔ low rows i x))
    ⟨none, none, none, none, B1, [], [], rfl, e3, .refl _, op, oq, Each.nil, by simp, by simp, fun x hx => by simp [low]⟩ ?_ ?_)
  · rintro i σ' H' hi ⟨x4, x5, x6, x7, B2, us, ks, rfl, e4, eb, o4, oq4, hus, hn, hlt, hks⟩
    have hb2 := hb.le eb.le
    -- land = []
    refine q_set (n_lst g_nil (by simp)) ?_
    rintro w5 H5 ⟨l, hl5, rfl, rfl⟩
    have e5 := e4.own hl5 (o := .lst [])
    have nlp : p ≠ l := ne_of_none o4.h hl5
    have nlq : q ≠ l := ne_of_none oq4.h hl5
    have ol : Own H B2 _ l (.lst []) := Own.of_new e4.hh e4.le hl5
    have o5 := o4.other nlp (u := .lst [])
    have oq5 := oq4.other nlq (u := .lst [])
    -- end = start
    refine q_setV (v_var rfl) ?_
    have ho := orb_is I hi
    by_cases hlow : low rows i i
    · -- it was seen: nothing
      refine q_seq (f_while (m0 := 0) (fun n σ6 H6 => σ6 = [some v, some b, some (.ref p), some (.ref q), some (nv i), some (.ref l), some (nv i), x7] ∧ H6 = upd H' l (.lst [])) ⟨rfl, rfl⟩ ?_)
      rintro n σ2 H6 ⟨rfl, rfl⟩
      refine ⟨false, a_b (vas (v_nin (v_var rfl) (v_var rfl) (DK.of o5.h)) (by rw [decide_eq_true ((hks i hi).mpr hlow)]; rfl)), fun h => (by cases h), fun _ => ?_⟩
      refine s_if (b := false) (a_t (vas (v_gt (v_lenN (ns := []) (v_var rfl) (LN.of ol.h)) v_c) (by rfl))) (fun h => by cases h) (fun _ => ?_)
      refine ⟨_, _, _, _, B2, us, ks, rfl, e5, eb, o5, oq5, ?_, hn, hlt, fun x hx => ?_⟩
      · rw [(ringsTo_succ _ i).2 ((low_self D hi).mp hlow)]; exact hus
      · rw [hks x hx, low_skip D hi hx hlow]
    · have hleast : least (stp rows) i := Classical.not_not.mp fun z => hlow ((low_self D hi).mpr z)
      -- while end not in seen
      refine q_seq (f_while (m0 := (orb (stp rows) i).length)
        (fun n σ H' => ∃ x7 pre rest cur, σ = [some v, some b, some (.ref p), some (.ref q), some (nv i), some (.ref l), some (nv cur), x7] ∧ Ext B H B2 H' ∧
          Own H B2 H' p (.dK (dkv (ks ++ pre) fun _ => .bl true)) ∧ Own H B2 H' q (.lst us) ∧ Own H B2 H' l (.lst (pre.map nv)) ∧ n = rest.length ∧
          orb (stp rows) i = pre ++ rest ∧ Seg (stp rows) i pre cur ∧ Seg (stp rows) cur rest i)
        ⟨x7, [], orb (stp rows) i, i, rfl, e5, by simpa using o5, oq5, ol, rfl, rfl, rfl, ho.2.2⟩ ?_)
      rintro n σ2 H6 ⟨x7, pre, rest, cur, rfl, e6, o6, oq6, ol6, rfl, horb, hs1, hs2⟩
      have hcur : cur < 2 * m := (seg_lt I hs1 hi).2
      have horblt : ∀ x ∈ orb (stp rows) i, x < 2 * m := fun x hx => orb_mem_lt I hi hx
      have hdis : ∀ x ∈ orb (stp rows) i, x ∉ ks := fun x hx z => low_orb D hi hleast hx ((hks x (horblt x hx)).mp z)
      have hnd : (ks ++ orb (stp rows) i).Nodup := by
        rw [List.nodup_append]
        exact ⟨hn, ho.2.1, fun a ha c hc e => by subst e; exact hdis a hc ha⟩
      have hsz : (ks ++ pre).length ≤ 2 * m := by
        refine nodup_le (hnd.sublist (List.Sublist.append_left (by rw [horb]; exact List.sublist_append_left _ _) _)) fun x hx => ?_
        rcases List.mem_append.mp hx with z | z
        · exact hlt x z
        · exact horblt x (by rw [horb]; simp [z])
      refine ⟨_, a_b (v_nin (v_var rfl) (v_var rfl) (DK.of o6.h)), fun hb' => ?_, fun hb' => ?_⟩
      · have hns : cur ∉ ks ++ pre := nd_t hb'
        cases rest with
        | nil =>
          exfalso
          have : cur = i := hs2
          subst this
          have := orb_self I hi
          rw [horb, List.append_nil] at this
          exact hns (List.mem_append.mpr (.inr this))
        | cons c rest =>
          have hc : cur = c := hs2.1
          subst hc
          refine q_seq (s_putN (f := fun _ => V.bl true) v_c (v_var rfl) (v_var rfl) o6.h hns (by omega) ?_)
          have e7 := e6.put o6 (.dK (dkv (ks ++ pre ++ [cur]) fun _ => V.bl true))
          have o7 := o6.put (.dK (dkv (ks ++ pre ++ [cur]) fun _ => V.bl true))
          have oq7 := oq6.other npq.symm (u := .dK (dkv (ks ++ pre ++ [cur]) fun _ => V.bl true))
          have ol7 := ol6.other nlp.symm (u := .dK (dkv (ks ++ pre ++ [cur]) fun _ => V.bl true))
          have hlen : (pre.map nv).length < 100000 := by
            rw [List.length_append] at hsz
            rw [List.length_map]; omega
          refine q_seq (s_app (v_var rfl) (v_var rfl) ol7.h hlen ?_)
          have e8 := e7.put ol7 (.lst (pre.map nv ++ [nv cur]))
          have ol8 := ol7.put (.lst (pre.map nv ++ [nv cur]))
          have o8 := o7.other nlp (u := .lst (pre.map nv ++ [nv cur]))
          have oq8 := oq7.other nlq (u := .lst (pre.map nv ++ [nv cur]))
          refine s_setV (v := nv (stp rows cur)) (vas (v_get (n := mate cur) (v_var rfl) (hb2.le e8.le) (call_mate (v_var rfl)) ((P.mem _).mpr (mate_lt hcur))) rfl) ?_
          refine ⟨rest.length, by simp, x7, pre ++ [cur], rest, stp rows cur, rfl, e8, ?_, oq8, ?_, rfl, by rw [horb]; simp, Seg.append.mpr ⟨cur, hs1, rfl, rfl⟩, hs2.2⟩
          · rw [← List.append_assoc]; exact o8
          · rw [List.map_append]; exact ol8
      · have hseen : cur ∈ ks ++ pre := nd_f hb'
        have hrest : rest = [] := by
          cases rest with
          | nil => rfl
          | cons c rest =>
            exfalso
            have hc : cur = c := hs2.1
            subst hc
            have hmem : cur ∈ orb (stp rows) i := by rw [horb]; simp
            rcases List.mem_append.mp hseen with z | z
            · exact hdis cur hmem z
            · have hn := ho.2.1
              rw [horb, List.nodup_append] at hn
              exact hn.2.2 cur z cur (by simp) rfl
        subst hrest
        rw [List.append_nil] at horb
        have hpos : 0 < pre.length := List.length_pos_iff.mpr (by rw [← horb]; exact ho.1)
        -- if len(land) > 0: lands.append(land)
        refine s_if (b := true) (a_t (vas (v_gt (v_lenN (ns := pre) (v_var rfl) (LN.of ol6.h)) v_c) (by rw [decide_eq_true]; omega))) (fun _ => ?_) (fun h => by cases h)
        have hlen : us.length < 100000 := by
          rw [hus.1]
          have h2 : (ringsTo (stp rows) i).length ≤ i := by
            unfold ringsTo
            rw [List.length_map]
            exact Nat.le_trans (List.length_filter_le _ _) (by simp)
          omega
        refine s_app (v_var rfl) (v_var rfl) oq6.h hlen ?_
        have e7 := (e6.put oq6 (.lst (us ++ [.ref l])))
        have o7 := o6.other npq (u := .lst (us ++ [.ref l]))
        have oq7 := oq6.put (.lst (us ++ [.ref l]))
        have ol7 := ol6.other nlq.symm (u := .lst (us ++ [.ref l]))
        have ex : Ex B2 (upd B2 l (.lst (pre.map nv))) := .new ol7.b
        refine ⟨_, _, _, _, upd B2 l (.lst (pre.map nv)), us ++ [.ref l], ks ++ pre, rfl, e7.freeze ol7, eb.trans ex, o7.frozen nlp, oq7.frozen nlq, ?_, by rw [← horb]; exact hnd, fun x hx => ?_, fun x hx => ?_⟩
        · rw [(ringsTo_succ _ i).1 hleast]
          refine (hus.mono fun u x hx => hx.le ex.le).snoc ?_
          rw [horb]
          exact LN.of upd_same
        · rcases List.mem_append.mp hx with z | z
          · exact hlt x z
          · exact horblt x (by rw [horb]; exact z)
        · rw [low_succ D hi hx, List.mem_append, hks x hx, horb]
  · rintro σ' H' ⟨x4, x5, x6, x7, B2, us, ks, rfl, e4, eb, o4, oq4, hus, hn, hlt, hks⟩
    obtain ⟨a, ws, rfl, ha, he⟩ := id hv
    have hws : ws.length < 100000 := by have := D.sn; have := he.1; omega
    have hul : us.length ≤ 1000 := by rw [hus.1]; exact D.lfew.sn
    refine s_ret (n_cat (v_var rfl) (n_lcI (fun _ => false) (fun _ => .non) (v_var rfl) (sqL_le ha (e4.bb.le.trans e4.le)) hws (fun _ => rfl) (fun i x H2 hi ex => ?_) (fun i x H2 hi ex hf => by cases hf)) fun w H2 hw => ?_) (P := fun w H2 => ∃ B', Ext B H B' H2 ∧ LL K B' w (landsOf rows m)) fun w H2 ⟨B', e, p⟩ => k w B' H2 e p
    · obtain ⟨r, hr, hxr⟩ := he.getV hi
      have hpos := List.length_pos_iff.mpr (D.ne r (List.mem_of_getElem? hr))
      exact a_t (vas (v_eqI (v_lenN (v_var rfl) (hxr.le ((e4.bb.le.trans e4.le).trans ex.le))) v_c) (by rw [decide_eq_false]; omega))
    · obtain ⟨d, hd, rfl, rfl⟩ := hw
      have nqd : q ≠ d := ne_of_none oq4.h hd
      refine ⟨d, us, [], rfl, by rw [upd_ne nqd]; exact oq4.h, by rw [upd_same]; simp, by simp; omega, fun c hc => ?_⟩
      rw [List.append_nil]
      have e5 := e4.own hd (o := .lst (((List.range ws.length).filter fun _ => false).map fun _ => V.non))
      have e6 := e5.trans (Ext.new e5.le hc (o := .lst us))
      exact ⟨_, e6, LL.of upd_same (hus.mono fun u x hx => hx.le (Ex.new (e5.le.free hc)).le)⟩
end
end Rf
end
section
set_option linter.all false
set_option autoImplicit false
set_option maxRecDepth 100000
set_option maxHeartbeats 1000000
/-! P6: tree_from. -/
namespace Rf
open PySem L2

/-! ### trees that grow -/
theorem Tree.snoc {m : Nat} {s : Nat → Nat} {ok : Nat → Prop} {root : Nat} {T : List (Nat × Nat)} (t : Tree m s ok root T) {e : Nat} (he : e < 2 * m) (h1 : s e ∈ root :: T.map (·.1)) (h2 : s (mate e) ∉ root :: T.map (·.1)) (h3 : ok (mate e)) : Tree m s ok root (T ++ [(s (mate e), mate e)]) := by
  refine ⟨?_, fun i P e2 h => ?_⟩
  · rw [List.map_append, ← List.cons_append, List.nodup_append]
    refine ⟨t.nd, by simp, fun a ha b hb z => ?_⟩
    simp at hb
    subst hb z
    exact h2 ha
  · by_cases hi : i < T.length
    · rw [List.getElem?_append_left hi] at h
      rw [List.take_append_of_le_length (by omega)]
      exact t.step i P e2 h
    · rw [List.getElem?_append_right (by omega)] at h
      have hi2 : i - T.length = 0 := by
        have := (List.getElem?_eq_some_iff.mp h).1
        simp at this; omega
      rw [hi2] at h
      cases h
      refine ⟨mate_lt he, rfl, ?_, h3⟩
      rw [mate_mate, show i = T.length by omega, List.take_left]
      exact h1
/-- what is behind the places (lands) that were looked at -/
def Looked (L : List (List Nat)) (s : Nat → Nat) (ok : Nat → Prop) (keys : List Nat) (k : Nat) : Prop := ∀ j P l e, j < k → keys[j]? = some P → L[P]? = some l → e ∈ l → ok e → s (mate e) ∈ keys
theorem Looked.grow {L : List (List Nat)} {s : Nat → Nat} {ok : Nat → Prop} {keys : List Nat} {k : Nat} (h : Looked L s ok keys k) (hk : k ≤ keys.length) (x : List Nat) : Looked L s ok (keys ++ x) k := fun j P l e hj hP hl he ho => by
  rw [List.getElem?_append_left (by omega)] at hP
  exact List.mem_append.mpr (.inl (h j P l e hj hP hl he ho))
theorem tree_len {m : Nat} {L : List (List Nat)} {nx s : Nat → Nat} {ok : Nat → Prop} {root : Nat} {T : List (Nat × Nat)} (t : Tree m s ok root T) (P : Part m L nx s) (hr : root < L.length) : (root :: T.map (·.1)).length ≤ L.length ∧ ∀ x ∈ root :: T.map (·.1), x < L.length := by
  have h : ∀ x ∈ root :: T.map (·.1), x < L.length := fun x hx => by
    rcases List.mem_cons.mp hx with z | z
    · rw [z]; exact hr
    · obtain ⟨⟨Q, e⟩, hp, hpe⟩ := List.mem_map.mp z
      obtain ⟨i, hi⟩ := List.mem_iff_getElem?.mp hp
      obtain ⟨h1, h2, _⟩ := t.step i Q e hi
      have hpe : Q = x := hpe
      rw [← hpe, ← h2]
      exact P.s_lt h1
  exact ⟨nodup_le t.nd h, h⟩
/-- what the dict of a tree tells -/
def tv (root : Nat) (T : List (Nat × Nat)) (n : Nat) : V := if n = root then .int (-1) else match T.lookup n with | some e => nv e | none => .non
theorem lk_eq {T : List (Nat × Nat)} {P e n : Nat} (h : n = P) : ((P, e) :: T).lookup n = some e := by
  rw [List.lookup_cons, show (n == P) = true by simpa using h]
theorem lk_ne {T : List (Nat × Nat)} {P e n : Nat} (h : n ≠ P) : ((P, e) :: T).lookup n = T.lookup n := by
  rw [List.lookup_cons, show (n == P) = false by simpa using h]
theorem lookup_snoc {P e n : Nat} : ∀ {T : List (Nat × Nat)}, P ∉ T.map (·.1) → (T ++ [(P, e)]).lookup n = if n = P then some e else T.lookup n
  | [], _ => by
    by_cases z : n = P
    · rw [if_pos z]; exact lk_eq z
    · rw [if_neg z]; exact lk_ne z
  | (P', e') :: T, h => by
    simp only [List.map_cons, List.mem_cons, not_or] at h
    have ih := lookup_snoc (e := e) (n := n) h.2
    show ((P', e') :: (T ++ [(P, e)])).lookup n = _
    by_cases w : n = P'
    · rw [lk_eq w, lk_eq w, if_neg (by rw [w]; exact fun z => h.1 z.symm)]
    · rw [lk_ne w, lk_ne w, ih]
theorem tv_root (root : Nat) (T : List (Nat × Nat)) : tv root T root = .int (-1) := by unfold tv; rw [if_pos rfl]
theorem tv_old {root : Nat} {T : List (Nat × Nat)} {P e n : Nat} (h : P ∉ T.map (·.1)) (hn : n ≠ P) : tv root (T ++ [(P, e)]) n = tv root T n := by
  unfold tv
  rw [lookup_snoc h, if_neg hn]
theorem tv_new {root : Nat} {T : List (Nat × Nat)} {P e : Nat} (h : P ∉ root :: T.map (·.1)) : tv root (T ++ [(P, e)]) P = nv e := by
  simp only [List.mem_cons, not_or] at h
  unfold tv
  rw [lookup_snoc h.2, if_neg h.1, if_pos rfl]
theorem tv_at {m : Nat} {s : Nat → Nat} {ok : Nat → Prop} {root : Nat} {T : List (Nat × Nat)} (t : Tree m s ok root T) {i P e : Nat} (h : T[i]? = some (P, e)) : tv root T P = nv e := by
  have hn := (List.nodup_cons.mp t.nd).2
  have key : ∀ {T : List (Nat × Nat)} {i : Nat}, T[i]? = some (P, e) → (T.map (·.1)).Nodup → T.lookup P = some e := by
    intro T
    induction T with
    | nil => intro i h; simp at h
    | cons p T ih =>
      intro i h hn
      rw [List.map_cons, List.nodup_cons] at hn
      obtain ⟨P', e'⟩ := p
      cases i with
      | zero =>
        cases Option.some.inj h
        exact lk_eq rfl
      | succ i =>
        have h2 : T[i]? = some (P, e) := h
        have hm : P ∈ T.map (·.1) := List.mem_map.mpr ⟨(P, e), List.mem_of_getElem? h2, rfl⟩
        rw [lk_ne fun z => hn.1 (by dsimp only; rw [← z]; exact hm)]
        exact ih h2 hn.2
  have hl := key h hn
  unfold tv
  rw [if_neg (t.ne_root h), hl]
/-- the dict of a tree -/
def td (root : Nat) (T : List (Nat × Nat)) : List (Key × V) := dkv (root :: T.map (·.1)) (tv root T)
theorem td_snoc {root : Nat} {T : List (Nat × Nat)} {P e : Nat} (h : P ∉ root :: T.map (·.1)) : putK (td root T) (ki P) (nv e) = td root (T ++ [(P, e)]) := by
  have h2 : P ∉ T.map (·.1) := fun z => h (by simp [z])
  unfold td
  rw [dkv_congr (g := tv root (T ++ [(P, e)])) fun n hn => (tv_old h2 fun z => h (by rw [← z]; exact hn)).symm]
  have := dkv_new (f := tv root (T ++ [(P, e)])) h
  rw [tv_new h] at this
  rw [this, List.map_append]; rfl
section
variable {K : PySem.W.Frag} {σ : St} {B H : Hp} {ta tb te : TE}
/-- the value of drawing[i], its row told -/
theorem v_row {a : V} {xss : List (List Nat)} {j : Nat} {xs : List Nat} (ha : Val ta σ H a) (hl : Le B H) (hs : LL K B a xss) (hb : Val tb σ H (nv j)) (hj : xss[j]? = some xs) : ∃ w, Val (tOp (rIxL K) ta tb) σ H w ∧ LN K B w xs := by
  obtain ⟨p, vs, rfl, hp, he⟩ := hs
  obtain ⟨w, hw, hlw⟩ := he.get hj
  exact ⟨w, v_ixL ha hb (sqL_le hp hl) hw, hlw⟩

/-! ### tree_from -/
def sp_tree (K : PySem.W.Frag) : Sp := fun vs H Q _ => ∃ B v rows m root, vs = [v, nv root] ∧ Le B H ∧ LL K B v rows ∧ Dw rows m ∧ root < rows.length ∧
  ∀ p B' H' T, Ext B H B' H' → PTree rows m root T → B' p = some (.dK (td root T)) → H' p = some (.dK (td root T)) → B p = none → H p = none → Q (.ref p) H'
theorem call_tree {B H : Hp} {v : V} {rows : List (List Nat)} {m root : Nat} (h : Val ta σ H v) (h2 : Val tb σ H (nv root)) (l : Le B H) (hv : LL K B v rows) (D : Dw rows m) (hr : root < rows.length) :
    VH (tCall (sp_tree K) [] E0 (tCons ta (tCons tb tNil))) σ H fun w H' => ∃ p B' T, w = .ref p ∧ Ext B H B' H' ∧ PTree rows m root T ∧ B' p = some (.dK (td root T)) ∧ H' p = some (.dK (td root T)) ∧ B p = none ∧ H p = none :=
  c_call (g_cons h (g_cons h2 g_nil)) fun Q q => ⟨B, v, rows, m, root, rfl, l, hv, D, hr, fun p B' H' T e t h1 h2 h3 h4 => q _ H' ⟨p, B', T, rfl, e, t, h1, h2, h3, h4⟩⟩
theorem r_tree_from (vs : List V) (H : Hp) (Q : VK) (E : XK) (h : sp_tree K vs H Q E) : t_tree_from K sp_mate (sp_seats K) { nx := fun _ H' => Q .non H', rt := Q } (start N_tree_from vs) H := by
  obtain ⟨B, v, rows, m, root, rfl, hl, hv, D, hr, k⟩ := h
  have P := D.dr.part
  have hm := D.sm
  have hsn := D.sn
  -- seats = seats_of(drawing)
  refine q_set (call_seats (v_var rfl) hl hv D) ?_
  rintro b H1 ⟨B1, e1, hb⟩
  have hv1 := hv.le e1.bb.le
  -- nearer = {root: -1}; waiting = [root]; at = 0
  refine q_set (n_disp1 (k := ki root) (v := .int (-1)) (fun H' _ => v_var rfl) (fun H' _ => v_neg v_c)) ?_
  rintro w2 H2 ⟨p, hp, rfl, rfl⟩
  have ht0 : [(ki root, V.int (-1))] = td root [] := by
    show _ = [(ki root, tv root [] root)]
    rw [tv_root]
  rw [ht0]
  have e2 := e1.own hp (o := .dK (td root []))
  have op0 : Own H B1 _ p (.dK (td root [])) := Own.of_new e1.hh e1.le hp
  refine q_set (n_lst (g_cons (v_var rfl) g_nil) (by simp)) ?_
  rintro w3 H3 ⟨q, hq, rfl, rfl⟩
  have hq : (upd H1 p (.dK (td root []))) q = none := hq
  have e3 := e2.own hq (o := .lst [nv root])
  have oq0 : Own H B1 _ q (.lst [nv root]) := Own.of_new e2.hh e2.le hq
  have npq : p ≠ q := ne_of_none op0.h hq
  have op := op0.other npq (u := .lst [nv root])
  have hB0 : B p = none := (Le.trans (Ex.le (e1.bb)) (Le.refl _)).free op0.b
  refine q_setV v_c ?_
  -- while at < len(waiting)
  refine q_seq (f_while (m0 := rows.length + 1)
    (fun n σ H' => ∃ (k : Nat) (x6 x7 : Option V) (T : List (Nat × Nat)), σ = [some v, some (nv root), some b, some (.ref p), some (.ref q), some (nv k), x6, x7] ∧ Ext B H B1 H' ∧ Own H B1 H' p (.dK (td root T)) ∧ Own H B1 H' q (.lst ((root :: T.map (·.1)).map nv)) ∧
      Tree m (seat rows) (fun _ => True) root T ∧ k ≤ (root :: T.map (·.1)).length ∧ Looked rows (seat rows) (fun _ => True) (root :: T.map (·.1)) k ∧ n = rows.length + 1 - k)
    ⟨0, none, none, [], rfl, e3, op, oq0, ⟨by simp, fun i P e h => by simp at h⟩, Nat.zero_le _, fun j P l e hj => by omega, rfl⟩ ?_)
  rintro n σ4 H4 ⟨c, x6, x7, T, rfl, e4, o4, oq4, t, hc, hlk, rfl⟩
  obtain ⟨htl, hkl⟩ := tree_len t P hr
  refine ⟨decide (c < (root :: T.map (·.1)).length), a_t (vas (v_lt (v_var rfl) (v_lenN (v_var rfl) (LN.of oq4.h))) (by congr 1; simp only [decide_eq_decide]; omega)), fun hb' => ?_, fun hb' => ?_⟩
  · have hcl : c < (root :: T.map (·.1)).length := of_decide_eq_true hb'
    have hkey : (root :: T.map (·.1))[c]? = some (root :: T.map (·.1))[c] := List.getElem?_eq_getElem hcl
    have hPm := List.getElem_mem hcl
    have hPl := hkl _ hPm
    obtain ⟨r, hrow⟩ : ∃ r, rows[(root :: T.map (·.1))[c]]? = some r := ⟨_, List.getElem?_eq_getElem hPl⟩
    have hrm := List.mem_of_getElem? hrow
    -- for end in drawing[waiting[at]]
    obtain ⟨w, hw, hwl⟩ := v_row (σ := [some v, some (nv root), some b, some (.ref p), some (.ref q), some (nv c), x6, x7]) (ta := tVar 0) (tb := tOp (rIxL K) (tVar 4) (tVar 5)) (v_var rfl) e4.le hv1 (v_ixN (v_var rfl) (LN.of oq4.h) (v_var rfl) hkey) hrow
    refine q_seq (f_LN (B := B1) hw hwl
      (fun j σ H' => ∃ (x6 x7 : Option V) (T' : List (Nat × Nat)), σ = [some v, some (nv root), some b, some (.ref p), some (.ref q), some (nv c), x6, x7] ∧ Ext B H B1 H' ∧ Own H B1 H' p (.dK (td root T')) ∧ Own H B1 H' q (.lst ((root :: T'.map (·.1)).map nv)) ∧
        Tree m (seat rows) (fun _ => True) root T' ∧ (∃ x, root :: T'.map (·.1) = (root :: T.map (·.1)) ++ x) ∧ Looked rows (seat rows) (fun _ => True) (root :: T'.map (·.1)) c ∧ ∀ e ∈ r.take j, seat rows (mate e) ∈ root :: T'.map (·.1))
      ⟨x6, x7, T, rfl, e4, o4, oq4, t, ⟨[], by simp⟩, hlk, by simp⟩ (fun j σ5 H5 ⟨_, _, _, _, e, _⟩ => e.le) ?_ ?_)
    · rintro j e σ5 H5 hej ⟨x6, x7, T', rfl, e5, o5, oq5, t5, ⟨x, hx⟩, hlk5, hall⟩
      have hem := List.mem_of_getElem? hej
      have hlt := P.lt hrm hem
      have hse : seat rows e = (root :: T.map (·.1))[c] := P.num _ _ _ hrow hem
      -- goal = seats[mate_of(end)]
      have hgoal : ((List.range (2 * m)).map (seat rows))[mate e]? = some (seat rows (mate e)) := by
        rw [List.getElem?_map, List.getElem?_range (mate_lt hlt)]; rfl
      refine q_setV (v_ixN (v_var rfl) (hb.le e5.le) (call_mate (v_var rfl)) hgoal) ?_
      refine s_if (a_b (v_nin (n := seat rows (mate e)) (v_var rfl) (v_var rfl) (DK.of o5.h))) (fun hb2 => ?_) (fun hb2 => ?_)
      · have hnew := nd_t hb2
        have hek : seat rows e ∈ root :: T'.map (·.1) := by rw [hse, hx]; exact List.mem_append.mpr (.inl hPm)
        have t6 := t5.snoc hlt hek hnew trivial
        obtain ⟨htl5, _⟩ := tree_len t5 P hr
        refine q_seq (s_dput (k := ki (seat rows (mate e))) (v := nv (mate e)) (call_mate (v_var rfl)) (v_var rfl) (v_var rfl) o5.h (by unfold td; rw [dkv_len]; omega) ?_)
        rw [td_snoc hnew]
        have e6 := e5.put o5 (.dK (td root (T' ++ [(seat rows (mate e), mate e)])))
        have o6 := o5.put (.dK (td root (T' ++ [(seat rows (mate e), mate e)])))
        have oq6 := oq5.other npq.symm (u := .dK (td root (T' ++ [(seat rows (mate e), mate e)])))
        refine s_app (v := nv (seat rows (mate e))) (v_var rfl) (v_var rfl) oq6.h (by rw [List.length_map]; omega) ?_
        have hkeys : (root :: (T' ++ [(seat rows (mate e), mate e)]).map (·.1)) = (root :: T'.map (·.1)) ++ [seat rows (mate e)] := by simp
        refine ⟨_, _, T' ++ [(seat rows (mate e), mate e)], rfl, e6.put oq6 _, o6.other npq, ?_, t6, ⟨x ++ [seat rows (mate e)], by rw [hkeys, hx]; simp⟩, ?_, fun y hy => ?_⟩
        · rw [hkeys, List.map_append]; exact oq6.put _
        · rw [hkeys]; exact hlk5.grow (by rw [hx]; simp at hc ⊢; omega) _
        · rw [hkeys]
          rw [take_snoc hej] at hy
          rcases List.mem_append.mp hy with z | z
          · exact List.mem_append.mpr (.inl (hall y z))
          · rw [List.mem_singleton.mp z]; simp
      · have hold := nd_f hb2
        refine ⟨_, _, T', rfl, e5, o5, oq5, t5, ⟨x, hx⟩, hlk5, fun y hy => ?_⟩
        rw [take_snoc hej] at hy
        rcases List.mem_append.mp hy with z | z
        · exact hall y z
        · rw [List.mem_singleton.mp z]; exact hold
    · rintro σ5 H5 ⟨x6, x7, T', rfl, e5, o5, oq5, t5, ⟨x, hx⟩, hlk5, hall⟩
      rw [List.take_length] at hall
      -- at += 1
      refine s_aug rfl v_c ?_
      refine ⟨rows.length + 1 - (c + 1), by omega, c + 1, x6, x7, T', rfl, e5, o5, oq5, t5, by rw [hx]; simp at hcl ⊢; omega, fun j Q l e hj hQ hl' he ho => ?_, rfl⟩
      by_cases hjc : j = c
      · subst hjc
        rw [hx, List.getElem?_append_left hcl, hkey] at hQ
        have hQ := Option.some.inj hQ
        subst hQ
        rw [hrow] at hl'
        cases hl'
        exact hall e he
      · exact hlk5 j Q l e (by omega) hQ hl' he ho
  · have hcl : (root :: T.map (·.1)).length ≤ c := by have := of_decide_eq_false hb'; omega
    refine s_retV (v_var rfl) (k p _ H4 T (e4.freeze o4) ⟨t, hr, fun e he hs => ?_⟩ upd_same o4.h hB0 o4.h0)
    obtain ⟨j, hj⟩ := List.mem_iff_getElem?.mp hs
    obtain ⟨r, hrow, hem⟩ := P.row he
    exact hlk j _ r e (by have := (List.getElem?_eq_some_iff.mp hj).1; omega) hj hrow hem trivial
end
end Rf
end
section
set_option linter.all false
set_option autoImplicit false
set_option maxRecDepth 100000
set_option maxHeartbeats 1000000
/-! P7: way_up, turned_about, round_along, crossing_by. -/
namespace Rf
open PySem L2
section
variable {K : PySem.W.Frag} {σ : St} {B H : Hp} {ta tb tc te tl : TE}

/-! ### way_up -/
/-- a list that is the caller's own -/
def RetO (B H : Hp) (P : List Nat → Prop) (Q : VK) : Prop := ∀ p B' H' ns, Ext B H B' H' → Own H B' H' p (.lst (ns.map nv)) → P ns → Q (.ref p) H'
/-- ends of m ties, few of them -/
def EndL (m : Nat) (ns : List Nat) : Prop := (∀ n ∈ ns, n < 2 * m) ∧ ns.length ≤ 2000
def sp_way (K : PySem.W.Frag) : Sp := fun vs H Q _ => ∃ B v1 v2 rows m root T P, vs = [v1, v2, nv P] ∧ Le B H ∧ LN K B v1 ((List.range (2 * m)).map (seat rows)) ∧ DK H v2 (root :: T.map (·.1)) (tv root T) ∧ Dw rows m ∧ PTree rows m root T ∧ P ∈ root :: T.map (·.1) ∧ RetO B H (fun ns => (∀ n ∈ ns, n < 2 * m) ∧ ns.length ≤ 500) Q
theorem call_way {v1 v2 : V} {rows : List (List Nat)} {m root P : Nat} {T : List (Nat × Nat)} (h1 : Val ta σ H v1) (h2 : Val tb σ H v2) (h3 : Val tc σ H (nv P)) (l : Le B H) (hs : LN K B v1 ((List.range (2 * m)).map (seat rows))) (hn : DK H v2 (root :: T.map (·.1)) (tv root T)) (D : Dw rows m) (t : PTree rows m root T) (hP : P ∈ root :: T.map (·.1)) :
    VH (tCall (sp_way K) [] E0 (tCons ta (tCons tb (tCons tc tNil)))) σ H fun w H' => ∃ (p : Addr) (B' : Hp) (ns : List Nat), w = .ref p ∧ Ext B H B' H' ∧ Own H B' H' p (.lst (ns.map nv)) ∧ (∀ n ∈ ns, n < 2 * m) ∧ ns.length ≤ 500 :=
  c_call (g_cons h1 (g_cons h2 (g_cons h3 g_nil))) fun Q q => ⟨B, v1, v2, rows, m, root, T, P, rfl, l, hs, hn, D, t, hP, fun p B' H' ns e o h => q _ _ ⟨p, B', ns, rfl, e, o, h.1, h.2⟩⟩
theorem r_way_up (vs : List V) (H : Hp) (Q : VK) (E : XK) (h : sp_way K vs H Q E) : t_way_up K sp_mate { nx := fun _ H' => Q .non H', rt := Q } (start N_way_up vs) H := by
  obtain ⟨B, v1, v2, rows, m, root, T, P, rfl, hl, hs, hn, D, t, hP, k⟩ := h
  have Pt := D.dr.part
  have hm := D.sm
  have hsn := D.sn
  have htl : T.length + 1 ≤ rows.length := by simpa using (tree_len t.tree Pt t.hroot).1
  refine q_set (n_lst g_nil (by simp)) ?_
  rintro w1 H1 ⟨p, hp, rfl, rfl⟩
  have e1 := (Ext.refl hl).own hp (o := .lst [])
  have o1 : Own H B _ p (.lst []) := Own.of_new (.refl H) hl hp
  obtain ⟨i0, hi0⟩ := List.mem_iff_getElem?.mp hP
  refine q_seq (f_while (m0 := i0)
    (fun n σ H' => ∃ (x : Nat) (ns : List Nat), σ = [some v1, some v2, some (nv x), some (.ref p)] ∧ Ext B H B H' ∧ Own H B H' p (.lst (ns.map nv)) ∧ (root :: T.map (·.1))[n]? = some x ∧ (∀ y ∈ ns, y < 2 * m) ∧ ns.length + n ≤ i0)
    ⟨P, [], rfl, e1, o1, hi0, by simp, by simp⟩ ?_)
  rintro n σ2 H2 ⟨x, ns, rfl, e2, o2, hx, hlt, hlen⟩
  have hi0l := (List.getElem?_eq_some_iff.mp hi0).1
  have hxm : x ∈ root :: T.map (·.1) := List.mem_of_getElem? hx
  have hn2 := hn.le e2.hh.le
  cases n with
  | zero =>
    have hx0 : root = x := Option.some.inj hx
    subst hx0
    refine ⟨false, a_t (vas (v_ge (i := -1) (vas (v_get (n := root) (v_var rfl) hn2 (v_var rfl) hxm) (tv_root _ _)) v_c) rfl), fun h => (by cases h), fun _ => ?_⟩
    exact s_retV (v_var rfl) (k p B H2 ns e2 o2 ⟨hlt, by simp at hi0l; omega⟩)
  | succ n =>
    have hx2 : (T.map (·.1))[n]? = some x := hx
    rw [List.getElem?_map] at hx2
    obtain ⟨⟨x', e⟩, hTe, hxe⟩ := Option.map_eq_some_iff.mp hx2
    have hxe : x' = x := hxe
    subst hxe
    obtain ⟨he1, he2, he3, _⟩ := t.tree.step n x' e hTe
    have hval : ∀ H', Ex H H' → ∀ (s : St), s[1]? = some (some v2) → s[2]? = some (some (nv x')) → Val (tDGet (tVar 1) (tVar 2)) s H' (nv e) := fun H' ex s h1 h2 => vas (v_get (n := x') (v_var h1) (hn.le ex.le) (v_var h2) hxm) (tv_at t.tree hTe)
    refine ⟨true, a_t (vas (v_ge (i := (e : Int)) (hval H2 e2.hh _ rfl rfl) v_c) (by rw [decide_eq_true]; omega)), fun _ => ?_, fun h => (by cases h)⟩
    refine q_seq (s_app (v_var rfl) (hval H2 e2.hh _ rfl rfl) o2.h (by rw [List.length_map]; simp at hi0l; omega) ?_)
    have e3 := e2.put o2 (.lst (ns.map nv ++ [nv e]))
    have o3 := o2.put (.lst (ns.map nv ++ [nv e]))
    have hgoal : ((List.range (2 * m)).map (seat rows))[mate e]? = some (seat rows (mate e)) := by
      rw [List.getElem?_map, List.getElem?_range (mate_lt he1)]; rfl
    refine s_setV (v_ixN (v_var rfl) (hs.le e3.le) (call_mate (hval _ e3.hh _ rfl rfl)) hgoal) ?_
    -- where it stands in the tree
    obtain ⟨j, hj⟩ := List.mem_iff_getElem?.mp he3
    have hjn : j < n + 1 := by
      have := (List.getElem?_eq_some_iff.mp hj).1
      simp at this; omega
    have hj2 : (root :: T.map (·.1))[j]? = some (seat rows (mate e)) := by
      cases j with
      | zero => exact hj
      | succ j =>
        have hj' : ((T.take n).map (·.1))[j]? = some (seat rows (mate e)) := hj
        rw [List.map_take, List.getElem?_take] at hj'
        split at hj'
        · exact hj'
        · cases hj'
    refine ⟨j, hjn, seat rows (mate e), ns ++ [e], rfl, e3, by rw [List.map_append]; exact o3, hj2, fun y hy => ?_, by simp; omega⟩
    rcases List.mem_append.mp hy with z | z
    · exact hlt y z
    · rw [List.mem_singleton.mp z]; exact he1

/-! ### turned_about -/
theorem n_lcV {P : V → Hp → Prop} {j : Nat} {vs : List Nat} {a : Addr} {xs : List V} (g : V → V) (hl : Val tl σ H (.ref a)) (hx : SqL K H a xs) (hz : xs.length < 100000) (hw : ∀ x, wipe ((wipe σ vs).set j (some x)) vs = wipe σ vs)
    (he : ∀ x H', x ∈ xs → Ex H H' → Val te ((wipe σ vs).set j (some x)) H' (g x)) :
    VH (tLc (iRev K (tCons tl tNil)) (gName j) tYes te vs) σ H fun w H' => ∃ D, H D = none ∧ w = .ref D ∧ H' = upd H D (.lst (xs.reverse.map g)) := fun Q q =>
  hl _ ⟨a, xs, rfl, hx, fun D hD => by
    refine ⟨fun i m H' => m = xs.length - i ∧ i ≤ xs.length ∧ H' = upd H D (.lst ((xs.reverse.take i).map g)), ⟨xs.length, by simp, Nat.zero_le _, rfl⟩, ?_⟩
    rintro i m H' ⟨rfl, hi, rfl⟩
    have hs : ∀ o, SqL K (upd H D o) a xs := fun o => sqL_le hx (Ex.new hD).le
    by_cases hlt : i < xs.length
    · have hb : xs.length - 1 - i < xs.length := by omega
      refine .inr ⟨⟨hlt, xs, xs[xs.length - 1 - i], hs _, List.getElem?_eq_getElem hb⟩, fun H2 => H2 = upd H D (.lst ((xs.reverse.take (i + 1)).map g)), fun H2 p2 => ⟨xs.length - (i + 1), by omega, rfl, hlt, p2⟩, fun x H2 hy => ?_⟩
      obtain ⟨rfl, hat⟩ := hy
      have hx' := hat xs (hs _)
      have hrev : xs.reverse[i]? = some x := by rw [List.getElem?_reverse hlt]; exact hx'
      refine ⟨hw x, ?_⟩
      unfold tYes
      refine iteT (he x _ (List.mem_of_getElem? hx') (.new hD) _ ⟨_, upd_same, ?_, ?_⟩)
      · rw [List.length_map, List.length_take, List.length_reverse]
        exact Nat.lt_of_le_of_lt (Nat.min_le_right _ _) (Nat.lt_of_lt_of_le hz (by decide))
      · rw [upd_upd, take_snoc hrev, List.map_append]; rfl
    · have e : i = xs.length := by omega
      refine .inl ⟨by show xs.length ≤ i; omega, q _ _ ⟨D, hD, rfl, ?_⟩⟩
      rw [List.take_of_length_le (by rw [List.length_reverse]; omega)]⟩
def sp_turned (K : PySem.W.Frag) : Sp := fun vs H Q _ => ∃ B v ns, vs = [v] ∧ Le B H ∧ LN K B v ns ∧ ns.length ≤ 2000 ∧ ∀ p H', Ext B H (upd B p (.lst ((ns.reverse.map mate).map nv))) H' → H' p = some (.lst ((ns.reverse.map mate).map nv)) → H p = none → Q (.ref p) H'
theorem call_turned {v : V} {ns : List Nat} (h : Val te σ H v) (l : Le B H) (hs : LN K B v ns) (hz : ns.length ≤ 2000) :
    VH (tCall (sp_turned K) [] E0 (tCons te tNil)) σ H fun w H' => ∃ p, w = .ref p ∧ Ext B H (upd B p (.lst ((ns.reverse.map mate).map nv))) H' ∧ H' p = some (.lst ((ns.reverse.map mate).map nv)) ∧ H p = none :=
  c_call (g_cons h g_nil) fun Q q => ⟨B, v, ns, rfl, l, hs, hz, fun p H' e h1 h2 => q _ _ ⟨p, rfl, e, h1, h2⟩⟩
theorem r_turned_about (vs : List V) (H : Hp) (Q : VK) (E : XK) (h : sp_turned K vs H Q E) : t_turned_about K sp_mate { nx := fun _ H' => Q .non H', rt := Q } (start N_turned_about vs) H := by
  obtain ⟨B, v, ns, rfl, hl, hs, hz, k⟩ := h
  obtain ⟨a, rfl, ha⟩ := hs
  refine s_ret (n_lcV (P := fun _ _ => True) (fun x => match x with | .int z => nv (mate z.toNat) | _ => .non) (v_var rfl) (sqL_le ha hl) (by rw [List.length_map]; omega) (fun _ => rfl) fun x H' hx _ => ?_) ?_
  · obtain ⟨n, _, rfl⟩ := List.mem_map.mp hx
    refine vas (call_mate (e := n) (v_var rfl)) ?_
    show nv (mate n) = nv (mate (n : Int).toNat)
    rw [Int.toNat_natCast]
  · rintro w H' ⟨p, hp, rfl, rfl⟩
    have e1 : (ns.map nv).reverse.map (fun x => match x with | .int z => nv (mate z.toNat) | _ => .non) = (ns.reverse.map mate).map nv := by
      rw [← List.map_reverse, List.map_map, List.map_map]
      refine List.map_congr_left fun n _ => ?_
      show nv (mate (n : Int).toNat) = nv (mate n)
      rw [Int.toNat_natCast]
    rw [e1]
    exact k p _ (Ext.new hl hp) upd_same hp

/-! ### crossing_by -/
def sp_crossing (K : PySem.W.Frag) : Sp := fun vs H Q _ => ∃ B v1 v2 cs ns m, vs = [v1, v2] ∧ Le B H ∧ LI K B v1 cs ∧ cs.length = 2 * m ∧ LN K B v2 ns ∧ EndL m ns ∧ ∀ z B' H', Ext B H B' H' → Q (.int z) H'
theorem call_crossing {v1 v2 : V} {cs : List Int} {ns : List Nat} {m : Nat} (h1 : Val ta σ H v1) (h2 : Val tb σ H v2) (l : Le B H) (hc : LI K B v1 cs) (hl : cs.length = 2 * m) (hs : LN K B v2 ns) (he : EndL m ns) :
    VH (tCall (sp_crossing K) [] E0 (tCons ta (tCons tb tNil))) σ H fun w H' => ∃ z B', w = .int z ∧ Ext B H B' H' :=
  c_call (g_cons h1 (g_cons h2 g_nil)) fun Q q => ⟨B, v1, v2, cs, ns, m, rfl, l, hc, hl, hs, he, fun z B' H' e => q _ _ ⟨z, B', rfl, e⟩⟩
theorem r_crossing_by (vs : List V) (H : Hp) (Q : VK) (E : XK) (h : sp_crossing K vs H Q E) : t_crossing_by K sp_mate { nx := fun _ H' => Q .non H', rt := Q } (start N_crossing_by vs) H := by
  obtain ⟨B, v1, v2, cs, ns, m, rfl, hl, hc, hcl, hs, he, k⟩ := h
  obtain ⟨a, rfl, ha⟩ := id hs
  refine s_ret (n_sum (n_lc (fun _ => true) (fun x => match x with | .int z => .int (cs.getD z.toNat 0 - cs.getD (mate z.toNat) 0) | _ => .non) (v_var rfl) (sqL_le ha hl) (by have := he.2; rw [List.length_map]; omega) (fun _ => rfl) (fun x H' _ _ => a_yes) fun x H' hx e _ => ?_) fun w H' hw => ?_)
    (P := fun w H' => ∃ z B', w = .int z ∧ Ext B H B' H') fun w H' ⟨z, B', ew, e⟩ => by rw [ew]; exact k z B' H' e
  · obtain ⟨n, hn, rfl⟩ := List.mem_map.mp hx
    have hlt := he.1 n hn
    have h1 : cs[n]? = some (cs.getD n 0) := by rw [List.getD_eq_getElem?_getD, List.getElem?_eq_getElem (by omega)]; rfl
    have h2 : cs[mate n]? = some (cs.getD (mate n) 0) := by rw [List.getD_eq_getElem?_getD, List.getElem?_eq_getElem (by have := mate_lt hlt; omega)]; rfl
    refine vas (v_sub (v_ixI (j := n) (v_var rfl) (hc.le (hl.trans e.le)) (v_var rfl) h1) (v_ixI (v_var rfl) (hc.le (hl.trans e.le)) (call_mate (v_var rfl)) h2)) ?_
    show _ = V.int (cs.getD (n : Int).toNat 0 - cs.getD (mate (n : Int).toNat) 0)
    rw [Int.toNat_natCast]
  · obtain ⟨d, hd, rfl, rfl⟩ := hw
    have e1 : ((ns.map nv).filter fun _ => true).map (fun x => match x with | .int z => V.int (cs.getD z.toNat 0 - cs.getD (mate z.toNat) 0) | _ => .non) = (ns.map fun n => cs.getD n 0 - cs.getD (mate n) 0).map V.int := by
      rw [show (ns.map nv).filter (fun _ => true) = ns.map nv from List.filter_eq_self.mpr fun _ _ => rfl, List.map_map, List.map_map]
      refine List.map_congr_left fun n _ => ?_
      show V.int (cs.getD (n : Int).toNat 0 - cs.getD (mate (n : Int).toNat) 0) = _
      rw [Int.toNat_natCast]; rfl
    exact ⟨d, ns.map fun n => cs.getD n 0 - cs.getD (mate n) 0, rfl, .of (by rw [upd_same, e1]), _, _, rfl, Ext.new hl hd⟩

/-! ### round_along -/
def sp_round (K : PySem.W.Frag) : Sp := fun vs H Q _ => ∃ B v1 v2 rows m root T e, vs = [v1, v2, nv e] ∧ Le B H ∧ LN K B v1 ((List.range (2 * m)).map (seat rows)) ∧ DK H v2 (root :: T.map (·.1)) (tv root T) ∧ Dw rows m ∧ PTree rows m root T ∧ e < 2 * m ∧ seat rows e ∈ root :: T.map (·.1) ∧ Ret B H (fun w B' => ∃ ns, LN K B' w ns ∧ EndL m ns) Q
theorem call_round {v1 v2 : V} {rows : List (List Nat)} {m root e : Nat} {T : List (Nat × Nat)} (h1 : Val ta σ H v1) (h2 : Val tb σ H v2) (h3 : Val tc σ H (nv e)) (l : Le B H) (hs : LN K B v1 ((List.range (2 * m)).map (seat rows))) (hn : DK H v2 (root :: T.map (·.1)) (tv root T)) (D : Dw rows m) (t : PTree rows m root T) (he : e < 2 * m) (hk : seat rows e ∈ root :: T.map (·.1)) :
    VH (tCall (sp_round K) [] E0 (tCons ta (tCons tb (tCons tc tNil)))) σ H fun w H' => ∃ B' ns, Ext B H B' H' ∧ LN K B' w ns ∧ EndL m ns :=
  c_call (g_cons h1 (g_cons h2 (g_cons h3 g_nil))) fun Q q => ⟨B, v1, v2, rows, m, root, T, e, rfl, l, hs, hn, D, t, he, hk, fun w B' H' e ⟨ns, h1, h2⟩ => q w H' ⟨B', ns, e, h1, h2⟩⟩
theorem r_round_along (vs : List V) (H : Hp) (Q : VK) (E : XK) (h : sp_round K vs H Q E) : t_round_along K (sp_turned K) (sp_way K) sp_mate { nx := fun _ H' => Q .non H', rt := Q } (start N_round_along vs) H := by
  obtain ⟨B, v1, v2, rows, m, root, T, e, rfl, hl, hs, hn, D, t, he, hk, k⟩ := h
  have Pt := D.dr.part
  have hg : ∀ x, x < 2 * m → ((List.range (2 * m)).map (seat rows))[x]? = some (seat rows x) := fun x hx => by
    rw [List.getElem?_map, List.getElem?_range hx]; rfl
  -- out, back
  refine q_set (call_way (v_var rfl) (v_var rfl) (v_ixN (v_var rfl) (hs.le hl) (call_mate (v_var rfl)) (hg _ (mate_lt he))) hl hs hn D t (t.closed e he hk)) ?_
  rintro w1 H1 ⟨p, B1, n1, rfl, e1, o1, hl1, hz1⟩
  refine q_set (call_way (B := B1) (v_var rfl) (v_var rfl) (v_ixN (v_var rfl) (hs.le (e1.bb.le.trans e1.le)) (v_var rfl) (hg _ he)) e1.le (hs.le e1.bb.le) (hn.le e1.hh.le) D t hk) ?_
  rintro w2 H2 ⟨q, B2, n2, rfl, e2, o2, hl2, hz2⟩
  have o1' := o1.ext e2
  have e12 := e1.trans e2
  have oq : Own H B2 H2 q (.lst (n2.map nv)) := ⟨e1.hh.free o2.h0, o2.b, o2.h⟩
  have npq : p ≠ q := fun z => by have := o2.h0; rw [← z, o1.h] at this; cases this
  -- while len(out) > 0 and len(back) > 0 and out[-1] == back[-1]
  refine q_seq (f_while (m0 := n1.length)
    (fun n σ H' => ∃ (x y : List Nat), σ = [some v1, some v2, some (nv e), some (.ref p), some (.ref q)] ∧ Ext B H B2 H' ∧ Own H B2 H' p (.lst (x.map nv)) ∧ Own H B2 H' q (.lst (y.map nv)) ∧ (∀ z ∈ x, z < 2 * m) ∧ (∀ z ∈ y, z < 2 * m) ∧ x.length ≤ 500 ∧ y.length ≤ 500 ∧ n = x.length)
    ⟨n1, n2, rfl, e12, o1', oq, hl1, hl2, hz1, hz2, rfl⟩ ?_)
  rintro n σ3 H3 ⟨x, y, rfl, e3, o3, oq3, hx, hy, hxz, hyz, rfl⟩
  have a1 : Ans (tTest (tOp rGtI (tCB (rLenS K) (tCons (tVar 3) tNil)) (tC (.int 0)))) [some v1, some v2, some (nv e), some (.ref p), some (.ref q)] H3 (decide (0 < x.length)) :=
    a_t (vas (v_gt (v_lenN (v_var rfl) (LN.of o3.h)) v_c) (by congr 1; simp only [decide_eq_decide]; omega))
  have a2 : Ans (tTest (tOp rGtI (tCB (rLenS K) (tCons (tVar 4) tNil)) (tC (.int 0)))) [some v1, some v2, some (nv e), some (.ref p), some (.ref q)] H3 (decide (0 < y.length)) :=
    a_t (vas (v_gt (v_lenN (v_var rfl) (LN.of oq3.h)) v_c) (by congr 1; simp only [decide_eq_decide]; omega))
  have last : ∀ l : List Nat, 0 < l.length → ∃ i z, l = i ++ [z] := fun l h => ⟨l.dropLast, l.getLast (List.length_pos_iff.mp h), (List.dropLast_concat_getLast _).symm⟩
  have fin : ∀ H4, H4 = H3 → tRet (tOp rCat (tOp rCat (tLst (tCons (tVar 2) tNil)) (tVar 3)) (tCall (sp_turned K) [] E0 (tCons (tVar 4) tNil))) { nx := fun _ H' => Q .non H', rt := Q } [some v1, some v2, some (nv e), some (.ref p), some (.ref q)] H4 := by
    rintro H4 rfl
    -- [end] + out + turned_about(back)
    have hv2 : Arg (tCons (tVar 2) tNil) [some v1, some v2, some (nv e), some (.ref p), some (.ref q)] H4 [nv e] := g_cons (v_var rfl) g_nil
    unfold tRet tOp
    refine n_lst hv2 (by simp) _ fun w5 H5 hw5 => ?_
    obtain ⟨l, hl5, rfl, rfl⟩ := hw5
    have npl : p ≠ l := ne_of_none o3.h hl5
    have nql : q ≠ l := ne_of_none oq3.h hl5
    have e5 := e3.own hl5 (o := .lst [nv e])
    refine v_var rfl _ ⟨l, p, [nv e], x.map nv, rfl, rfl, upd_same, by rw [upd_ne npl]; exact o3.h, Nat.le_trans (by simp; omega : _ ≤ 100000) (by decide), fun c hc => ?_⟩
    have hc : (upd H4 l (.lst [nv e])) c = none := hc
    have e6 := e5.own hc (o := .lst ([nv e] ++ x.map nv))
    have nqc : q ≠ c := fun z => by rw [← z, upd_ne nql, oq3.h] at hc; cases hc
    have oq6 := (oq3.other nql (u := .lst [nv e])).other nqc (u := .lst ([nv e] ++ x.map nv))
    have e7 := e6.freeze oq6
    refine call_turned (B := upd B2 q (.lst (y.map nv))) (v_var rfl) e7.le (LN.of upd_same) (by omega) _ fun w8 H8 ⟨d, ew, e8, h8, _⟩ => ?_
    subst ew
    have hcc : H8 c = some (.lst ([nv e] ++ x.map nv)) := e8.hh c _ upd_same
    refine ⟨c, d, [nv e] ++ x.map nv, (y.reverse.map mate).map nv, rfl, rfl, hcc, h8, Nat.le_trans (by simp; omega : _ ≤ 100000) (by decide), fun f hf => ?_⟩
    have e9 := e7.trans e8
    have e10 := e9.trans (Ext.new e9.le hf (o := .lst ([nv e] ++ x.map nv ++ (y.reverse.map mate).map nv)))
    refine k _ _ _ e10 ⟨[e] ++ x ++ y.reverse.map mate, LN.of (by rw [upd_same]; simp), fun z hz => ?_, by simp; omega⟩
    rcases List.mem_append.mp hz with w | w
    · rcases List.mem_append.mp w with w | w
      · rw [List.mem_singleton.mp w]; exact he
      · exact hx z w
    · obtain ⟨u, hu, rfl⟩ := List.mem_map.mp w
      exact mate_lt (hy u (List.mem_reverse.mp hu))
  by_cases hx0 : 0 < x.length
  · by_cases hy0 : 0 < y.length
    · obtain ⟨xi, xz, rfl⟩ := last x hx0
      obtain ⟨yi, yz, rfl⟩ := last y hy0
      have hpx : H3 p = some (.lst (xi.map nv ++ [nv xz])) := by rw [o3.h, List.map_append]; rfl
      have hqy : H3 q = some (.lst (yi.map nv ++ [nv yz])) := by rw [oq3.h, List.map_append]; rfl
      refine ⟨_, a_and a1 fun _ => a_and a2 fun _ => a_t (v_eqI (v_lastL (v := nv xz) (v_var rfl) (.of hpx)) (v_lastL (v := nv yz) (v_var rfl) (.of hqy))), fun hb => ?_, fun hb => fin _ rfl⟩
      refine q_seq (n_pop (v_var rfl) hpx _ fun w5 H5 ⟨_, eH⟩ => ?_)
      subst eH
      have o5 := o3.put (.lst (xi.map nv))
      have e5 := e3.put o3 (.lst (xi.map nv))
      have oq5 := oq3.other npq.symm (u := .lst (xi.map nv))
      have hqy2 : (upd H3 p (.lst (xi.map nv))) q = some (.lst (yi.map nv ++ [nv yz])) := by rw [upd_ne npq.symm]; exact hqy
      refine n_pop (v_var rfl) hqy2 _ fun w6 H6 ⟨_, eH⟩ => ?_
      subst eH
      exact ⟨xi.length, by simp, xi, yi, rfl, e5.put oq5 _, o5.other npq, oq5.put _, fun z hz => hx z (by simp [hz]), fun z hz => hy z (by simp [hz]), by simp at hxz; omega, by simp at hyz; omega, rfl⟩
    · refine ⟨_, a_and a1 fun _ => a_and (b := false) a2 fun h => absurd (of_decide_eq_true h) hy0, fun hb => ?_, fun hb => fin _ rfl⟩
      rw [decide_eq_false hy0] at hb
      simp at hb
  · refine ⟨_, a_and (b := false) a1 fun h => absurd (of_decide_eq_true h) hx0, fun hb => ?_, fun hb => fin _ rfl⟩
    rw [decide_eq_false hx0] at hb
    simp at hb
end
end Rf
end
section
set_option linter.all false
set_option autoImplicit false
set_option maxRecDepth 100000
set_option maxHeartbeats 1000000
/-! P8: land_tree, left_ties, both_trees. -/
namespace Rf
open PySem L2
section
variable {K : PySem.W.Frag} {σ : St} {B H : Hp} {ta tb tc te tl : TE} {D : Ends}

/-! ### for end in d.values(): inside[end // 2] = True -/
theorem lock_put {p q : Addr} {o w y : HO} {od : Obj} (n : p ≠ q) (hp : H p = some o) : upd (upd (upd H p (.frz od o)) q y) p o = upd H q y := by
  funext a
  by_cases h1 : a = p
  · subst h1; rw [upd_same, upd_ne n, hp]
  · by_cases h2 : a = q
    · subst h2; rw [upd_ne h1, upd_same, upd_same]
    · rw [upd_ne h1, upd_ne h2, upd_ne h1, upd_ne h2]
theorem f_halves {pd pi : Addr} {kvs k0 : List (Key × V)} {a i j : Nat} (ha : σ[a]? = some (some (.ref pd))) (hi : σ[i]? = some (some (.ref pi))) (hja : j ≠ a) (hji : j ≠ i) (hj : j < σ.length) (n : pd ≠ pi)
    (hd : H pd = some (.dK kvs)) (ho : H pi = some (.dK k0)) (hz : ∀ kv ∈ kvs, ∃ z, kv.2 = V.int z) (hl : k0.length + kvs.length ≤ 2000)
    (k : ∀ y k1, (∀ n : Nat, (valV k1 (ki n)).isSome = true ↔ (valV k0 (ki n)).isSome = true ∨ ∃ kv ∈ kvs, ∃ z, kv.2 = V.int z ∧ z / 2 = (n : Int)) → k1.length ≤ k0.length + kvs.length → D.nx (σ.set j y) (upd H pi (.dK k1))) :
    tLock (tFor (iVals (tVar a)) (gName j) (sDPut (tVar i) (tOp rDivI (tVar j) (tC (.int 2))) (tC (.bl true)))) D σ H := by
  have key : ∀ (y : Option V), (σ.set j y)[a]? = some (some (.ref pd)) := fun y => by rw [List.getElem?_set_ne hja]; exact ha
  refine f_vals (p := pd) (kvs := kvs) hd ?_ (fun c σ' H' => ∃ y k1, σ' = σ.set j y ∧ H' = upd H pi (.dK k1) ∧
    (∀ n : Nat, (valV k1 (ki n)).isSome = true ↔ (valV k0 (ki n)).isSome = true ∨ ∃ kv ∈ kvs.take c, ∃ z, kv.2 = V.int z ∧ z / 2 = (n : Int)) ∧ k1.length ≤ k0.length + c)
    ⟨σ[j], k0, by simp, (upd_back ho).symm, fun n => by simp, by omega⟩ (fun c σ' H' ⟨_, _, _, e, _⟩ => by rw [e, upd_ne n]; exact hd) ?_ ?_
  · exact fun H' => v_var ha
  · rintro c k' x σ' H' od hx ⟨y, k1, rfl, rfl, hk1, hl1⟩
    obtain ⟨z, hz'⟩ := hz _ (List.mem_of_getElem? hx)
    have hz' : x = V.int z := hz'
    subst hz'
    have hc := (List.getElem?_eq_some_iff.mp hx).1
    rw [List.set_set]
    have h1 : (σ.set j (some (V.int z)))[i]? = some (some (.ref pi)) := by rw [List.getElem?_set_ne hji]; exact hi
    have h2 : (σ.set j (some (V.int z)))[j]? = some (some (V.int z)) := List.getElem?_set_self hj
    have h3 : (upd (upd H pi (.dK k1)) pd (.frz od (.dK kvs))) pi = some (.dK k1) := by rw [upd_ne n.symm, upd_same]
    have hk : Val (tOp rDivI (tVar j) (tC (.int 2))) (σ.set j (some (V.int z))) (upd (upd H pi (.dK k1)) pd (.frz od (.dK kvs))) (kV (.inl (z / 2))) := v_div (v_var h2) v_c ⟨by decide, by decide⟩
    refine s_dput (k := .inl (z / 2)) v_c (v_var h1) hk h3 (by omega) ?_
    refine ⟨by rw [upd_ne n, upd_same], _, putK k1 (.inl (z / 2)) (.bl true), rfl, ?_, fun n' => ?_, ?_⟩
    · rw [lock_put (w := .dK k1) n (by rw [upd_ne n]; exact hd), upd_upd]
    · rw [valV_put, take_snoc hx]
      by_cases e : ki n' = .inl (z / 2)
      · rw [if_pos e]
        refine ⟨fun _ => .inr ⟨(k', V.int z), by simp, z, rfl, ?_⟩, fun _ => rfl⟩
        unfold ki at e
        injection e with e
        exact e.symm
      · rw [if_neg e, hk1 n']
        constructor
        · rintro (h | ⟨kv, h1, h2⟩)
          · exact .inl h
          · exact .inr ⟨kv, List.mem_append.mpr (.inl h1), h2⟩
        · rintro (h | ⟨kv, h1, z2, h2, h3⟩)
          · exact .inl h
          · rcases List.mem_append.mp h1 with w | w
            · exact .inr ⟨kv, w, z2, h2, h3⟩
            · exfalso
              rw [List.mem_singleton.mp w] at h2
              have h2 : V.int z = V.int z2 := h2
              injection h2 with h2
              exact e (by unfold ki; rw [h2, h3])
    · have := length_putK k1 (.inl (z / 2)) (V.bl true)
      omega
  · rintro σ' H' ⟨y, k1, rfl, rfl, hk1, hl1⟩
    rw [List.take_length] at hk1
    exact k y k1 hk1 hl1
/-- the halves of a tree's dict -/
theorem td_half {m : Nat} {s : Nat → Nat} {ok : Nat → Prop} {root : Nat} {T : List (Nat × Nat)} (t : Tree m s ok root T) (n : Nat) : (∃ kv ∈ td root T, ∃ z, kv.2 = V.int z ∧ z / 2 = (n : Int)) ↔ OnT T (2 * n) := by
  unfold td dkv
  constructor
  · rintro ⟨kv, hkv, z, hz, hd⟩
    obtain ⟨x, hx, rfl⟩ := List.mem_map.mp hkv
    rcases List.mem_cons.mp hx with rfl | hx
    · have hz : tv x T x = V.int z := hz
      rw [tv_root] at hz
      injection hz with hz
      omega
    · obtain ⟨⟨P, e⟩, hp, rfl⟩ := List.mem_map.mp hx
      obtain ⟨i, hi⟩ := List.mem_iff_getElem?.mp hp
      have hz : tv root T P = V.int z := hz
      rw [tv_at t hi] at hz
      injection hz with hz
      refine ⟨(P, e), hp, ?_⟩
      show e / 2 = 2 * n / 2
      omega
  · rintro ⟨⟨P, e⟩, hp, hd⟩
    have hd : e / 2 = 2 * n / 2 := hd
    obtain ⟨i, hi⟩ := List.mem_iff_getElem?.mp hp
    refine ⟨(ki P, tv root T P), List.mem_map.mpr ⟨P, List.mem_cons_of_mem _ (List.mem_map.mpr ⟨(P, e), hp, rfl⟩), rfl⟩, (e : Int), tv_at t hi, by omega⟩
theorem td_int {m : Nat} {s : Nat → Nat} {ok : Nat → Prop} {root : Nat} {T : List (Nat × Nat)} (t : Tree m s ok root T) : ∀ kv ∈ td root T, ∃ z, kv.2 = V.int z := by
  unfold td dkv
  intro kv hkv
  obtain ⟨x, hx, rfl⟩ := List.mem_map.mp hkv
  rcases List.mem_cons.mp hx with rfl | hx
  · exact ⟨-1, tv_root _ _⟩
  · obtain ⟨⟨P, e⟩, hp, rfl⟩ := List.mem_map.mp hx
    obtain ⟨i, hi⟩ := List.mem_iff_getElem?.mp hp
    exact ⟨(e : Int), tv_at t hi⟩
theorem td_len {root : Nat} {T : List (Nat × Nat)} : (td root T).length = T.length + 1 := by unfold td dkv; simp
/-- end // 2 not in inside -/
theorem v_half {k1 : List (Key × V)} {a : V} {e : Nat} (hb : Val tb σ H (nv e)) (ha : Val ta σ H a) (hs : DD H a k1) : Val (tDNotIn (tOp rDivI tb (tC (.int 2))) ta) σ H (.bl (!(valV k1 (ki (e / 2))).isSome)) := by
  refine v_dnin (k := ki (e / 2)) (vint (v_div hb v_c ⟨by decide, by decide⟩) ?_) ha hs
  omega

/-! ### land_tree -/
def sp_ltree (K : PySem.W.Frag) : Sp := fun vs H Q _ => ∃ B v pn rows m root T first, vs = [v, .ref pn, nv first] ∧ Le B H ∧ LL K B v (landsOf rows m) ∧ Dw rows m ∧ PTree rows m root T ∧ H pn = some (.dK (td root T)) ∧ first < (landsOf rows m).length ∧
  ∀ p B' H' C, Ext B H B' H' → LTree rows m T first C → B' p = some (.dK (td first C)) → H' p = some (.dK (td first C)) → B p = none → H p = none → Q (.ref p) H'
theorem call_ltree {v : V} {pn : Addr} {rows : List (List Nat)} {m root first : Nat} {T : List (Nat × Nat)} (h1 : Val ta σ H v) (h2 : Val tb σ H (.ref pn)) (h3 : Val tc σ H (nv first)) (l : Le B H) (hv : LL K B v (landsOf rows m)) (D : Dw rows m) (t : PTree rows m root T) (hn : H pn = some (.dK (td root T))) (hf : first < (landsOf rows m).length) :
    VH (tCall (sp_ltree K) [] E0 (tCons ta (tCons tb (tCons tc tNil)))) σ H fun w H' => ∃ (p : Addr) (B' : Hp) (C : List (Nat × Nat)), w = .ref p ∧ Ext B H B' H' ∧ LTree rows m T first C ∧ B' p = some (.dK (td first C)) ∧ H' p = some (.dK (td first C)) ∧ B p = none ∧ H p = none :=
  c_call (g_cons h1 (g_cons h2 (g_cons h3 g_nil))) fun Q q => ⟨B, v, pn, rows, m, root, T, first, rfl, l, hv, D, t, hn, hf, fun p B' H' C e c h1 h2 h3 h4 => q _ _ ⟨p, B', C, rfl, e, c, h1, h2, h3, h4⟩⟩
end
end Rf
end
section
set_option linter.all false
set_option autoImplicit false
set_option maxRecDepth 100000
set_option maxHeartbeats 1000000
/-! P9: land_tree. -/
namespace Rf
open PySem L2
section
variable {K : PySem.W.Frag}
theorem r_land_tree (vs : List V) (H : Hp) (Q : VK) (E : XK) (h : sp_ltree K vs H Q E) : t_land_tree K sp_mate (sp_lnum K) { nx := fun _ H' => Q .non H', rt := Q } (start N_land_tree vs) H := by
  obtain ⟨B, v, pn, rows, m, root, T, first, rfl, hl, hv, D, t, hn, hf, k⟩ := h
  have P := D.dr.lands
  have F := D.lfew
  have hm := D.sm
  have htT : T.length + 1 ≤ rows.length := by simpa using (tree_len t.tree D.dr.part t.hroot).1
  have hsn := D.sn
  have hnL := F.sn
  -- inside = {}
  refine q_set n_dict ?_
  rintro w1 H1 ⟨pi, hpi, rfl, rfl⟩
  have e1 := (Ext.refl hl).own hpi (o := .dK [])
  have o1 : Own H B _ pi (.dK []) := Own.of_new (.refl H) hl hpi
  have npi : pn ≠ pi := ne_of_none hn hpi
  refine q_seq (f_halves (pd := pn) (pi := pi) (kvs := td root T) (k0 := []) rfl rfl (by decide) (by decide) (by show 4 < 10; decide) npi (by rw [upd_ne npi]; exact hn) upd_same (td_int t.tree) (by rw [td_len]; simp; omega) ?_)
  intro y k1 hk1 hk1l
  have hin : ∀ n : Nat, (valV k1 (ki n)).isSome = true ↔ OnT T (2 * n) := fun n => by
    rw [hk1 n, td_half t.tree]; simp [valV_nil]
  rw [upd_upd]
  have o2 := o1.put (.dK k1)
  have e2 := (e1.put o1 (.dK k1)).freeze o2
  rw [upd_upd] at e2
  have hins : DD (upd B pi (.dK k1)) (.ref pi) k1 := .of upd_same
  -- numbers = land_numbers(lands)
  refine q_set (call_lnum (v_var rfl) e2.le (hv.le e2.bb.le) F) ?_
  rintro b H3 ⟨B1, e3', hb⟩
  have e3 := e2.trans e3'
  have hv1 := hv.le e3.bb.le
  have hins1 := hins.le e3'.bb.le
  have hB1 : Ex B B1 := e3.bb
  -- towards = {first: -1}; waiting = [first]; at = 0
  refine q_set (n_disp1 (k := ki first) (v := .int (-1)) (fun H' _ => v_var rfl) (fun H' _ => v_neg v_c)) ?_
  rintro w2 H4 ⟨p, hp, rfl, rfl⟩
  have ht0 : [(ki first, V.int (-1))] = td first [] := by
    show _ = [(ki first, tv first [] first)]
    rw [tv_root]
  rw [ht0]
  have e4 := e3.own hp (o := .dK (td first []))
  have op0 : Own H B1 _ p (.dK (td first [])) := Own.of_new e3.hh e3.le hp
  refine q_set (n_lst (g_cons (v_var rfl) g_nil) (by simp)) ?_
  rintro w3 H5 ⟨q, hq, rfl, rfl⟩
  have hq : (upd H3 p (.dK (td first []))) q = none := hq
  have e5 := e4.own hq (o := .lst [nv first])
  have oq0 : Own H B1 _ q (.lst [nv first]) := Own.of_new e4.hh e4.le hq
  have npq : p ≠ q := ne_of_none op0.h hq
  have op := op0.other npq (u := .lst [nv first])
  have hB0 : B p = none := hB1.free op0.b
  refine q_setV v_c ?_
  -- while at < len(waiting)
  refine q_seq (f_while (m0 := (landsOf rows m).length + 1)
    (fun n σ H' => ∃ (k : Nat) (x4 x9 : Option V) (C : List (Nat × Nat)), σ = [some v, some (.ref pn), some (nv first), some (.ref pi), x4, some b, some (.ref p), some (.ref q), some (nv k), x9] ∧ Ext B H B1 H' ∧ Own H B1 H' p (.dK (td first C)) ∧ Own H B1 H' q (.lst ((first :: C.map (·.1)).map nv)) ∧
      Tree m (seat (landsOf rows m)) (fun e => ¬ OnT T e) first C ∧ k ≤ (first :: C.map (·.1)).length ∧ Looked (landsOf rows m) (seat (landsOf rows m)) (fun e => ¬ OnT T e) (first :: C.map (·.1)) k ∧ n = (landsOf rows m).length + 1 - k)
    ⟨0, y, none, [], rfl, e5, op, oq0, ⟨by simp, fun i P e h => by simp at h⟩, Nat.zero_le _, fun j P l e hj => by omega, rfl⟩ ?_)
  rintro n σ4 H4 ⟨c, x4, x9, C, rfl, e4, o4, oq4, t4, hc, hlk, rfl⟩
  obtain ⟨htl, hkl⟩ := tree_len t4 P hf
  refine ⟨decide (c < (first :: C.map (·.1)).length), a_t (vas (v_lt (v_var rfl) (v_lenN (v_var rfl) (LN.of oq4.h))) (by congr 1; simp only [decide_eq_decide]; omega)), fun hb' => ?_, fun hb' => ?_⟩
  · have hcl : c < (first :: C.map (·.1)).length := of_decide_eq_true hb'
    have hkey : (first :: C.map (·.1))[c]? = some (first :: C.map (·.1))[c] := List.getElem?_eq_getElem hcl
    have hPm := List.getElem_mem hcl
    have hPl := hkl _ hPm
    obtain ⟨r, hrow⟩ : ∃ r, (landsOf rows m)[(first :: C.map (·.1))[c]]? = some r := ⟨_, List.getElem?_eq_getElem hPl⟩
    have hrm := List.mem_of_getElem? hrow
    -- for end in lands[waiting[at]]
    obtain ⟨w, hw, hwl⟩ := v_row (σ := [some v, some (.ref pn), some (nv first), some (.ref pi), x4, some b, some (.ref p), some (.ref q), some (nv c), x9]) (ta := tVar 0) (tb := tOp (rIxL K) (tVar 7) (tVar 8)) (v_var rfl) e4.le hv1 (v_ixN (v_var rfl) (LN.of oq4.h) (v_var rfl) hkey) hrow
    refine q_seq (f_LN (B := B1) hw hwl
      (fun j σ H' => ∃ (x4 x9 : Option V) (C' : List (Nat × Nat)), σ = [some v, some (.ref pn), some (nv first), some (.ref pi), x4, some b, some (.ref p), some (.ref q), some (nv c), x9] ∧ Ext B H B1 H' ∧ Own H B1 H' p (.dK (td first C')) ∧ Own H B1 H' q (.lst ((first :: C'.map (·.1)).map nv)) ∧
        Tree m (seat (landsOf rows m)) (fun e => ¬ OnT T e) first C' ∧ (∃ x, first :: C'.map (·.1) = (first :: C.map (·.1)) ++ x) ∧ Looked (landsOf rows m) (seat (landsOf rows m)) (fun e => ¬ OnT T e) (first :: C'.map (·.1)) c ∧ ∀ e ∈ r.take j, ¬ OnT T e → seat (landsOf rows m) (mate e) ∈ first :: C'.map (·.1))
      ⟨x4, x9, C, rfl, e4, o4, oq4, t4, ⟨[], by simp⟩, hlk, by simp⟩ (fun j σ5 H5 ⟨_, _, _, _, e, _⟩ => e.le) ?_ ?_)
    · rintro j e σ5 H5 hej ⟨x4, x9, C', rfl, e5, o5, oq5, t5, ⟨x, hx⟩, hlk5, hall⟩
      have hem := List.mem_of_getElem? hej
      have hlt := P.lt hrm hem
      have hse : seat (landsOf rows m) e = (first :: C.map (·.1))[c] := P.num _ _ _ hrow hem
      -- beyond = numbers[mate_of(end)]
      refine q_setV (v_get (n := mate e) (f := fun e => nv (seat (landsOf rows m) e)) (v_var rfl) (hb.le e5.le) (call_mate (v_var rfl)) ((P.mem _).mpr (mate_lt hlt))) ?_
      have htest1 := v_half (H := H5) (e := e) (ta := tVar 3) (tb := tVar 4) (σ := [some v, some (.ref pn), some (nv first), some (.ref pi), some (nv e), some b, some (.ref p), some (.ref q), some (nv c), some (nv (seat (landsOf rows m) (mate e)))]) (v_var rfl) (v_var rfl) (hins1.le e5.le)
      have htest2 := v_nin (H := H5) (n := seat (landsOf rows m) (mate e)) (tb := tVar 9) (ta := tVar 6) (σ := [some v, some (.ref pn), some (nv first), some (.ref pi), some (nv e), some b, some (.ref p), some (.ref q), some (nv c), some (nv (seat (landsOf rows m) (mate e)))]) (v_var rfl) (v_var rfl) (DK.of o5.h)
      refine s_if (a_and (a_b htest1) fun _ => a_b htest2) (fun hb2 => ?_) (fun hb2 => ?_)
      · rw [Bool.and_eq_true] at hb2
        have hoff : ¬ OnT T e := fun z => by
          have := (hin (e / 2)).mpr (OnT_div z (by omega))
          rw [this] at hb2
          exact absurd hb2.1 (by decide)
        have hnew := nd_t hb2.2
        have hek : seat (landsOf rows m) e ∈ first :: C'.map (·.1) := by rw [hse, hx]; exact List.mem_append.mpr (.inl hPm)
        have t6 := t5.snoc hlt hek hnew (fun z => hoff z.mate)
        obtain ⟨htl5, _⟩ := tree_len t5 P hf
        refine q_seq (s_dput (k := ki (seat (landsOf rows m) (mate e))) (v := nv (mate e)) (call_mate (v_var rfl)) (v_var rfl) (v_var rfl) o5.h (by unfold td; rw [dkv_len]; omega) ?_)
        rw [td_snoc hnew]
        have e6 := e5.put o5 (.dK (td first (C' ++ [(seat (landsOf rows m) (mate e), mate e)])))
        have o6 := o5.put (.dK (td first (C' ++ [(seat (landsOf rows m) (mate e), mate e)])))
        have oq6 := oq5.other npq.symm (u := .dK (td first (C' ++ [(seat (landsOf rows m) (mate e), mate e)])))
        refine s_app (v := nv (seat (landsOf rows m) (mate e))) (v_var rfl) (v_var rfl) oq6.h (by rw [List.length_map]; omega) ?_
        have hkeys : (first :: (C' ++ [(seat (landsOf rows m) (mate e), mate e)]).map (·.1)) = (first :: C'.map (·.1)) ++ [seat (landsOf rows m) (mate e)] := by simp
        refine ⟨_, _, C' ++ [(seat (landsOf rows m) (mate e), mate e)], rfl, e6.put oq6 _, o6.other npq, ?_, t6, ⟨x ++ [seat (landsOf rows m) (mate e)], by rw [hkeys, hx]; simp⟩, ?_, fun y hy ho => ?_⟩
        · rw [hkeys, List.map_append]; exact oq6.put _
        · rw [hkeys]; exact hlk5.grow (by rw [hx]; simp at hc ⊢; omega) _
        · rw [hkeys]
          rw [take_snoc hej] at hy
          rcases List.mem_append.mp hy with z | z
          · exact List.mem_append.mpr (.inl (hall y z ho))
          · rw [List.mem_singleton.mp z]; simp
      · refine ⟨_, _, C', rfl, e5, o5, oq5, t5, ⟨x, hx⟩, hlk5, fun y hy ho => ?_⟩
        rw [take_snoc hej] at hy
        rcases List.mem_append.mp hy with z | z
        · exact hall y z ho
        · have hy' := List.mem_singleton.mp z
          subst hy'
          have h1 : (valV k1 (ki (y / 2))).isSome = false := by
            cases hq : (valV k1 (ki (y / 2))).isSome with
            | false => rfl
            | true => exact absurd (OnT_div ((hin _).mp hq) (by omega)) ho
          rw [h1] at hb2
          exact nd_f hb2
    · rintro σ5 H5 ⟨x4, x9, C', rfl, e5, o5, oq5, t5, ⟨x, hx⟩, hlk5, hall⟩
      rw [List.take_length] at hall
      -- at += 1
      refine s_aug rfl v_c ?_
      refine ⟨(landsOf rows m).length + 1 - (c + 1), by omega, c + 1, x4, x9, C', rfl, e5, o5, oq5, t5, by rw [hx]; simp at hcl ⊢; omega, fun j Q l e hj hQ hl' he ho => ?_, rfl⟩
      by_cases hjc : j = c
      · subst hjc
        rw [hx, List.getElem?_append_left hcl, hkey] at hQ
        have hQ := Option.some.inj hQ
        subst hQ
        rw [hrow] at hl'
        cases hl'
        exact hall e he ho
      · exact hlk5 j Q l e (by omega) hQ hl' he ho
  · have hcl : (first :: C.map (·.1)).length ≤ c := by have := of_decide_eq_false hb'; omega
    refine s_retV (v_var rfl) (k p _ H4 C (e4.freeze o4) ⟨t4, hf, fun e he hs ho => ?_⟩ upd_same o4.h hB0 o4.h0)
    obtain ⟨j, hj⟩ := List.mem_iff_getElem?.mp hs
    obtain ⟨r, hrow, hem⟩ := P.row he
    exact hlk j _ r e (by have := (List.getElem?_eq_some_iff.mp hj).1; omega) hj hrow hem ho
end
end Rf
end
section
set_option linter.all false
set_option autoImplicit false
set_option maxRecDepth 100000
set_option maxHeartbeats 1000000
/-! P10: left_ties, both_trees. -/
namespace Rf
open PySem L2
section
variable {K : PySem.W.Frag} {σ : St} {B H : Hp} {ta tb tc te tl : TE}
theorem upd_comm {p q : Addr} {x y : HO} (n : p ≠ q) : upd (upd H p x) q y = upd (upd H q y) p x := by
  funext a
  by_cases h1 : a = p
  · subst h1; rw [upd_ne n, upd_same, upd_same]
  · by_cases h2 : a = q
    · subst h2; rw [upd_same, upd_ne h1, upd_same]
    · rw [upd_ne h2, upd_ne h1, upd_ne h1, upd_ne h2]
/-- a set of numbers kept as a dict's keys -/
def add1 (ks : List Nat) (n : Nat) : List Nat := if n ∈ ks then ks else ks ++ [n]
theorem add1_mem {ks : List Nat} {n x : Nat} : x ∈ add1 ks n ↔ x ∈ ks ∨ x = n := by
  unfold add1
  split
  · rename_i h
    exact ⟨.inl, fun z => z.elim id fun w => by rw [w]; exact h⟩
  · simp
theorem add1_nodup {ks : List Nat} {n : Nat} (h : ks.Nodup) : (add1 ks n).Nodup := by
  unfold add1
  split
  · exact h
  · rename_i z
    rw [List.nodup_append]
    exact ⟨h, by simp, fun a ha b hb e => by simp at hb; subst hb e; exact z ha⟩
theorem dkv_true {ks : List Nat} {n : Nat} : putK (dkv ks fun _ => V.bl true) (ki n) (.bl true) = dkv (add1 ks n) fun _ => V.bl true := by
  unfold add1
  split
  · rename_i h
    rw [dkv_old h]
    exact dkv_congr fun x _ => by split <;> rfl
  · rename_i h
    exact dkv_new (f := fun _ => V.bl true) h
theorem n_sortD {a : V} {ks : List Nat} {f : Nat → V} (ha : Val te σ H a) (hs : DK H a ks f) : VH (tCB rSortD (tCons te tNil)) σ H fun w H' => ∃ (p : Addr) (zs : List Nat), H p = none ∧ w = .ref p ∧ H' = upd H p (.lst (zs.map nv)) ∧ zs.Perm ks ∧ zs.Pairwise (· ≤ ·) := fun Q q => by
  obtain ⟨p, rfl, hp⟩ := hs
  refine ha _ ⟨p, _, ks.map (fun n : Nat => (n : Int)), rfl, hp, ?_, fun ys r hy ho hr => ?_⟩
  · unfold dkv
    rw [List.map_map, List.map_map]
    rfl
  · have e1 : ys = (ys.map Int.toNat).map (fun n : Nat => (n : Int)) := by
      rw [List.map_map]
      conv => lhs; rw [← List.map_id ys]
      refine List.map_congr_left fun y hy' => ?_
      have := hy.mem_iff.mp hy'
      obtain ⟨n, _, rfl⟩ := List.mem_map.mp this
      rfl
    have e2 : (ys.map Int.toNat).Perm ks := by
      have := hy.map Int.toNat
      rw [List.map_map] at this
      have e3 : ks.map (Int.toNat ∘ fun n : Nat => (n : Int)) = ks := by
        conv => rhs; rw [← List.map_id ks]
        exact List.map_congr_left fun n _ => rfl
      rwa [e3] at this
    refine q _ _ ⟨r, ys.map Int.toNat, hr, rfl, ?_, e2, ?_⟩
    · conv => lhs; rw [e1]
      rw [List.map_map]; rfl
    · rw [List.pairwise_map]
      exact ho.imp fun {a b} h => by omega
theorem v_getH {P P' : V → Hp → Prop} (ha : VH ta σ H P) (k : ∀ w H1, P w H1 → ∃ (k : Key) (kvs : List (Key × V)) (v : V), Val tb σ H1 (kV k) ∧ DD H1 w kvs ∧ valV kvs k = some v ∧ P' v H1) : VH (tDGet ta tb) σ H P' := fun Q q =>
  ha _ fun w H1 hw => by
    obtain ⟨k, kvs, v, h1, ⟨p, rfl, hp⟩, h3, h4⟩ := k w H1 hw
    exact h1 _ ⟨p, v, rfl, .inl ⟨kvs, k, hp, rfl, h3.symm⟩, q _ _ h4⟩

/-! ### left_ties -/
def IsLeft (m : Nat) (T C : List (Nat × Nat)) (ks : List Nat) : Prop := ks.Nodup ∧ ∀ k, k ∈ ks ↔ k < m ∧ ¬ OnT T (2 * k) ∧ ¬ OnT C (2 * k)
def sp_left (K : PySem.W.Frag) : Sp := fun vs H Q _ => ∃ B v pn pc rows m root T first C, vs = [v, .ref pn, .ref pc] ∧ Le B H ∧ LL K B v rows ∧ Dw rows m ∧ PTree rows m root T ∧ LTree rows m T first C ∧ H pn = some (.dK (td root T)) ∧ H pc = some (.dK (td first C)) ∧ (∀ e, e < 2 * m → seat rows e ∈ root :: T.map (·.1)) ∧
  Ret B H (fun w B' => ∃ ks, LN K B' w ks ∧ IsLeft m T C ks) Q
theorem call_left {v : V} {pn pc : Addr} {rows : List (List Nat)} {m root first : Nat} {T C : List (Nat × Nat)} (h1 : Val ta σ H v) (h2 : Val tb σ H (.ref pn)) (h3 : Val tc σ H (.ref pc)) (l : Le B H) (hv : LL K B v rows) (D : Dw rows m) (t : PTree rows m root T) (c : LTree rows m T first C) (hn : H pn = some (.dK (td root T))) (hc : H pc = some (.dK (td first C))) (hf : ∀ e, e < 2 * m → seat rows e ∈ root :: T.map (·.1)) :
    VH (tCall (sp_left K) [] E0 (tCons ta (tCons tb (tCons tc tNil)))) σ H fun w H' => ∃ (B' : Hp) (ks : List Nat), Ext B H B' H' ∧ LN K B' w ks ∧ IsLeft m T C ks :=
  c_call (g_cons h1 (g_cons h2 (g_cons h3 g_nil))) fun Q q => ⟨B, v, pn, pc, rows, m, root, T, first, C, rfl, l, hv, D, t, c, hn, hc, hf, fun w B' H' e ⟨ks, h1, h2⟩ => q w H' ⟨B', ks, e, h1, h2⟩⟩
theorem r_left_ties (vs : List V) (H : Hp) (Q : VK) (E : XK) (h : sp_left K vs H Q E) : t_left_ties K { nx := fun _ H' => Q .non H', rt := Q } (start N_left_ties vs) H := by
  obtain ⟨B, v, pn, pc, rows, m, root, T, first, C, rfl, hl, hv, D, t, c, hn, hc, hf, k⟩ := h
  have P := D.dr.part
  have F := D.lfew
  have hm := D.sm
  have htT : T.length + 1 ≤ rows.length := by simpa using (tree_len t.tree P t.hroot).1
  have hcT : C.length + 1 ≤ (landsOf rows m).length := by simpa using (tree_len c.tree D.dr.lands c.hfirst).1
  have hsn := D.sn
  have hnL := F.sn
  -- inside = {}
  refine q_set n_dict ?_
  rintro w1 H1 ⟨pi, hpi, rfl, rfl⟩
  have e1 := (Ext.refl hl).own hpi (o := .dK [])
  have o1 : Own H B _ pi (.dK []) := Own.of_new (.refl H) hl hpi
  have npi : pn ≠ pi := ne_of_none hn hpi
  have npc : pc ≠ pi := ne_of_none hc hpi
  refine q_seq (f_halves (pd := pn) (pi := pi) (kvs := td root T) (k0 := []) rfl rfl (by decide) (by decide) (by show 4 < 7; decide) npi (by rw [upd_ne npi]; exact hn) upd_same (td_int t.tree) (by rw [td_len]; simp; omega) ?_)
  intro y k1 hk1 hk1l
  rw [upd_upd]
  have hk1l : k1.length ≤ T.length + 1 := by rw [td_len] at hk1l; simpa using hk1l
  refine q_seq (f_halves (pd := pc) (pi := pi) (kvs := td first C) (k0 := k1) rfl rfl (by decide) (by decide) (by show 4 < 7; decide) npc (by rw [upd_ne npc]; exact hc) upd_same (td_int c.tree) (by rw [td_len]; omega) ?_)
  intro y2 k2 hk2 hk2l
  rw [upd_upd]
  have hin : ∀ n : Nat, (valV k2 (ki n)).isSome = true ↔ OnT T (2 * n) ∨ OnT C (2 * n) := fun n => by
    rw [hk2 n, hk1 n, td_half t.tree, td_half c.tree]; simp [valV_nil]
  have o2 := o1.put (.dK k2)
  have e2 := (e1.put o1 (.dK k2)).freeze o2
  rw [upd_upd] at e2
  have hins : DD (upd B pi (.dK k2)) (.ref pi) k2 := .of upd_same
  have hv2 := hv.le e2.bb.le
  -- left = {}
  refine q_set n_dict ?_
  rintro w3 H3 ⟨pl, hpl, rfl, rfl⟩
  have e3 := e2.own hpl (o := .dK [])
  have o3 : Own H (upd B pi (.dK k2)) _ pl (.dK []) := Own.of_new e2.hh e2.le hpl
  have hn2 : (upd H pi (.dK k2)) pn = some (.dK (td root T)) := by rw [upd_ne npi]; exact hn
  have npl : pn ≠ pl := ne_of_none hn2 hpl
  have hn3 : (upd (upd H pi (.dK k2)) pl (.dK [])) pn = some (.dK (td root T)) := by rw [upd_ne npl]; exact hn2
  -- for place in nearer
  refine q_seq (f_keys (p := pn) (kvs := td root T) hn3 (fun H' => v_var rfl)
    (fun i σ H' => ∃ x4 x6 ks, σ = [some v, some (.ref pn), some (.ref pc), some (.ref pi), x4, some (.ref pl), x6] ∧ H' = upd (upd H pi (.dK k2)) pl (.dK (dkv ks fun _ => .bl true)) ∧ ks.Nodup ∧
      (∀ n ∈ ks, n < m ∧ ¬ OnT T (2 * n) ∧ ¬ OnT C (2 * n)) ∧ ∀ j P l e, j < i → (root :: T.map (·.1))[j]? = some P → rows[P]? = some l → e ∈ l → ¬ OnT T e → ¬ OnT C e → e / 2 ∈ ks)
    ⟨y2, none, [], rfl, rfl, List.nodup_nil, by simp, fun j P l e hj => by omega⟩ (fun i σ' H' ⟨_, _, _, _, h, _⟩ => by rw [h, upd_ne npl]; exact hn2) ?_ ?_)
  · rintro i k x σ' H' od hx ⟨x4, x6, ks, rfl, rfl, hnd, hks, hall⟩
    obtain ⟨n, hn', rfl⟩ : ∃ n, (root :: T.map (·.1))[i]? = some n ∧ k = ki n := by
      unfold td dkv at hx
      rw [List.getElem?_map] at hx
      obtain ⟨n, h1, h2⟩ := Option.map_eq_some_iff.mp hx
      injection h2 with h2 _
      exact ⟨n, h1, h2.symm⟩
    have hnl : n < rows.length := (tree_len t.tree P t.hroot).2 n (List.mem_of_getElem? hn')
    have hrow : rows[n]? = some rows[n] := List.getElem?_eq_getElem hnl
    have hrm := List.mem_of_getElem? hrow
    have lle : ∀ u, Le (upd B pi (.dK k2)) (upd (upd (upd H pi (.dK k2)) pn (.frz od (.dK (td root T)))) pl u) := fun u => (le_lock e2.le hn2 (fun _ _ => by simp)).mut o3.b
    rw [upd_comm npl.symm]
    obtain ⟨w, hw, hwl⟩ := v_row (K := K) (σ := [some v, some (.ref pn), some (.ref pc), some (.ref pi), x4, some (.ref pl), some (nv n)]) (ta := tVar 0) (tb := tVar 6) (v_var rfl) (lle (.dK (dkv ks fun _ => .bl true))) hv2 (v_var rfl) hrow
    refine f_LN (B := upd B pi (.dK k2)) hw hwl
      (fun j σ H' => ∃ x4 ks, σ = [some v, some (.ref pn), some (.ref pc), some (.ref pi), x4, some (.ref pl), some (nv n)] ∧ H' = upd (upd (upd H pi (.dK k2)) pn (.frz od (.dK (td root T)))) pl (.dK (dkv ks fun _ => .bl true)) ∧ ks.Nodup ∧
        (∀ n ∈ ks, n < m ∧ ¬ OnT T (2 * n) ∧ ¬ OnT C (2 * n)) ∧ (∀ j P l e, j < i → (root :: T.map (·.1))[j]? = some P → rows[P]? = some l → e ∈ l → ¬ OnT T e → ¬ OnT C e → e / 2 ∈ ks) ∧ ∀ e ∈ rows[n].take j, ¬ OnT T e → ¬ OnT C e → e / 2 ∈ ks)
      ⟨x4, ks, rfl, rfl, hnd, hks, hall, by simp⟩ (fun j σ5 H5 ⟨_, _, _, h, _⟩ => by rw [h]; exact lle _) ?_ ?_
    · rintro j e σ5 H5 hej ⟨x4, ks, rfl, rfl, hnd, hks, hall, hdone⟩
      have hem := List.mem_of_getElem? hej
      have hlt := P.lt hrm hem
      have hkl : ks.length ≤ m := nodup_le hnd fun x hx => (hks x hx).1
      refine s_if (a_b (v_half (e := e) (v_var rfl) (v_var rfl) (hins.le (lle _)))) (fun hb => ?_) (fun hb => ?_)
      · have hno : ¬ (OnT T (2 * (e / 2)) ∨ OnT C (2 * (e / 2))) := fun z => by
          rw [(hin _).mpr z] at hb; exact absurd hb (by decide)
        have hk : Val (tOp rDivI (tVar 4) (tC (.int 2))) ([some v, some (.ref pn), some (.ref pc), some (.ref pi), x4, some (.ref pl), some (nv n)].set 4 (some (nv e))) (upd (upd (upd H pi (.dK k2)) pn (.frz od (.dK (td root T)))) pl (.dK (dkv ks fun _ => .bl true))) (kV (ki (e / 2))) := vint (v_div (v_var rfl) v_c ⟨by decide, by decide⟩) (by omega)
        refine s_dput v_c (v_var rfl) hk upd_same (by rw [dkv_len]; omega) ?_
        rw [dkv_true, upd_upd]
        refine ⟨_, add1 ks (e / 2), rfl, rfl, add1_nodup hnd, fun x hx => ?_, fun j P l e' hj hP hl' he' h1 h2 => add1_mem.mpr (.inl (hall j P l e' hj hP hl' he' h1 h2)), fun x hx h1 h2 => ?_⟩
        · rcases add1_mem.mp hx with z | z
          · exact hks x z
          · subst z
            exact ⟨by omega, fun z => hno (.inl z), fun z => hno (.inr z)⟩
        · rw [take_snoc hej] at hx
          rcases List.mem_append.mp hx with z | z
          · exact add1_mem.mpr (.inl (hdone x z h1 h2))
          · rw [List.mem_singleton.mp z]; exact add1_mem.mpr (.inr rfl)
      · have hon : OnT T e ∨ OnT C e := by
          have : (valV k2 (ki (e / 2))).isSome = true := by
            cases hq : (valV k2 (ki (e / 2))).isSome with
            | true => rfl
            | false => rw [hq] at hb; exact absurd hb (by decide)
          rcases (hin _).mp this with z | z
          · exact .inl (OnT_div z (by omega))
          · exact .inr (OnT_div z (by omega))
        refine ⟨_, ks, rfl, rfl, hnd, hks, hall, fun x hx h1 h2 => ?_⟩
        rw [take_snoc hej] at hx
        rcases List.mem_append.mp hx with z | z
        · exact hdone x z h1 h2
        · rw [List.mem_singleton.mp z] at h1 h2
          exact absurd hon (fun z => z.elim h1 h2)
    · rintro σ5 H5 ⟨x4, ks, rfl, rfl, hnd, hks, hall, hdone⟩
      rw [List.take_length] at hdone
      refine ⟨by rw [upd_ne npl, upd_same], x4, _, ks, rfl, lock_put (w := .dK []) npl hn2, hnd, hks, fun j Q l e hj hQ hl' he h1 h2 => ?_⟩
      by_cases hji : j = i
      · subst hji
        rw [hn'] at hQ
        cases hQ
        rw [hrow] at hl'
        cases hl'
        exact hdone e he h1 h2
      · exact hall j Q l e (by omega) hQ hl' he h1 h2
  · rintro σ' H' ⟨x4, x6, ks, rfl, rfl, hnd, hks, hall⟩
    have e4 := e3.put o3 (.dK (dkv ks fun _ => .bl true))
    rw [upd_upd] at e4
    have o4 := o3.put (.dK (dkv ks fun _ => .bl true))
    rw [upd_upd] at o4
    refine s_ret (n_sortD (v_var rfl) (DK.of o4.h)) ?_
    rintro w5 H5 ⟨p, zs, hp, rfl, rfl, hz, _⟩
    have e5 := e4.trans (Ext.new e4.le hp (o := .lst (zs.map nv)))
    refine k _ _ _ e5 ⟨zs, LN.of upd_same, hz.nodup_iff.mpr hnd, fun n => ?_⟩
    rw [hz.mem_iff]
    refine ⟨hks n, fun ⟨h1, h2, h3⟩ => ?_⟩
    have hlt : 2 * n < 2 * m := by omega
    obtain ⟨j, hj⟩ := List.mem_iff_getElem?.mp (hf _ hlt)
    obtain ⟨r, hrow, hem⟩ := P.row hlt
    have := hall j _ r (2 * n) (by rw [td_len]; have := (List.getElem?_eq_some_iff.mp hj).1; simpa using this) hj hrow hem h2 h3
    rwa [show 2 * n / 2 = n by omega] at this
end
end Rf
end
section
set_option linter.all false
set_option autoImplicit false
set_option maxRecDepth 100000
set_option maxHeartbeats 1000000
/-! P11: both_trees. -/
namespace Rf
open PySem L2
section
variable {K : PySem.W.Frag} {σ : St} {B H : Hp} {ta tb tc te tl : TE}
def sp_both (K : PySem.W.Frag) : Sp := fun vs H Q _ => ∃ B v rows m, vs = [v, nv 0] ∧ Le B H ∧ LL K B v rows ∧ Dw rows m ∧ Ring rows m ∧
  ∀ t B' H' T C first ks pn pc wl, Ext B H B' H' → H' t = some (.tup [.ref pn, .ref pc, wl]) → PTree rows m 0 T → LTree rows m T first C → IsLeft m T C ks → B' pn = some (.dK (td 0 T)) → B' pc = some (.dK (td first C)) → LN K B' wl ks → Q (.ref t) H'
theorem call_both {v : V} {rows : List (List Nat)} {m : Nat} (h1 : Val ta σ H v) (h2 : Val tb σ H (nv 0)) (l : Le B H) (hv : LL K B v rows) (D : Dw rows m) (R : Ring rows m) :
    VH (tCall (sp_both K) [] E0 (tCons ta (tCons tb tNil))) σ H fun w H' => ∃ (t : Addr) (B' : Hp) (T C : List (Nat × Nat)) (first : Nat) (ks : List Nat) (pn pc : Addr) (wl : V), w = .ref t ∧ Ext B H B' H' ∧ H' t = some (.tup [.ref pn, .ref pc, wl]) ∧ PTree rows m 0 T ∧ LTree rows m T first C ∧ IsLeft m T C ks ∧ B' pn = some (.dK (td 0 T)) ∧ B' pc = some (.dK (td first C)) ∧ LN K B' wl ks :=
  c_call (g_cons h1 (g_cons h2 g_nil)) fun Q q => ⟨B, v, rows, m, rfl, l, hv, D, R, fun t B' H' T C first ks pn pc wl h1 h2 h3 h4 h5 h6 h7 h8 => q _ _ ⟨t, B', T, C, first, ks, pn, pc, wl, rfl, h1, h2, h3, h4, h5, h6, h7, h8⟩⟩
theorem r_both_trees (vs : List V) (H : Hp) (Q : VK) (E : XK) (h : sp_both K vs H Q E) : t_both_trees K (sp_left K) (sp_ltree K) (sp_lnum K) (sp_tree K) (sp_lands K) { nx := fun _ H' => Q .non H', rt := Q } (start N_both_trees vs) H := by
  obtain ⟨B, v, rows, m, rfl, hl, hv, D, R, k⟩ := h
  have F := D.lfew
  have hpos : 0 < rows.length := by
    obtain ⟨r, hr, _⟩ := R.dr.part.row (e := 0) (by have := R.pos; omega)
    have := (List.getElem?_eq_some_iff.mp hr).1
    omega
  -- lands, nearer
  refine q_set (call_lands (v_var rfl) hl hv D) ?_
  rintro b H1 ⟨B1, e1, hb⟩
  refine q_set (call_tree (v_var rfl) (v_var rfl) e1.le (hv.le e1.bb.le) D hpos) ?_
  rintro w2 H2 ⟨pn, B2, T, rfl, e2, t, hBn, hHn, _, _⟩
  have e12 := e1.trans e2
  -- first = land_numbers(lands)[drawing[root][0]]
  obtain ⟨r, hr⟩ : ∃ r, rows[0]? = some r := ⟨_, List.getElem?_eq_getElem hpos⟩
  have hrm := List.mem_of_getElem? hr
  obtain ⟨x, hx⟩ : ∃ x, r[0]? = some x := ⟨_, List.getElem?_eq_getElem (List.length_pos_iff.mpr (D.ne r hrm))⟩
  have hxl := R.dr.part.lt hrm (List.mem_of_getElem? hx)
  have hxf : x ∈ (landsOf rows m).flatten := (R.dr.lands.mem x).mpr hxl
  refine q_set (P := fun w H' => ∃ B3, Ext B2 H2 B3 H' ∧ w = nv (seat (landsOf rows m) x)) (v_getH (call_lnum (B := B2) (v_var rfl) e2.le (hb.le e2.bb.le) F) ?_) ?_
  · rintro w H3 ⟨B3, e3, hw⟩
    have e123 := e12.trans e3
    obtain ⟨w0, hw0, hw0l⟩ := v_row (K := K) (σ := [some v, some (nv 0), some b, some (.ref pn), none, none]) (ta := tVar 0) (tb := tVar 1) (v_var rfl) e123.le (hv.le e123.bb.le) (v_var rfl) hr
    exact ⟨ki x, _, _, v_ixN hw0 (hw0l.le e123.le) v_c hx, hw.le e3.le, dkv_in hxf, B3, e3, rfl⟩
  rintro w3 H3 ⟨B3, e3, rfl⟩
  have e123 := e12.trans e3
  have hHn3 := e3.hh pn _ hHn
  -- towards = land_tree(lands, nearer, first)
  refine q_set (call_ltree (B := B3) (v_var rfl) (v_var rfl) (v_var rfl) e123.le (hb.le (e2.bb.trans e3.bb).le) D t hHn3 (R.dr.lands.s_lt hxl)) ?_
  rintro w4 H4 ⟨pc, B4, C, rfl, e4, c, hBc, hHc, _, _⟩
  have e1234 := e123.trans e4
  have hHn4 := e4.hh pn _ hHn3
  -- the result
  unfold tRet tTup
  refine v_var rfl _ (v_var rfl _ (call_left (B := B4) (σ := [some v, some (nv 0), some b, some (.ref pn), some (nv (seat (landsOf rows m) x)), some (.ref pc)]) (v_var rfl) (v_var rfl) (v_var rfl) e1234.le (hv.le e1234.bb.le) D t c hHn4 hHc (R.full t) _ ?_))
  rintro w5 H5 ⟨B5, ks, e5, hks, hleft⟩
  refine ⟨Nat.le_trans (by simp : _ ≤ 100000) (by decide), fun tp htp => ?_⟩
  have e6 := (e1234.trans e5).own htp (o := .tup [.ref pn, .ref pc, w5])
  exact k tp B5 _ T C _ ks pn pc w5 e6 upd_same t c hleft (e5.bb pn _ (e4.bb pn _ (e3.bb pn _ hBn))) (e5.bb pc _ hBc) hks
end
end Rf
end
section
set_option linter.all false
set_option autoImplicit false
set_option maxRecDepth 100000
set_option maxHeartbeats 1000000
/-! P12: part_about, parts_of. -/
namespace Rf
open PySem L2
section
variable {K : PySem.W.Frag} {σ : St} {B H : Hp} {ta tb tc te tl : TE}
/-- all places, in a list -/
def AllN (n : Nat) (ks : List Nat) : Prop := ks.Nodup ∧ ∀ x, x ∈ ks ↔ x < n
theorem AllN.perm {n : Nat} {ks : List Nat} (h : AllN n ks) : ks.Perm (List.range n) := (List.perm_ext_iff_of_nodup h.1 List.nodup_range).mpr fun x => by rw [h.2, List.mem_range]
def sp_about (K : PySem.W.Frag) : Sp := fun vs H Q _ => ∃ B v1 v2 rows m start, vs = [v1, v2, nv start] ∧ Le B H ∧ LL K B v1 rows ∧ LN K B v2 ((List.range (2 * m)).map (seat rows)) ∧ Dw rows m ∧ Ring rows m ∧ start < rows.length ∧
  Ret B H (fun w B' => ∃ ks, LN K B' w ks ∧ AllN rows.length ks) Q
theorem call_about {v1 v2 : V} {rows : List (List Nat)} {m start : Nat} (h1 : Val ta σ H v1) (h2 : Val tb σ H v2) (h3 : Val tc σ H (nv start)) (l : Le B H) (hv : LL K B v1 rows) (hs : LN K B v2 ((List.range (2 * m)).map (seat rows))) (D : Dw rows m) (R : Ring rows m) (hlt : start < rows.length) :
    VH (tCall (sp_about K) [] E0 (tCons ta (tCons tb (tCons tc tNil)))) σ H fun w H' => ∃ (B' : Hp) (ks : List Nat), Ext B H B' H' ∧ LN K B' w ks ∧ AllN rows.length ks :=
  c_call (g_cons h1 (g_cons h2 (g_cons h3 g_nil))) fun Q q => ⟨B, v1, v2, rows, m, start, rfl, l, hv, hs, D, R, hlt, fun w B' H' e ⟨ks, h1, h2⟩ => q w H' ⟨B', ks, e, h1, h2⟩⟩
/-- a list without its last item -/
theorem unsnoc {α : Type} {l : List α} (h : 0 < l.length) : ∃ i z, l = i ++ [z] := ⟨l.dropLast, l.getLast (List.length_pos_iff.mp h), (List.dropLast_concat_getLast _).symm⟩
theorem r_part_about (vs : List V) (H : Hp) (Q : VK) (E : XK) (h : sp_about K vs H Q E) : t_part_about K sp_mate { nx := fun _ H' => Q .non H', rt := Q } (L2.start N_part_about vs) H := by
  obtain ⟨B, v1, v2, rows, m, start, rfl, hl, hv, hsv, D, R, hst, k⟩ := h
  have P := D.dr.part
  have hsn := D.sn
  -- seen = {start: True}; waiting = [start]
  refine q_set (n_disp1 (k := ki start) (v := .bl true) (fun H' _ => v_var rfl) (fun H' _ => v_c)) ?_
  rintro w2 H2 ⟨p, hp, rfl, rfl⟩
  have e2 := (Ext.refl hl).own hp (o := .dK (dkv [start] fun _ => .bl true))
  have o2 : Own H B _ p (.dK (dkv [start] fun _ => .bl true)) := Own.of_new (.refl H) hl hp
  refine q_set (n_lst (g_cons (v_var rfl) g_nil) (by simp)) ?_
  rintro w3 H3 ⟨q, hq, rfl, rfl⟩
  have hq : (upd H p (.dK (dkv [start] fun _ => .bl true))) q = none := hq
  have e3 := e2.own hq (o := .lst ([start].map nv))
  have oq3 : Own H B _ q (.lst ([start].map nv)) := Own.of_new e2.hh e2.le hq
  have npq : p ≠ q := ne_of_none o2.h hq
  have o3 := o2.other npq (u := .lst ([start].map nv))
  -- while len(waiting) > 0
  refine q_seq (f_while (m0 := 2 * rows.length)
    (fun n σ H' => ∃ (x5 x6 x7 : Option V) (ks ws : List Nat), σ = [some v1, some v2, some (nv start), some (.ref p), some (.ref q), x5, x6, x7] ∧ Ext B H B H' ∧ Own H B H' p (.dK (dkv ks fun _ => .bl true)) ∧ Own H B H' q (.lst (ws.map nv)) ∧
      ks.Nodup ∧ (∀ x ∈ ks, x < rows.length) ∧ (∀ x ∈ ws, x ∈ ks) ∧ start ∈ ks ∧ ws.length ≤ ks.length ∧ 2 * (rows.length - ks.length) + ws.length ≤ n ∧
      ∀ e, e < 2 * m → seat rows e ∈ ks → seat rows e ∉ ws → seat rows (mate e) ∈ ks)
    ⟨none, none, none, [start], [start], rfl, e3, o3, oq3, by simp, by simpa using hst, by simp, by simp, by simp, by simp; omega, fun e _ h1 h2 => absurd h1 h2⟩ ?_)
  rintro n σ4 H4 ⟨x5, x6, x7, ks, ws, rfl, e4, o4, oq4, hnd, hlt, hwk, hsk, hwl, hms, hdone⟩
  have hkl : ks.length ≤ rows.length := nodup_le hnd hlt
  refine ⟨decide (0 < ws.length), a_t (vas (v_gt (v_lenN (v_var rfl) (LN.of oq4.h)) v_c) (by congr 1; simp only [decide_eq_decide]; omega)), fun hb => ?_, fun hb => ?_⟩
  · obtain ⟨wi, P0, rfl⟩ := unsnoc (of_decide_eq_true hb)
    have hpop : H4 q = some (.lst (wi.map nv ++ [nv P0])) := by rw [oq4.h, List.map_append]; rfl
    refine q_set (n_pop (v_var rfl) hpop) ?_
    rintro w5 H5 ⟨rfl, rfl⟩
    have e5 := e4.put oq4 (.lst (wi.map nv))
    have oq5 := oq4.put (.lst (wi.map nv))
    have o5 := o4.other npq (u := .lst (wi.map nv))
    have hPk : P0 ∈ ks := hwk _ (by simp)
    obtain ⟨r, hrow⟩ : ∃ r, rows[P0]? = some r := ⟨_, List.getElem?_eq_getElem (hlt _ hPk)⟩
    have hrm := List.mem_of_getElem? hrow
    rw [List.length_append] at hwl hms
    simp only [List.length_singleton] at hwl hms
    -- for end in drawing[place]
    obtain ⟨w, hw, hwl'⟩ := v_row (K := K) (σ := [some v1, some v2, some (nv start), some (.ref p), some (.ref q), some (nv P0), x6, x7]) (ta := tVar 0) (tb := tVar 5) (v_var rfl) e5.le hv (v_var rfl) hrow
    refine f_LN (B := B) hw hwl'
      (fun j σ H' => ∃ (x6 x7 : Option V) (ks ws : List Nat), σ = [some v1, some v2, some (nv start), some (.ref p), some (.ref q), some (nv P0), x6, x7] ∧ Ext B H B H' ∧ Own H B H' p (.dK (dkv ks fun _ => .bl true)) ∧ Own H B H' q (.lst (ws.map nv)) ∧
        ks.Nodup ∧ (∀ x ∈ ks, x < rows.length) ∧ (∀ x ∈ ws, x ∈ ks) ∧ start ∈ ks ∧ P0 ∈ ks ∧ ws.length + 1 ≤ ks.length ∧ 2 * (rows.length - ks.length) + ws.length + 1 ≤ n ∧
        (∀ e, e < 2 * m → seat rows e ∈ ks → seat rows e ∉ ws → seat rows e ≠ P0 → seat rows (mate e) ∈ ks) ∧ ∀ e ∈ r.take j, seat rows (mate e) ∈ ks)
      ⟨x6, x7, ks, wi, rfl, e5, o5, oq5, hnd, hlt, fun x hx => hwk x (by simp [hx]), hsk, hPk, by omega, by omega, fun e he h1 h2 h3 => hdone e he h1 (fun z => by rcases List.mem_append.mp z with z | z; exact h2 z; exact h3 (List.mem_singleton.mp z)), by simp⟩ (fun j σ' H' ⟨_, _, _, _, _, e, _⟩ => e.le) ?_ ?_
    · rintro j e σ6 H6 hej ⟨x6, x7, ks, ws, rfl, e6, o6, oq6, hnd, hlt, hwk, hsk, hPk, hwl, hms, hdone, hall⟩
      have hem := List.mem_of_getElem? hej
      have hel := P.lt hrm hem
      have hkl : ks.length ≤ rows.length := nodup_le hnd hlt
      have hgoal : ((List.range (2 * m)).map (seat rows))[mate e]? = some (seat rows (mate e)) := by
        rw [List.getElem?_map, List.getElem?_range (mate_lt hel)]; rfl
      refine q_setV (v_ixN (v_var rfl) (hsv.le e6.le) (call_mate (v_var rfl)) hgoal) ?_
      refine s_if (a_b (v_nin (n := seat rows (mate e)) (v_var rfl) (v_var rfl) (DK.of o6.h))) (fun hb2 => ?_) (fun hb2 => ?_)
      · have hnew := nd_t hb2
        refine q_seq (s_putN (n := seat rows (mate e)) (f := fun _ => .bl true) v_c (v_var rfl) (v_var rfl) o6.h hnew (by omega) ?_)
        have e7 := e6.put o6 (.dK (dkv (ks ++ [seat rows (mate e)]) fun _ => .bl true))
        have o7 := o6.put (.dK (dkv (ks ++ [seat rows (mate e)]) fun _ => .bl true))
        have oq7 := oq6.other npq.symm (u := .dK (dkv (ks ++ [seat rows (mate e)]) fun _ => .bl true))
        refine s_app (v := nv (seat rows (mate e))) (v_var rfl) (v_var rfl) oq7.h (by rw [List.length_map]; omega) ?_
        have hslt : seat rows (mate e) < rows.length := P.s_lt (mate_lt hel)
        have hnd2 : (ks ++ [seat rows (mate e)]).Nodup := by
          rw [List.nodup_append]
          exact ⟨hnd, by simp, fun a ha b hb z => by simp at hb; subst hb z; exact hnew ha⟩
        have hlt2 : ∀ x ∈ ks ++ [seat rows (mate e)], x < rows.length := fun x hx => by
          rcases List.mem_append.mp hx with z | z
          · exact hlt x z
          · rw [List.mem_singleton.mp z]; exact hslt
        have hkl2 := nodup_le hnd2 hlt2
        simp only [List.length_append, List.length_singleton] at hkl2
        refine ⟨_, _, ks ++ [seat rows (mate e)], ws ++ [seat rows (mate e)], rfl, e7.put oq7 _, o7.other npq, by rw [List.map_append]; exact oq7.put _, hnd2, hlt2, fun x hx => ?_, by simp [hsk], by simp [hPk], by simp; omega, by simp; omega, fun y hy h1 h2 h3 => ?_, fun y hy => ?_⟩
        · rcases List.mem_append.mp hx with z | z
          · exact List.mem_append.mpr (.inl (hwk x z))
          · exact List.mem_append.mpr (.inr z)
        · rcases List.mem_append.mp h1 with z | z
          · exact List.mem_append.mpr (.inl (hdone y hy z (fun u => h2 (List.mem_append.mpr (.inl u))) h3))
          · exact absurd (List.mem_append.mpr (.inr z)) h2
        · rw [take_snoc hej] at hy
          rcases List.mem_append.mp hy with z | z
          · exact List.mem_append.mpr (.inl (hall y z))
          · rw [List.mem_singleton.mp z]; simp
      · have hold := nd_f hb2
        refine ⟨_, _, ks, ws, rfl, e6, o6, oq6, hnd, hlt, hwk, hsk, hPk, hwl, hms, hdone, fun y hy => ?_⟩
        rw [take_snoc hej] at hy
        rcases List.mem_append.mp hy with z | z
        · exact hall y z
        · rw [List.mem_singleton.mp z]; exact hold
    · rintro σ6 H6 ⟨x6, x7, ks, ws, rfl, e6, o6, oq6, hnd, hlt, hwk, hsk, hPk, hwl, hms, hdone, hall⟩
      rw [List.take_length] at hall
      refine ⟨n - 1, by omega, _, x6, x7, ks, ws, rfl, e6, o6, oq6, hnd, hlt, hwk, hsk, by omega, by omega, fun e he h1 h2 => ?_⟩
      by_cases z : seat rows e = P0
      · obtain ⟨l, hl1, hl2⟩ := P.row he
        rw [z, hrow] at hl1
        cases hl1
        exact hall e hl2
      · exact hdone e he h1 h2 z
  · have hws : ws = [] := by
      have := of_decide_eq_false hb
      exact List.eq_nil_of_length_eq_zero (by omega)
    subst hws
    refine s_ret (n_sortD (v_var rfl) (DK.of o4.h)) ?_
    rintro w5 H5 ⟨r, zs, hr, rfl, rfl, hz, _⟩
    have e5 := e4.trans (Ext.new e4.le hr (o := .lst (zs.map nv)))
    refine k _ _ _ e5 ⟨zs, LN.of upd_same, hz.nodup_iff.mpr hnd, fun x => ?_⟩
    rw [hz.mem_iff]
    refine ⟨hlt x, fun hx => ?_⟩
    obtain ⟨e0, h0, hs0⟩ := R.at hst
    obtain ⟨e1, h1, hs1⟩ := R.at hx
    rw [← hs1]
    exact R.conn (fun e => seat rows e ∈ ks) (fun y hy h => by rw [P.s_nx hy]; exact h) (fun y hy h => hdone y hy h (by simp)) e0 e1 h0 h1 (by rw [hs0]; exact hsk)

/-! ### parts_of -/
def sp_parts (K : PySem.W.Frag) : Sp := fun vs H Q _ => ∃ B v rows m, vs = [v] ∧ Le B H ∧ LL K B v rows ∧ Dw rows m ∧ Ring rows m ∧ Ret B H (fun w B' => ∃ ks, LL K B' w [ks] ∧ AllN rows.length ks) Q
theorem call_parts {v : V} {rows : List (List Nat)} {m : Nat} (h1 : Val te σ H v) (l : Le B H) (hv : LL K B v rows) (D : Dw rows m) (R : Ring rows m) :
    VH (tCall (sp_parts K) [] E0 (tCons te tNil)) σ H fun w H' => ∃ (B' : Hp) (ks : List Nat), Ext B H B' H' ∧ LL K B' w [ks] ∧ AllN rows.length ks :=
  c_call (g_cons h1 g_nil) fun Q q => ⟨B, v, rows, m, rfl, l, hv, D, R, fun w B' H' e ⟨ks, h1, h2⟩ => q w H' ⟨B', ks, e, h1, h2⟩⟩
theorem Ring.rpos {rows : List (List Nat)} {m : Nat} (R : Ring rows m) : 0 < rows.length := by
  obtain ⟨r, hr, _⟩ := R.dr.part.row (e := 0) (by have := R.pos; omega)
  have := (List.getElem?_eq_some_iff.mp hr).1
  omega
theorem r_parts_of (vs : List V) (H : Hp) (Q : VK) (E : XK) (h : sp_parts K vs H Q E) : t_parts_of K (sp_about K) (sp_seats K) { nx := fun _ H' => Q .non H', rt := Q } (L2.start N_parts_of vs) H := by
  obtain ⟨B, v, rows, m, rfl, hl, hv, D, R, k⟩ := h
  have hsn := D.sn
  have hrp := R.rpos
  refine q_set (call_seats (v_var rfl) hl hv D) ?_
  rintro b H1 ⟨B1, e1, hb⟩
  refine q_set n_dict ?_
  rintro w2 H2 ⟨p, hp, rfl, rfl⟩
  have e2 := e1.own hp (o := .dK [])
  have o2 : Own H B1 _ p (.dK []) := Own.of_new e1.hh e1.le hp
  refine q_set (n_lst g_nil (by simp)) ?_
  rintro w3 H3 ⟨q, hq, rfl, rfl⟩
  have e3 := e2.own hq (o := .lst [])
  have oq3 : Own H B1 _ q (.lst []) := Own.of_new e2.hh e2.le hq
  have npq : p ≠ q := ne_of_none o2.h hq
  have o3 := o2.other npq (u := .lst [])
  refine q_seq (f_rng (n := rows.length) (v_lenL (v_var rfl) (hv.le (e1.bb.le.trans e3.le))) (by omega)
    (fun i σ H' => ∃ (x4 x5 x6 : Option V) (B2 : Hp) (ks : List Nat) (us : List V) (zs : List (List Nat)), σ = [some v, some b, some (.ref p), some (.ref q), x4, x5, x6] ∧ Ext B H B2 H' ∧ Ex B1 B2 ∧ Own H B2 H' p (.dK (dkv ks fun _ => .bl true)) ∧ Own H B2 H' q (.lst us) ∧ Each (LN K B2) us zs ∧
      ((i = 0 ∧ ks = [] ∧ zs = []) ∨ (0 < i ∧ ∃ z, zs = [z] ∧ AllN rows.length z ∧ ∀ x, x ∈ ks ↔ x < rows.length)))
    ⟨none, none, none, B1, [], [], [], rfl, e3, .refl _, o3, oq3, Each.nil, .inl ⟨rfl, rfl, rfl⟩⟩ ?_ ?_)
  · rintro i σ4 H4 hi ⟨x4, x5, x6, B2, ks, us, zs, rfl, e4, eb, o4, oq4, hus, hc⟩
    refine s_if (a_b (v_nin (n := i) (v_var rfl) (v_var rfl) (DK.of o4.h))) (fun hb2 => ?_) (fun hb2 => ?_)
    · have hnew := nd_t hb2
      rcases hc with ⟨rfl, rfl, rfl⟩ | ⟨h0, z, rfl, hz, hks⟩
      · have hus0 : us = [] := List.eq_nil_of_length_eq_zero hus.1
        subst hus0
        refine q_set (call_about (B := B2) (v_var rfl) (v_var rfl) (v_var rfl) e4.le (hv.le e4.bb.le) (hb.le eb.le) D R hrp) ?_
        rintro w5 H5 ⟨B5, z, e5', hz, ha⟩
        have e5 := e4.trans e5'
        have o5 := o4.ext e5'
        have oq5 := oq4.ext e5'
        refine q_seq (f_LN (B := B5) (v_var rfl) hz
          (fun j σ H' => ∃ (x6 : Option V) (ks : List Nat), σ = [some v, some b, some (.ref p), some (.ref q), some (nv 0), some w5, x6] ∧ Ext B H B5 H' ∧ Own H B5 H' p (.dK (dkv ks fun _ => .bl true)) ∧ Own H B5 H' q (.lst []) ∧ ks.Nodup ∧ ∀ x, x ∈ ks ↔ x ∈ z.take j)
          ⟨x6, [], rfl, e5, o5, oq5, by simp, by simp⟩ (fun j σ' H' ⟨_, _, _, e, _⟩ => e.le) ?_ ?_)
        · rintro j y σ6 H6 hy ⟨x6, ks, rfl, e6, o6, oq6, hnd, hks⟩
          have hkl : ks.length ≤ rows.length := nodup_le hnd fun x hx => (ha.2 x).mp (List.mem_of_mem_take ((hks x).mp hx))
          refine s_dput (k := ki y) (v := .bl true) v_c (v_var rfl) (v_var rfl) o6.h (by rw [dkv_len]; omega) ?_
          rw [dkv_true]
          refine ⟨_, _, rfl, e6.put o6 _, o6.put _, oq6.other npq.symm, add1_nodup hnd, fun x => ?_⟩
          rw [add1_mem, hks, take_snoc hy]; simp
        · rintro σ6 H6 ⟨x6, ks, rfl, e6, o6, oq6, hnd, hks⟩
          rw [List.take_length] at hks
          refine s_app (v_var rfl) (v_var rfl) oq6.h (by simp) ?_
          refine ⟨_, _, _, B5, ks, [] ++ [w5], [] ++ [z], rfl, e6.put oq6 _, eb.trans e5'.bb, o6.other npq, oq6.put _, Each.nil.snoc hz, .inr ⟨by omega, z, rfl, ha, fun x => by rw [hks, ha.2]⟩⟩
      · exact absurd ((hks i).mpr hi) hnew
    · have hold := nd_f hb2
      rcases hc with ⟨rfl, rfl, rfl⟩ | ⟨h0, z, rfl, hz, hks⟩
      · exact absurd hold (by simp)
      · exact ⟨_, _, _, B2, ks, us, [z], rfl, e4, eb, o4, oq4, hus, .inr ⟨by omega, z, rfl, hz, hks⟩⟩
  · rintro σ4 H4 ⟨x4, x5, x6, B2, ks, us, zs, rfl, e4, eb, o4, oq4, hus, hc⟩
    rcases hc with ⟨h0, _⟩ | ⟨h0, z, rfl, hz, hks⟩
    · omega
    · exact s_retV (v_var rfl) (k _ _ _ (e4.freeze oq4) ⟨z, LL.of upd_same (hus.mono fun u x hx => hx.le (Ex.new oq4.b).le), hz⟩)
end
end Rf
end
section
set_option linter.all false
set_option autoImplicit false
set_option maxRecDepth 100000
set_option maxHeartbeats 1000000
/-! P13: holes_of, is_ring, ask_ring. -/
namespace Rf
open PySem L2
section
variable {K : PySem.W.Frag} {σ : St} {B H : Hp} {ta tb tc te tl : TE} {g : TG} {tb' : TS} {D : Ends}
theorem f_listH {P : V → Hp → Prop} (h : VH tl σ H P) (k : ∀ w H1, P w H1 → tFor (iList K (tC w)) g tb' D σ H1) : tFor (iList K tl) g tb' D σ H := h _ fun w H1 p => k w H1 p
theorem sum_set : ∀ {xs : List Int} {j : Nat} {a : Int}, xs[j]? = some a → (xs.set j (a + 1)).sum = xs.sum + 1
  | [], j, a, h => by simp at h
  | x :: xs, 0, a, h => by
    cases Option.some.inj h
    simp; omega
  | x :: xs, j + 1, a, h => by
    have h2 : xs[j]? = some a := h
    have := sum_set h2
    simp only [List.set_cons_succ, List.sum_cons, this]
    omega
theorem sum_rep : ∀ n : Nat, (List.replicate n (0 : Int)).sum = 0
  | 0 => rfl
  | n + 1 => by rw [List.replicate_succ, List.sum_cons, sum_rep n]; rfl
theorem perm_sum {l k : List Int} (h : l.Perm k) : l.sum = k.sum := by
  induction h with
  | nil => rfl
  | cons x _ ih => rw [List.sum_cons, List.sum_cons, ih]
  | swap x y l => simp only [List.sum_cons]; omega
  | trans _ _ a b => rw [a, b]
theorem sum_all {xs : List Int} {zs : List Nat} (h : AllN xs.length zs) : (zs.map fun n => xs.getD n 0).sum = xs.sum := by
  rw [perm_sum (h.perm.map _)]
  congr 1
  refine List.ext_getElem? fun i => ?_
  by_cases hi : i < xs.length
  · rw [List.getElem?_map, List.getElem?_range hi, List.getElem?_eq_getElem hi]
    simp [hi]
  · rw [List.getElem?_eq_none (by simp; omega), List.getElem?_eq_none (by omega)]
theorem map_set_int {xs : List Int} {j : Nat} {a : Int} : (xs.map V.int).set j (.int a) = (xs.set j a).map V.int := by rw [List.map_set]
def sp_holes (K : PySem.W.Frag) : Sp := fun vs H Q _ => ∃ B v rows m, vs = [v] ∧ Le B H ∧ LL K B v rows ∧ Dw rows m ∧ Ring rows m ∧ Ret B H (fun w B' => LI K B' w [1]) Q
theorem call_holes {v : V} {rows : List (List Nat)} {m : Nat} (h1 : Val te σ H v) (l : Le B H) (hv : LL K B v rows) (D : Dw rows m) (R : Ring rows m) :
    VH (tCall (sp_holes K) [] E0 (tCons te tNil)) σ H fun w H' => ∃ B', Ext B H B' H' ∧ LI K B' w [1] :=
  c_call (g_cons h1 g_nil) fun Q q => ⟨B, v, rows, m, rfl, l, hv, D, R, fun w B' H' e h1 => q w H' ⟨B', e, h1⟩⟩
theorem r_holes_of (vs : List V) (H : Hp) (Q : VK) (E : XK) (h : sp_holes K vs H Q E) : t_holes_of K (sp_parts K) (sp_lands K) (sp_seats K) { nx := fun _ H' => Q .non H', rt := Q } (L2.start N_holes_of vs) H := by
  obtain ⟨B, v, rows, m, rfl, hl, hv, D, R, k⟩ := h
  have hsn := D.sn
  have hm := D.sm
  have hrp := R.rpos
  have hFl := R.lands
  have PL := D.dr.lands
  refine q_set (call_seats (v_var rfl) hl hv D) ?_
  rintro b H1 ⟨B1, e1, hb⟩
  refine q_set (n_zerosL (n := rows.length) (c := .int 0) e1.le (fun H' e => v_lenL (v_var rfl) (hv.le (e1.bb.le.trans (e1.le.trans e.le)))) (by omega)) ?_
  rintro w2 H2 ⟨p, e2', o2', rfl⟩
  have e2 := e1.trans e2'
  have o2 : Own H B1 H2 p (.lst (List.replicate rows.length (.int 0))) := ⟨e1.hh.free o2'.h0, o2'.b, o2'.h⟩
  -- for land in lands_of(drawing)
  refine q_seq (f_listH (call_lands (v_var rfl) e2.le (hv.le e2.bb.le) D) ?_)
  rintro w3 H3 ⟨B3, e3', hw3⟩
  have e3 := e2.trans e3'
  have o3 := o2.ext e3'
  refine f_LL (B := B3) v_c hw3
    (fun i σ H' => ∃ (x3 : Option V) (xs : List Int), σ = [some v, some b, some (.ref p), x3, none, none, none, none, none] ∧ Ext B H B3 H' ∧ Own H B3 H' p (.lst (xs.map V.int)) ∧ xs.length = rows.length ∧ xs.sum = i)
    ⟨none, List.replicate rows.length 0, rfl, e3, by rw [List.map_replicate]; exact o3, by simp, by rw [sum_rep]; rfl⟩ (fun i σ' H' ⟨_, _, _, e, _⟩ => e.le) ?_ ?_
  · rintro i w l σ4 H4 hil hwl ⟨x3, xs, rfl, e4, o4, hxl, hxs⟩
    have hlm := List.mem_of_getElem? hil
    have hne : l ≠ [] := rings_ne R.inj l hlm
    obtain ⟨x, hx⟩ : ∃ x, l[0]? = some x := ⟨_, List.getElem?_eq_getElem (List.length_pos_iff.mpr hne)⟩
    have hxl2 := PL.lt hlm (List.mem_of_getElem? hx)
    refine s_if (b := true) (a_t (vas (v_gt (v_lenN (v_var rfl) (hwl.le e4.le)) v_c) (by have := List.length_pos_iff.mpr hne; rw [decide_eq_true]; omega))) (fun _ => ?_) (fun h => by cases h)
    have hgoal : ((List.range (2 * m)).map (seat rows))[x]? = some (seat rows x) := by
      rw [List.getElem?_map, List.getElem?_range hxl2]; rfl
    have hslt : seat rows x < xs.length := by rw [hxl]; exact D.dr.part.s_lt hxl2
    have hat : xs[seat rows x]? = some xs[seat rows x] := List.getElem?_eq_getElem hslt
    refine s_augL (j := seat rows x) (a := xs[seat rows x]) (v_var rfl) (v_ixN (v_var rfl) (hb.le ((e2'.bb.trans e3'.bb).le.trans e4.le)) (v_ixN (v_var rfl) (hwl.le e4.le) v_c hx) hgoal) o4.h (by rw [List.getElem?_map, hat]; rfl) v_c ?_
    rw [map_set_int]
    exact ⟨_, _, rfl, e4.put o4 _, o4.put _, by rw [List.length_set]; exact hxl, by rw [sum_set hat, hxs]; omega⟩
  · rintro σ4 H4 ⟨x3, xs, rfl, e4, o4, hxl, hxs⟩
    -- holes = []
    have e4f := e4.freeze o4
    have hbeg : LI K (upd B3 p (.lst (xs.map V.int))) (.ref p) xs := .of upd_same
    have bb4 := e4f.bb
    refine q_set (n_lst g_nil (by simp)) ?_
    rintro w5 H5 ⟨q, hq, rfl, rfl⟩
    have e5 := e4f.own hq (o := .lst [])
    have o5 : Own H (upd B3 p (.lst (xs.map V.int))) _ q (.lst []) := Own.of_new e4f.hh e4f.le hq
    -- for part in parts_of(drawing)
    refine q_seq (f_listH (call_parts (v_var rfl) e5.le (hv.le bb4.le) D R) ?_)
    rintro w6 H6 ⟨B6, zs, e6', hw6, hz⟩
    have e6 := e5.trans e6'
    have o6 := o5.ext e6'
    refine f_LL (B := B6) v_c hw6
      (fun i σ H' => ∃ (x5 x6 x7 x8 : Option V) (B7 : Hp), σ = [some v, some b, some (.ref p), x3, some (.ref q), x5, x6, x7, x8] ∧ Ex B6 B7 ∧ Ext B H B7 H' ∧ Own H B7 H' q (.lst ((List.replicate i (1 : Int)).map V.int)))
      ⟨none, none, none, none, B6, rfl, .refl _, e6, o6⟩ (fun i σ' H' ⟨_, _, _, _, _, _, eb, e, _⟩ => eb.le.trans e.le) ?_ ?_
    · rintro i w l σ7 H7 hil hwl0 ⟨x5, x6, x7, x8, B7, rfl, eb7, e7, o7⟩
      have hwl := hwl0.le eb7.le
      have hi0 : i = 0 := by
        have := (List.getElem?_eq_some_iff.mp hil).1
        simpa using this
      subst hi0
      cases Option.some.inj hil
      have hzl : zs.length = rows.length := by have := hz.perm.length_eq; rwa [List.length_range] at this
      obtain ⟨a, rfl, ha⟩ := id hwl
      -- ends
      refine q_set (P := fun w H' => ∃ B', Ext B7 H7 B' H' ∧ w = nv (2 * m)) (n_sum (n_lc (fun _ => true) (fun x => match x with | .int z => nv (rows.getD z.toNat []).length | _ => .non) (v_var rfl) (sqL_le ha e7.le) (by rw [List.length_map]; omega) (fun _ => rfl) (fun x H' _ _ => a_yes) fun x H' hx e _ => ?_) fun w' H' hw' => ?_) ?_
      · obtain ⟨n, hn, rfl⟩ := List.mem_map.mp hx
        have hnl := (hz.2 n).mp hn
        obtain ⟨w0, hw0, hw0l⟩ := v_row (K := K) (B := B7) (H := H') (σ := [some v, some b, some (.ref p), x3, some (.ref q), some (.ref a), x6, some (nv n), x8]) (ta := tVar 0) (tb := tVar 7) (v_var rfl) (e7.le.trans e.le) (hv.le e7.bb.le) (v_var rfl) (List.getElem?_eq_getElem hnl)
        refine vas (v_lenN hw0 (hw0l.le (e7.le.trans e.le))) ?_
        show nv rows[n].length = nv (rows.getD (n : Int).toNat []).length
        rw [Int.toNat_natCast, List.getD_eq_getElem?_getD, List.getElem?_eq_getElem hnl]; rfl
      · obtain ⟨d, hd, rfl, rfl⟩ := hw'
        have e8 : ((zs.map nv).filter fun _ => true).map (fun x => match x with | .int z => nv (rows.getD z.toNat []).length | _ => .non) = (zs.map fun n => (rows.map fun r => (r.length : Int)).getD n 0).map V.int := by
          rw [show (zs.map nv).filter (fun _ => true) = zs.map nv from List.filter_eq_self.mpr fun _ _ => rfl, List.map_map, List.map_map]
          refine List.map_congr_left fun n hn => ?_
          show nv (rows.getD (n : Int).toNat []).length = V.int ((rows.map fun r => (r.length : Int)).getD n 0)
          have hnl := (hz.2 n).mp hn
          rw [Int.toNat_natCast, List.getD_eq_getElem?_getD, List.getD_eq_getElem?_getD, List.getElem?_map, List.getElem?_eq_getElem hnl]; rfl
        refine ⟨d, _, rfl, .of (by rw [upd_same, e8]), _, Ext.new e7.le hd, ?_⟩
        rw [sum_all (xs := rows.map fun r => (r.length : Int)) (by rw [List.length_map]; exact hz), sum_len, D.len]
        rfl
      rintro w8 H8 ⟨B8, e8', rfl⟩
      have e8 := e7.trans e8'
      have o8 := o7.ext e8'
      -- many
      refine q_set (P := fun w H' => ∃ B', Ext B8 H8 B' H' ∧ w = nv (landsOf rows m).length) (n_sum (n_lc (fun _ => true) (fun x => match x with | .int z => .int (xs.getD z.toNat 0) | _ => .non) (v_var rfl) (sqL_le ha (e8'.bb.le.trans e8.le)) (by rw [List.length_map]; omega) (fun _ => rfl) (fun x H' _ _ => a_yes) fun x H' hx e _ => ?_) fun w' H' hw' => ?_) ?_
      · obtain ⟨n, hn, rfl⟩ := List.mem_map.mp hx
        have hnl := (hz.2 n).mp hn
        refine vas (v_ixI (v_var rfl) (hbeg.le (e6'.bb.le.trans (eb7.le.trans (e8'.bb.le.trans (e8.le.trans e.le))))) (v_var rfl) (List.getElem?_eq_getElem (by rw [hxl]; exact hnl))) ?_
        show _ = V.int (xs.getD (n : Int).toNat 0)
        rw [Int.toNat_natCast, List.getD_eq_getElem?_getD, List.getElem?_eq_getElem (by rw [hxl]; exact hnl)]; rfl
      · obtain ⟨d, hd, rfl, rfl⟩ := hw'
        have e9 : ((zs.map nv).filter fun _ => true).map (fun x => match x with | .int z => V.int (xs.getD z.toNat 0) | _ => .non) = (zs.map fun n => xs.getD n 0).map V.int := by
          rw [show (zs.map nv).filter (fun _ => true) = zs.map nv from List.filter_eq_self.mpr fun _ _ => rfl, List.map_map, List.map_map]
          refine List.map_congr_left fun n hn => ?_
          show V.int (xs.getD (n : Int).toNat 0) = _
          rw [Int.toNat_natCast]; rfl
        refine ⟨d, _, rfl, .of (by rw [upd_same, e9]), _, Ext.new e8.le hd, ?_⟩
        rw [sum_all (xs := xs) (by rw [hxl]; exact hz), hxs]; rfl
      rintro w9 H9 ⟨B9, e9', rfl⟩
      have e9 := e8.trans e9'
      have o9 := o8.ext e9'
      -- if ends == 0
      refine q_if (b := false) (a_t (vas (v_eqI (v_var rfl) v_c) (by have := R.pos; rw [decide_eq_false]; omega))) (fun h => by cases h) (fun _ => ?_)
      -- holes.append(..)
      have hlen : Val (tCB (rLenS K) (tCons (tVar 5) tNil)) [some v, some b, some (.ref p), x3, some (.ref q), some (.ref a), some (nv (2 * m)), x7, some (nv (landsOf rows m).length)] H9 (nv zs.length) := v_lenN (v_var rfl) (hwl.le ((e8'.bb.trans e9'.bb).le.trans e9.le))
      refine s_app (v := .int 1) (v_var rfl) (vint (v_div (v_sub (v_add (v_sub v_c hlen) (v_div (v_var rfl) v_c ⟨by decide, by decide⟩)) (v_var rfl)) v_c ⟨by decide, by decide⟩) ?_) o9.h (by simp) ?_
      · rw [hzl]; omega
      · exact ⟨_, _, _, _, B9, rfl, eb7.trans (e8'.bb.trans e9'.bb), e9.put o9 _, o9.put _⟩
    · rintro σ7 H7 ⟨x5, x6, x7, x8, B7, rfl, eb7, e7, o7⟩
      exact s_retV (v_var rfl) (k _ _ _ (e7.freeze o7) (LI.of upd_same))

/-! ### is_ring, ask_ring -/
def sp_isring (K : PySem.W.Frag) : Sp := fun vs H Q _ => ∃ B v rows m, vs = [v] ∧ Le B H ∧ LL K B v rows ∧ Dw rows m ∧ Ring rows m ∧ Ret B H (fun w _ => w = .bl true) Q
def sp_askring (K : PySem.W.Frag) : Sp := fun vs H Q _ => ∃ B v rows m, vs = [v] ∧ Le B H ∧ LL K B v rows ∧ Dw rows m ∧ Ring rows m ∧ Ret B H (fun w _ => w = .non) Q
theorem call_isring {v : V} {rows : List (List Nat)} {m : Nat} (h1 : Val te σ H v) (l : Le B H) (hv : LL K B v rows) (D : Dw rows m) (R : Ring rows m) :
    VH (tCall (sp_isring K) [] E0 (tCons te tNil)) σ H fun w H' => ∃ B', Ext B H B' H' ∧ w = .bl true :=
  c_call (g_cons h1 g_nil) fun Q q => ⟨B, v, rows, m, rfl, l, hv, D, R, fun w B' H' e h1 => q w H' ⟨B', e, h1⟩⟩
theorem call_askring {v : V} {rows : List (List Nat)} {m : Nat} (h1 : Val te σ H v) (l : Le B H) (hv : LL K B v rows) (D : Dw rows m) (R : Ring rows m) :
    VH (tCall (sp_askring K) [] E0 (tCons te tNil)) σ H fun w H' => ∃ B', Ext B H B' H' ∧ w = .non :=
  c_call (g_cons h1 g_nil) fun Q q => ⟨B, v, rows, m, rfl, l, hv, D, R, fun w B' H' e h1 => q w H' ⟨B', e, h1⟩⟩
theorem r_is_ring (vs : List V) (H : Hp) (Q : VK) (E : XK) (h : sp_isring K vs H Q E) : t_is_ring K (sp_holes K) { nx := fun _ H' => Q .non H', rt := Q } (L2.start N_is_ring vs) H := by
  obtain ⟨B, v, rows, m, rfl, hl, hv, D, R, k⟩ := h
  unfold t_is_ring tRet tOp
  refine call_holes (B := B) (σ := [some v]) (v_var rfl) hl hv D R _ ?_
  rintro w1 H1 ⟨B1, e1, hw1⟩
  have hv2 : Arg (tCons (tC (.int 1)) tNil) [some v] H1 [.int 1] := g_cons v_c g_nil
  refine n_lst hv2 (by simp) _ ?_
  rintro w2 H2 ⟨l, hl2, rfl, rfl⟩
  have e2 := e1.own hl2 (o := .lst [.int 1])
  obtain ⟨a, rfl, ha⟩ := hw1.le e2.le
  refine ⟨.list [.int 1], .list [.int 1], .lst ha (.cons (.int 1) .nil), .lst (.of upd_same) (.cons (.int 1) .nil), by decide, by decide, ?_⟩
  exact k _ B1 _ e2 (by rfl)
theorem r_ask_ring (vs : List V) (H : Hp) (Q : VK) (E : XK) (h : sp_askring K vs H Q E) : t_ask_ring K (sp_isring K) { nx := fun _ H' => Q .non H', rt := Q } (L2.start N_ask_ring vs) H := by
  obtain ⟨B, v, rows, m, rfl, hl, hv, D, R, k⟩ := h
  unfold t_ask_ring tIfS tNot tB
  refine call_isring (B := B) (σ := [some v]) (v_var rfl) hl hv D R _ ?_
  rintro w1 H1 ⟨B1, e1, rfl⟩
  exact ⟨true, rfl, iteF (k _ B1 _ e1 rfl)⟩
end
end Rf
end
section
set_option linter.all false
set_option autoImplicit false
set_option maxRecDepth 100000
set_option maxHeartbeats 1000000
/-! P14: mark_of, _law_mark, added, area_of, areas_added. -/
namespace Rf
open PySem L2
section
variable {K : PySem.W.Frag} {σ : St} {B H : Hp} {ta tb tc te tl : TE} {g : TG} {D : Ends}

/-! ### a comprehension whose elements may be new things -/
theorem n_lcG {a : Addr} {xs : List V} {vs : List Nat} (R : Hp → V → Nat → Prop) (hR : ∀ B1 B2 y i, Ex B1 B2 → R B1 y i → R B2 y i) (l : Le B H) (hl : Val tl σ H (.ref a)) (hx : SqL K B a xs) (hz : xs.length < 100000)
    (he : ∀ i x B1 H1, xs[i]? = some x → Ext B H B1 H1 → ∃ σ2, wipe σ2 vs = wipe σ vs ∧ (∀ Q' : St → Hp → Prop, Q' σ2 H1 → g x (wipe σ vs) H1 Q') ∧ VH te σ2 H1 fun y H4 => ∃ B2, Ext B1 H1 B2 H4 ∧ R B2 y i) :
    VH (tLc (iList K tl) g tYes te vs) σ H fun w H' => ∃ (D : Addr) (B' : Hp) (ys : List V), w = .ref D ∧ Ext B H B' H' ∧ Own H B' H' D (.lst ys) ∧ ys.length = xs.length ∧ ∀ j y, ys[j]? = some y → R B' y j := fun Q q =>
  hl _ ⟨a, rfl, ⟨xs, sqL_le hx l⟩, fun D hD => lc_list (xs := xs) (fun i H' => ∃ (B' : Hp) (ys : List V), Ext B H B' H' ∧ Own H B' H' D (.lst ys) ∧ ys.length = i ∧ ∀ j y, ys[j]? = some y → R B' y j)
    ⟨B, [], (Ext.refl l).own hD, Own.of_new (.refl H) l hD, rfl, fun j y h => by simp at h⟩
    (fun i H' _ ⟨B', ys, e, _⟩ => sqL_le hx (e.bb.le.trans e.le))
    (fun i x H' hi ⟨B', ys, e, o, hl, hys⟩ => by
      obtain ⟨σ2, h1, h2, h3⟩ := he i x B' H' hi e
      refine h2 _ ⟨h1, ?_⟩
      unfold tYes
      refine iteT (h3 _ fun y H4 ⟨B2, e2, r⟩ => ?_)
      have o2 := o.ext e2
      have hlt := (List.getElem?_eq_some_iff.mp hi).1
      refine ⟨ys, o2.h, Nat.lt_of_lt_of_le (by omega : ys.length < 100000) (by decide), B2, ys ++ [y], (e.trans e2).put o2 _, o2.put _, by simp [hl], fun j z hz => ?_⟩
      by_cases hj : j < ys.length
      · rw [List.getElem?_append_left hj] at hz
        exact hR _ _ _ _ e2.bb (hys j z hz)
      · have hb := (List.getElem?_eq_some_iff.mp hz).1
        simp at hb
        have : j = ys.length := by omega
        subst this
        simp at hz
        subst hz
        rw [hl]; exact r)
    (fun H' ⟨B', ys, e, o, hl, hys⟩ => q _ _ ⟨D, B', ys, rfl, e, o, hl, hys⟩)⟩
theorem n_lcB {a : Addr} {xs : List V} {j : Nat} {vs : List Nat} (R : Hp → V → Nat → Prop) (hR : ∀ B1 B2 y i, Ex B1 B2 → R B1 y i → R B2 y i) (l : Le B H) (hl : Val tl σ H (.ref a)) (hx : SqL K B a xs) (hz : xs.length < 100000) (hw : ∀ x, wipe ((wipe σ vs).set j (some x)) vs = wipe σ vs)
    (he : ∀ i x B1 H1, xs[i]? = some x → Ext B H B1 H1 → VH te ((wipe σ vs).set j (some x)) H1 fun y H4 => ∃ B2, Ext B1 H1 B2 H4 ∧ R B2 y i) :
    VH (tLc (iList K tl) (gName j) tYes te vs) σ H fun w H' => ∃ (D : Addr) (B' : Hp) (ys : List V), w = .ref D ∧ Ext B H B' H' ∧ Own H B' H' D (.lst ys) ∧ ys.length = xs.length ∧ ∀ j y, ys[j]? = some y → R B' y j :=
  n_lcG R hR l hl hx hz fun i x B1 H1 hi e => ⟨_, hw x, fun Q' q => q, he i x B1 H1 hi e⟩
/-- items by places, told by a list -/
theorem each_of {α : Type} {R : V → α → Prop} {ys : List V} {zs : List α} (hl : ys.length = zs.length) (h : ∀ (j : Nat) (y : V) (z : α), ys[j]? = some y → zs[j]? = some z → R y z) : Each R ys zs := ⟨hl, h⟩

/-! ### marks -/
def fA (fs : List (Int × Int)) (k : Nat) : Int := (fs.getD k (0, 0)).1
def fB (fs : List (Int × Int)) (k : Nat) : Int := (fs.getD k (0, 0)).2
/-- one, two = v, v a pair -/
theorem q_two {t2 : TS} {i j : Nat} {P : V → Hp → Prop} (h : VH te σ H P) (k : ∀ w H', P w H' → ∃ a b, T2 K H' w (a, b) ∧ t2 D ((σ.set i (some (.int a))).set j (some (.int b))) H') : tSeq (tAsg te (gTup K 2 (gCons (gName i) (gCons (gName j) gNil)))) t2 D σ H := h _ fun w H' p => by
  obtain ⟨a, b, ⟨r, rfl, hr⟩, q⟩ := k w H' p
  exact ⟨r, _, rfl, hr, rfl, _, _, rfl, _, _, rfl, rfl, q⟩
def sp_mark (K : PySem.W.Frag) : Sp := fun vs H Q _ => ∃ B v fs e, vs = [v, nv e] ∧ Le B H ∧ LT K B v fs ∧ e / 2 < fs.length ∧ Ret B H (fun w B' => T2 K B' w (mrk (fA fs) e, mrk (fB fs) e)) Q
theorem call_mark {v : V} {fs : List (Int × Int)} {e : Nat} (h1 : Val ta σ H v) (h2 : Val tb σ H (nv e)) (l : Le B H) (hv : LT K B v fs) (he : e / 2 < fs.length) :
    VH (tCall (sp_mark K) [] E0 (tCons ta (tCons tb tNil))) σ H fun w H' => ∃ B', Ext B H B' H' ∧ T2 K B' w (mrk (fA fs) e, mrk (fB fs) e) :=
  c_call (g_cons h1 (g_cons h2 g_nil)) fun Q q => ⟨B, v, fs, e, rfl, l, hv, he, fun w B' H' e h1 => q w H' ⟨B', e, h1⟩⟩
theorem r_mark_of (vs : List V) (H : Hp) (Q : VK) (E : XK) (h : sp_mark K vs H Q E) : t_mark_of K { nx := fun _ H' => Q .non H', rt := Q } (L2.start N_mark_of vs) H := by
  obtain ⟨B, v, fs, e, rfl, hl, ⟨p, us, rfl, hp, hus⟩, he, k⟩ := h
  have hfs : fs[e / 2]? = some fs[e / 2] := List.getElem?_eq_getElem he
  obtain ⟨u, hu, hur⟩ := hus.get hfs
  have h2 : Val (tOp (rIxL K) (tVar 0) (tOp rDivI (tVar 1) (tC (.int 2)))) [some (.ref p), some (nv e), none, none] H u := v_ixL (j := e / 2) (v_var rfl) (vint (v_div (v_var rfl) v_c ⟨by decide, by decide⟩) (by omega)) (sqL_le hp hl) hu
  refine q_two (val_vh h2) ?_
  rintro w H' ⟨rfl, rfl⟩
  refine ⟨fs[e / 2].1, fs[e / 2].2, hur.le hl, ?_⟩
  have hA : fA fs (e / 2) = fs[e / 2].1 := by unfold fA; rw [List.getD_eq_getElem?_getD, hfs]; rfl
  have hB : fB fs (e / 2) = fs[e / 2].2 := by unfold fB; rw [List.getD_eq_getElem?_getD, hfs]; rfl
  refine q_if (b := decide (e % 2 = 1)) (a_t (vas (v_eqI (v_mod (v_var rfl) v_c (by decide)) v_c) (by congr 1; simp only [decide_eq_decide]; omega))) (fun hb => ?_) (fun hb => ?_)
  · have ho : ¬ e % 2 = 0 := by have := of_decide_eq_true hb; omega
    refine s_ret (n_tup (g_cons (v_neg (v_var rfl)) (g_cons (v_neg (v_var rfl)) g_nil)) (by simp)) ?_
    rintro w' H1 ⟨t, ht, rfl, rfl⟩
    refine k _ _ _ (Ext.new hl ht) ⟨t, rfl, .of ?_⟩
    rw [upd_same]
    unfold mrk
    rw [if_neg ho, if_neg ho, hA, hB]
  · have ho : e % 2 = 0 := by have := of_decide_eq_false hb; omega
    refine s_ret (n_tup (g_cons (v_var rfl) (g_cons (v_var rfl) g_nil)) (by simp)) ?_
    rintro w' H1 ⟨t, ht, rfl, rfl⟩
    refine k _ _ _ (Ext.new hl ht) ⟨t, rfl, .of ?_⟩
    rw [upd_same]
    unfold mrk
    rw [if_pos ho, if_pos ho, hA, hB]
theorem r__law_mark (vs : List V) (H : Hp) (Q : VK) (E : XK) (h : sp_mark K vs H Q E) : t__law_mark K { nx := fun _ H' => Q .non H', rt := Q } (L2.start N__law_mark vs) H := by
  obtain ⟨B, v, fs, e, rfl, h⟩ := h
  exact r_mark_of [v, nv e] H Q E ⟨B, v, fs, e, rfl, h⟩
theorem v_fst {w : V} {a b : Int} (h : Val te σ H w) (hw : T2 K H w (a, b)) : Val (tOp (rIxT K) te (tC (.int 0))) σ H (.int a) := by
  obtain ⟨p, rfl, hp⟩ := hw
  exact v_ixT (j := 0) h v_c hp rfl
theorem v_snd {w : V} {a b : Int} (h : Val te σ H w) (hw : T2 K H w (a, b)) : Val (tOp (rIxT K) te (tC (.int 1))) σ H (.int b) := by
  obtain ⟨p, rfl, hp⟩ := hw
  exact v_ixT (j := 1) h v_c hp rfl

/-! ### added -/
theorem sm_take {f : Nat → Int} {l : List Nat} {i x : Nat} (h : l[i]? = some x) : sm f (l.take (i + 1)) = sm f (l.take i) + f x := by
  rw [take_snoc h, sm_append, sm_cons, sm_nil]; omega
def sp_added (K : PySem.W.Frag) : Sp := fun vs H Q _ => ∃ B v1 v2 fs ns, vs = [v1, v2] ∧ Le B H ∧ LT K B v1 fs ∧ LN K B v2 ns ∧ (∀ e ∈ ns, e / 2 < fs.length) ∧ ns.length ≤ 1000 ∧ Ret B H (fun w B' => T2 K B' w (sm (mrk (fA fs)) ns, sm (mrk (fB fs)) ns)) Q
theorem call_added {v1 v2 : V} {fs : List (Int × Int)} {ns : List Nat} (h1 : Val ta σ H v1) (h2 : Val tb σ H v2) (l : Le B H) (hv : LT K B v1 fs) (hn : LN K B v2 ns) (he : ∀ e ∈ ns, e / 2 < fs.length) (hz : ns.length ≤ 1000) :
    VH (tCall (sp_added K) [] E0 (tCons ta (tCons tb tNil))) σ H fun w H' => ∃ B', Ext B H B' H' ∧ T2 K B' w (sm (mrk (fA fs)) ns, sm (mrk (fB fs)) ns) :=
  c_call (g_cons h1 (g_cons h2 g_nil)) fun Q q => ⟨B, v1, v2, fs, ns, rfl, l, hv, hn, he, hz, fun w B' H' e h1 => q w H' ⟨B', e, h1⟩⟩
theorem r_added (vs : List V) (H : Hp) (Q : VK) (E : XK) (h : sp_added K vs H Q E) : t_added K (sp_mark K) { nx := fun _ H' => Q .non H', rt := Q } (L2.start N_added vs) H := by
  obtain ⟨B, v1, v2, fs, ns, rfl, hl, hv, hn, he, hz, k⟩ := h
  refine q_setV v_c (q_setV v_c ?_)
  refine q_seq (f_LN (B := B) (v_var rfl) hn
    (fun i σ H' => ∃ (x4 x5 : Option V), σ = [some v1, some v2, some (.int (sm (mrk (fA fs)) (ns.take i))), some (.int (sm (mrk (fB fs)) (ns.take i))), x4, x5] ∧ Ext B H B H')
    ⟨none, none, rfl, .refl hl⟩ (fun i σ' H' ⟨_, _, _, e⟩ => e.le) ?_ ?_)
  · rintro i n σ1 H1 hin ⟨x4, x5, rfl, e1⟩
    refine q_set (call_mark (B := B) (v_var rfl) (v_var rfl) e1.le hv (he n (List.mem_of_getElem? hin))) ?_
    rintro w H2 ⟨B2, e2, hw⟩
    have hw2 := hw.le e2.le
    refine q_seq (s_aug rfl (v_fst (v_var rfl) hw2) ?_)
    refine s_aug rfl (v_snd (v_var rfl) hw2) ?_
    dsimp only
    rw [sm_take hin, sm_take hin]
    exact ⟨_, _, rfl, e1.trans (Ext.same e2.hh (e2.bb.le.trans e2.le))⟩
  · rintro σ1 H1 ⟨x4, x5, rfl, e1⟩
    rw [List.take_length]
    refine s_ret (n_tup (g_cons (v_var rfl) (g_cons (v_var rfl) g_nil)) (by simp)) ?_
    rintro w' H2 ⟨t, ht, rfl, rfl⟩
    exact k _ _ _ (e1.trans (Ext.new e1.le ht)) ⟨t, rfl, .of upd_same⟩

/-! ### areas -/
theorem nat_sm {f : Nat → Int} {M : Nat} : ∀ {l : List Nat}, (∀ e ∈ l, (f e).natAbs ≤ M) → (sm f l).natAbs ≤ l.length * M
  | [], _ => by simp [sm_nil]
  | x :: l, h => by
    have h1 := nat_sm (f := f) (M := M) (l := l) fun e he => h e (by simp [he])
    have h2 := h x (by simp)
    rw [sm_cons, List.length_cons, Nat.add_mul]
    have := Int.natAbs_add_le (f x) (sm f l)
    omega
theorem mrk_abs {f : Nat → Int} {M : Nat} (h : ∀ k, (f k).natAbs ≤ M) (e : Nat) : (mrk f e).natAbs ≤ M := by
  unfold mrk
  split
  · exact h _
  · rw [Int.natAbs_neg]; exact h _
/-- numbers of no more than so many figures -/
def Low (fs : List (Int × Int)) : Prop := (∀ k, (fA fs k).natAbs ≤ 2 ^ 20000) ∧ ∀ k, (fB fs k).natAbs ≤ 2 ^ 20000
theorem low_sum {f : Nat → Int} (h : ∀ k, (f k).natAbs ≤ 2 ^ 20000) {l : List Nat} (hl : l.length ≤ 1000) : (sm (mrk f) l).natAbs < 2 ^ 20011 := by
  have h1 := nat_sm (M := 2 ^ 20000) (l := l) fun e _ => mrk_abs h e
  have h2 : l.length * 2 ^ 20000 ≤ 1000 * 2 ^ 20000 := Nat.mul_le_mul_right _ hl
  have h3 : 1000 * 2 ^ 20000 < 2 ^ 20011 := by
    rw [show (20011 : Nat) = 11 + 20000 from rfl, Nat.pow_add]
    exact Nat.mul_lt_mul_of_pos_right (by decide) (Nat.pow_pos (by decide))
  omega
theorem low_mul {i j : Int} (h1 : i.natAbs < 2 ^ 20012) (h2 : j.natAbs < 2 ^ 20012) : CMulW i j := wide_mul h1 h2 (by decide) (by decide) (by decide)
def sp_area (K : PySem.W.Frag) : Sp := fun vs H Q _ => ∃ B v1 v2 fs ns, vs = [v1, v2] ∧ Le B H ∧ LT K B v1 fs ∧ LN K B v2 ns ∧ (∀ e ∈ ns, e / 2 < fs.length) ∧ ns.length ≤ 1000 ∧ Low fs ∧ Ret B H (fun w _ => ∃ z, w = .int z) Q
theorem call_area {v1 v2 : V} {fs : List (Int × Int)} {ns : List Nat} (h1 : Val ta σ H v1) (h2 : Val tb σ H v2) (l : Le B H) (hv : LT K B v1 fs) (hn : LN K B v2 ns) (he : ∀ e ∈ ns, e / 2 < fs.length) (hz : ns.length ≤ 1000) (hw : Low fs) :
    VH (tCall (sp_area K) [] E0 (tCons ta (tCons tb tNil))) σ H fun w H' => ∃ B', Ext B H B' H' ∧ ∃ z, w = .int z :=
  c_call (g_cons h1 (g_cons h2 g_nil)) fun Q q => ⟨B, v1, v2, fs, ns, rfl, l, hv, hn, he, hz, hw, fun w B' H' e h1 => q w H' ⟨B', e, h1⟩⟩
theorem r_area_of (vs : List V) (H : Hp) (Q : VK) (E : XK) (h : sp_area K vs H Q E) : t_area_of K (sp_mark K) { nx := fun _ H' => Q .non H', rt := Q } (L2.start N_area_of vs) H := by
  obtain ⟨B, v1, v2, fs, ns, rfl, hl, hv, hn, he, hz, hlow, k⟩ := h
  refine q_setV v_c (q_setV v_c (q_setV v_c ?_))
  refine q_seq (f_LN (B := B) (v_var rfl) hn
    (fun i σ H' => ∃ (z : Int) (x5 x6 : Option V), σ = [some v1, some v2, some (.int z), some (.int (sm (mrk (fA fs)) (ns.take i))), some (.int (sm (mrk (fB fs)) (ns.take i))), x5, x6] ∧ Ext B H B H')
    ⟨0, none, none, rfl, .refl hl⟩ (fun i σ' H' ⟨_, _, _, _, e⟩ => e.le) ?_ ?_)
  · rintro i n σ1 H1 hin ⟨z, x5, x6, rfl, e1⟩
    refine q_set (call_mark (B := B) (v_var rfl) (v_var rfl) e1.le hv (he n (List.mem_of_getElem? hin))) ?_
    rintro w H2 ⟨B2, e2, hw⟩
    have hw2 := hw.le e2.le
    have hA : (sm (mrk (fA fs)) (ns.take i)).natAbs < 2 ^ 20012 := Nat.lt_trans (low_sum hlow.1 (by rw [List.length_take]; omega)) (Nat.pow_lt_pow_right (by decide) (by decide))
    have hB : (sm (mrk (fB fs)) (ns.take i)).natAbs < 2 ^ 20012 := Nat.lt_trans (low_sum hlow.2 (by rw [List.length_take]; omega)) (Nat.pow_lt_pow_right (by decide) (by decide))
    have hA2 : (sm (mrk (fA fs)) (ns.take i) + mrk (fA fs) n).natAbs < 2 ^ 20012 := by
      rw [← sm_take hin]
      exact Nat.lt_trans (low_sum hlow.1 (by rw [List.length_take]; omega)) (Nat.pow_lt_pow_right (by decide) (by decide))
    have hB2 : (sm (mrk (fB fs)) (ns.take i) + mrk (fB fs) n).natAbs < 2 ^ 20012 := by
      rw [← sm_take hin]
      exact Nat.lt_trans (low_sum hlow.2 (by rw [List.length_take]; omega)) (Nat.pow_lt_pow_right (by decide) (by decide))
    refine q_seq (s_aug rfl (v_sub (v_mulW (v_var rfl) (v_add (v_var rfl) (v_snd (v_var rfl) hw2)) (low_mul hA hB2)) (v_mulW (v_add (v_var rfl) (v_fst (v_var rfl) hw2)) (v_var rfl) (low_mul hA2 hB))) ?_)
    refine q_seq (s_aug rfl (v_fst (v_var rfl) hw2) ?_)
    refine s_aug rfl (v_snd (v_var rfl) hw2) ?_
    dsimp only
    rw [sm_take hin, sm_take hin]
    exact ⟨_, _, _, rfl, e1.trans (Ext.same e2.hh (e2.bb.le.trans e2.le))⟩
  · rintro σ1 H1 ⟨z, x5, x6, rfl, e1⟩
    exact s_retV (v_var rfl) (k _ _ _ e1 ⟨z, rfl⟩)
def sp_areas (K : PySem.W.Frag) : Sp := fun vs H Q _ => ∃ B v1 v2 fs L, vs = [v1, v2] ∧ Le B H ∧ LT K B v1 fs ∧ LL K B v2 L ∧ (∀ l ∈ L, ∀ e ∈ l, e / 2 < fs.length) ∧ (∀ l ∈ L, l.length ≤ 1000) ∧ L.length ≤ 1000 ∧ Low fs ∧ Ret B H (fun w _ => ∃ z, w = .int z) Q
theorem call_areas {v1 v2 : V} {fs : List (Int × Int)} {L : List (List Nat)} (h1 : Val ta σ H v1) (h2 : Val tb σ H v2) (l : Le B H) (hv : LT K B v1 fs) (hn : LL K B v2 L) (he : ∀ l ∈ L, ∀ e ∈ l, e / 2 < fs.length) (hz : ∀ l ∈ L, l.length ≤ 1000) (hL : L.length ≤ 1000) (hw : Low fs) :
    VH (tCall (sp_areas K) [] E0 (tCons ta (tCons tb tNil))) σ H fun w H' => ∃ B', Ext B H B' H' ∧ ∃ z, w = .int z :=
  c_call (g_cons h1 (g_cons h2 g_nil)) fun Q q => ⟨B, v1, v2, fs, L, rfl, l, hv, hn, he, hz, hL, hw, fun w B' H' e h1 => q w H' ⟨B', e, h1⟩⟩
/-- a list of ints -/
theorem ints_ex : ∀ {ys : List V}, (∀ (j : Nat) (y : V), ys[j]? = some y → ∃ z, y = V.int z) → ∃ zs : List Int, ys = zs.map V.int
  | [], _ => ⟨[], rfl⟩
  | y :: ys, h => by
    obtain ⟨zs, hz⟩ := ints_ex (ys := ys) fun j y hy => h (j + 1) y hy
    obtain ⟨z, rfl⟩ := h 0 y rfl
    exact ⟨z :: zs, by rw [hz]; rfl⟩
theorem r_areas_added (vs : List V) (H : Hp) (Q : VK) (E : XK) (h : sp_areas K vs H Q E) : t_areas_added K (sp_area K) { nx := fun _ H' => Q .non H', rt := Q } (L2.start N_areas_added vs) H := by
  obtain ⟨B, v1, v2, fs, L, rfl, hl, hv, ⟨p, us, rfl, hp, hus⟩, he, hz, hL, hlow, k⟩ := h
  refine s_ret (P := fun w H' => ∃ B', Ext B H B' H' ∧ ∃ z, w = .int z) (n_sum (n_lcB (fun _ y _ => ∃ z, y = V.int z) (fun _ _ _ _ _ h => h) hl (v_var rfl) hp (by rw [hus.1]; omega) (fun _ => rfl) ?_) ?_) fun w H' ⟨B', e, h⟩ => k w B' H' e h
  · intro i x B1 H1 hi e1
    obtain ⟨l, hli, hxl⟩ := hus.getV hi
    have hm := List.mem_of_getElem? hli
    exact (call_area (B := B1) (v_var rfl) (v_var rfl) e1.le (hv.le e1.bb.le) (hxl.le e1.bb.le) (he l hm) (hz l hm) hlow)
  · rintro w H' ⟨Dd, B', ys, rfl, e, o, hyl, hys⟩
    obtain ⟨zs, rfl⟩ := ints_ex hys
    exact ⟨Dd, zs, rfl, .of o.h, B', e, _, rfl⟩
end
end Rf
end
section
set_option linter.all false
set_option autoImplicit false
set_option maxRecDepth 100000
set_option maxHeartbeats 1000000
/-! P15: marks_of. -/
namespace Rf
open PySem L2
section
variable {K : PySem.W.Frag} {σ : St} {B H : Hp} {ta tb tc te tl tn : TE} {g : TG} {D : Ends}
theorem q_three {t2 : TS} {i j l : Nat} {P : V → Hp → Prop} (h : VH te σ H P) (k : ∀ w H', P w H' → ∃ p x y z, w = .ref p ∧ SqT K H' p [x, y, z] ∧ t2 D (((σ.set i (some x)).set j (some y)).set l (some z)) H') : tSeq (tAsg te (gTup K 3 (gCons (gName i) (gCons (gName j) (gCons (gName l) gNil))))) t2 D σ H := h _ fun w H' p => by
  obtain ⟨r, x, y, z, rfl, hr, q⟩ := k w H' p
  exact ⟨r, _, rfl, hr, rfl, _, _, rfl, _, _, rfl, _, _, rfl, rfl, q⟩
theorem n_repH {P P' : V → Hp → Prop} (h : VH te σ H P) (k : ∀ v H1, P v H1 → ∀ l, H1 l = none → VH tn σ (upd H1 l (.lst [v])) fun w H2 => ∃ n : Nat, w = nv n ∧ n ≤ 100000 ∧ H2 l = some (.lst [v]) ∧ ∀ p, H2 p = none → P' (.ref p) (upd H2 p (.lst (List.replicate n v)))) :
    VH (tOp rRep (tLst (tCons te tNil)) tn) σ H P' := fun Q q => h _ fun v H1 p => ⟨by show 1 ≤ sizeLine; decide, fun l hl => k v H1 p l hl _ fun w H2 ⟨n, ew, hn, h2, r⟩ => by
  subst ew
  have h63 := line63
  have hs : 100000 ≤ sizeLine := by decide
  refine ⟨l, n, [v], rfl, rfl, h2, by omega, by omega, by simp; omega, fun p hp => ?_⟩
  rw [Int.toNat_natCast, rep_flat]
  exact q _ _ (r p hp)⟩
theorem n_lstD {a : V} {ks : List Nat} {f : Nat → V} (ha : Val te σ H a) (hs : DK H a ks f) : VH (tCB rLstD (tCons te tNil)) σ H fun w H' => ∃ q, H q = none ∧ w = .ref q ∧ H' = upd H q (.lst (ks.map nv)) := fun Q q => by
  obtain ⟨p, rfl, hp⟩ := hs
  refine ha _ ⟨p, _, rfl, hp, fun r hr => ?_⟩
  have e : (dkv ks f).map (fun kv => kV kv.1) = ks.map nv := by
    unfold dkv
    rw [List.map_map]; rfl
  rw [e]
  exact q _ _ ⟨r, hr, rfl, rfl⟩
theorem Each.set {α : Type} {R : V → α → Prop} {us : List V} {xs : List α} {j : Nat} {v : V} {x : α} (h : Each R us xs) (r : R v x) : Each R (us.set j v) (xs.set j x) := by
  refine ⟨by simp [h.1], fun i u y hu hy => ?_⟩
  by_cases e : j = i
  · subst e
    have h1 := (List.getElem?_eq_some_iff.mp hu).1
    rw [List.length_set] at h1
    rw [List.getElem?_set_self h1] at hu
    rw [List.getElem?_set_self (by rw [← h.1]; exact h1)] at hy
    cases hu; cases hy
    exact r
  · rw [List.getElem?_set_ne e] at hu hy
    exact h.2 i u y hu hy
theorem each_rep {α : Type} {R : V → α → Prop} {v : V} {x : α} (r : R v x) (n : Nat) : Each R (List.replicate n v) (List.replicate n x) := by
  refine ⟨by simp, fun i u y hu hy => ?_⟩
  rw [List.getElem?_replicate] at hu hy
  split at hu
  · rw [if_pos (by assumption)] at hy
    cases hu; cases hy; exact r
  · cases hu
theorem fA_set {fs : List (Int × Int)} {j : Nat} {x y : Int} (h : j < fs.length) (k : Nat) : fA (fs.set j (x, y)) k = if k = j then x else fA fs k := by
  unfold fA
  rw [List.getD_eq_getElem?_getD, List.getD_eq_getElem?_getD]
  by_cases e : k = j
  · subst e; rw [if_pos rfl, List.getElem?_set_self h]; rfl
  · rw [if_neg e, List.getElem?_set_ne (fun z => e z.symm)]
theorem fB_set {fs : List (Int × Int)} {j : Nat} {x y : Int} (h : j < fs.length) (k : Nat) : fB (fs.set j (x, y)) k = if k = j then y else fB fs k := by
  unfold fB
  rw [List.getD_eq_getElem?_getD, List.getD_eq_getElem?_getD]
  by_cases e : k = j
  · subst e; rw [if_pos rfl, List.getElem?_set_self h]; rfl
  · rw [if_neg e, List.getElem?_set_ne (fun z => e z.symm)]
theorem fA_rep (n k : Nat) : fA (List.replicate n (0, 0)) k = 0 := by
  unfold fA
  rw [List.getD_eq_getElem?_getD, List.getElem?_replicate]
  split <;> rfl
theorem fB_rep (n k : Nat) : fB (List.replicate n (0, 0)) k = 0 := by
  unfold fB
  rw [List.getD_eq_getElem?_getD, List.getElem?_replicate]
  split <;> rfl
/-- a mark more -/
theorem put_eq {fs : List (Int × Int)} {e : Nat} {x y : Int} (h : e / 2 < fs.length) : fA (fs.set (e / 2) (if e % 2 = 0 then (-x, -y) else (x, y))) = put1 (fA fs) e x ∧ fB (fs.set (e / 2) (if e % 2 = 0 then (-x, -y) else (x, y))) = put1 (fB fs) e y := by
  constructor
  · funext k
    unfold put1
    split
    · rw [fA_set h]
    · rw [fA_set h]
  · funext k
    unfold put1
    split
    · rw [fB_set h]
    · rw [fB_set h]
theorem put_abs {f : Nat → Int} {i : Nat} {l : List Nat} (h : ∀ k, (f k).natAbs ≤ 2 ^ (10 * i)) (hl : l.length ≤ 1000) (e k : Nat) : (put1 f e (sm (mrk f) l) k).natAbs ≤ 2 ^ (10 * (i + 1)) := by
  have h1 := nat_sm (M := 2 ^ (10 * i)) (l := l) fun e _ => mrk_abs h e
  have h2 : l.length * 2 ^ (10 * i) ≤ 1000 * 2 ^ (10 * i) := Nat.mul_le_mul_right _ hl
  have h3 : 2 ^ (10 * (i + 1)) = 1024 * 2 ^ (10 * i) := by
    rw [show 10 * (i + 1) = 10 + 10 * i by omega, Nat.pow_add]
  have h4 := h k
  unfold put1
  split
  · split
    · rw [Int.natAbs_neg]; omega
    · omega
  · omega
def sp_marks (K : PySem.W.Frag) : Sp := fun vs H Q _ => ∃ B v rows m, vs = [v] ∧ Le B H ∧ LL K B v rows ∧ Dw rows m ∧ Ring rows m ∧ Ret B H (fun w B' => ∃ fs, LT K B' w fs ∧ fs.length = m ∧ Low fs ∧ ∃ T C l0 l1, Floor m rows (landsOf rows m) (beh rows) (seat rows) (seat (landsOf rows m)) T C l0 l1 (mrk (fA fs)) (mrk (fB fs))) Q
theorem call_marks {v : V} {rows : List (List Nat)} {m : Nat} (h1 : Val te σ H v) (l : Le B H) (hv : LL K B v rows) (D : Dw rows m) (R : Ring rows m) :
    VH (tCall (sp_marks K) [] E0 (tCons te tNil)) σ H fun w H' => ∃ (B' : Hp) (fs : List (Int × Int)), Ext B H B' H' ∧ LT K B' w fs ∧ fs.length = m ∧ Low fs ∧ ∃ T C l0 l1, Floor m rows (landsOf rows m) (beh rows) (seat rows) (seat (landsOf rows m)) T C l0 l1 (mrk (fA fs)) (mrk (fB fs)) :=
  c_call (g_cons h1 g_nil) fun Q q => ⟨B, v, rows, m, rfl, l, hv, D, R, fun w B' H' e ⟨fs, h1⟩ => q w H' ⟨B', fs, e, h1⟩⟩
theorem r_marks_of (vs : List V) (H : Hp) (Q : VK) (E : XK) (h : sp_marks K vs H Q E) : t_marks_of K (sp_areas K) (sp_added K) (sp_lands K) (sp_both K) (sp_askring K) { nx := fun _ H' => Q .non H', rt := Q } (L2.start N_marks_of vs) H := by
  obtain ⟨B, v, rows, m, rfl, hl, hv, D, R, k⟩ := h
  have hsn := D.sn
  have hm := D.sm
  have F := D.lfew
  have PL := D.dr.lands
  have hFl := R.lands
  have hlen : (landsOf rows m).flatten.length = 2 * m := by have := PL.perm.length_eq; rwa [List.length_range] at this
  have hrowl : ∀ l ∈ landsOf rows m, l.length ≤ 1000 := fun l hlm => by
    have := nodup_le (PL.rnd hlm) (n := 2 * m) fun x hx => PL.lt hlm hx
    omega
  refine q_drop (call_askring (v_var rfl) hl hv D R) ?_
  rintro w1 H1 ⟨B1, e1, _⟩
  refine q_three (call_both (B := B1) (v_var rfl) v_c e1.le (hv.le e1.bb.le) D R) ?_
  rintro w2 H2 ⟨t, B2, T, C, first, ks, pn, pc, wl, rfl, e2', ht, hT, hC, hks, hBn, hBc, hwl⟩
  refine ⟨t, _, _, _, rfl, .of ht, ?_⟩
  have e2 := e1.trans e2'
  refine q_set (call_lands (B := B2) (v_var rfl) e2.le (hv.le e2.bb.le) D) ?_
  rintro w3 H3 ⟨B3, e3', hw3⟩
  have e3 := e2.trans e3'
  -- the two ties left
  have hk2 : ks.length = 2 := R.left hT hC hks.1 hks.2
  obtain ⟨l0, l1, rfl⟩ : ∃ l0 l1, ks = [l0, l1] := by
    match ks, hk2 with
    | [a, b], _ => exact ⟨a, b, rfl⟩
  have hne : l0 ≠ l1 := fun z => by have := hks.1; rw [z] at this; simp at this
  have hl0 := (hks.2 l0).mp (by simp)
  have hl1 := (hks.2 l1).mp (by simp)
  -- marks = [(0, 0)] * (sum(..) // 2)
  obtain ⟨a4, us4, rfl, ha4, he4⟩ := id hw3
  refine q_set (P := fun w H' => ∃ (B' : Hp) (p : Addr) (us : List V), w = .ref p ∧ Ext B H B' H' ∧ Ex B3 B' ∧ Own H B' H' p (.lst us) ∧ Each (T2 K B') us (List.replicate m (0, 0))) (n_repH (n_tup (g_cons v_c (g_cons v_c g_nil)) (by simp)) ?_) ?_
  · rintro w4 H4 ⟨t4, ht4, rfl, rfl⟩ l hl4
    have e4 := e3.trans (Ext.new e3.le ht4 (o := .tup [.int 0, .int 0]))
    have ex4 : Ex B3 (upd B3 t4 (.tup [.int 0, .int 0])) := .new (e3.le.free ht4)
    have e5 := e4.own hl4 (o := .lst [.ref t4])
    have hsum : VH (tCB (rSum K) (tCons (tLc (iList K (tVar 4)) (gName 6) tYes (tCB (rLenS K) (tCons (tVar 6) tNil)) [6]) tNil)) [some v, some (.ref pn), some (.ref pc), some wl, some (.ref a4), none, none, none, none, none] (upd (upd H3 t4 (.tup [.int 0, .int 0])) l (.lst [.ref t4])) fun w H' => Ext B H (upd B3 t4 (.tup [.int 0, .int 0])) H' ∧ Ex (upd (upd H3 t4 (.tup [.int 0, .int 0])) l (.lst [.ref t4])) H' ∧ w = nv (2 * m) := by
      refine n_sum (n_lcI (fun _ => true) (fun i => nv ((landsOf rows m).getD i []).length) (v_var rfl) (sqL_le ha4 (ex4.le.trans e5.le)) (by have := F.sn; rw [he4.1]; omega) (fun _ => rfl) (fun i x H' hi e => a_yes) (fun i x H' hi e _ => ?_)) fun w H' hw => ?_
      · obtain ⟨r, hr, hx⟩ := he4.getV hi
        rw [List.getD_eq_getElem?_getD, hr]
        exact v_lenN (v_var rfl) (hx.le (ex4.le.trans (e5.le.trans e.le)))
      · obtain ⟨Dd, hD, rfl, rfl⟩ := hw
        have es : (((List.range us4.length).filter fun _ => true).map fun i => nv ((landsOf rows m).getD i []).length) = ((landsOf rows m).map fun r => (r.length : Int)).map V.int := by
          have := ix_items (landsOf rows m) [] (fun _ => true) (fun r => nv r.length)
          rw [he4.1, this, List.map_map, show (landsOf rows m).filter (fun _ => true) = landsOf rows m from List.filter_eq_self.mpr fun _ _ => rfl]
          rfl
        refine ⟨Dd, (landsOf rows m).map fun r => (r.length : Int), rfl, .of (by rw [upd_same, es]), e5.own hD, .new hD, ?_⟩
        rw [sum_len, hlen]
        rfl
    intro Q q
    refine hsum _ ?_
    rintro w6 H6 ⟨e6, ex6, rfl⟩
    refine ⟨_, _, rfl, rfl, ⟨by decide, by decide⟩, q _ _ ⟨m, ?_, by omega, ex6 _ _ upd_same, fun p hp => ⟨_, p, _, rfl, e6.own hp, ex4, Own.of_new e6.hh e6.le hp, each_rep ⟨t4, rfl, .of upd_same⟩ m⟩⟩⟩
    show V.int (((2 * m : Nat) : Int) / 2) = V.int ((m : Nat) : Int)
    rw [show ((2 * m : Nat) : Int) / 2 = ((m : Nat) : Int) by omega]
  rintro w4 H4 ⟨B4, p, us, rfl, e4, eb4, o4, hus⟩
  -- marks[left[0]] = (1, 0)
  refine q_seq (s_setLH (l := p) (n_tup (g_cons v_c (g_cons v_c g_nil)) (by simp)) ?_)
  rintro w5 H5 ⟨t5, ht5, rfl, rfl⟩
  have e5 := e4.trans (Ext.new e4.le ht5 (o := .tup [.int 1, .int 0]))
  have ex5 : Ex B4 (upd B4 t5 (.tup [.int 1, .int 0])) := .new (e4.le.free ht5)
  have np5 : p ≠ t5 := ne_of_none o4.h ht5
  have o5 := (o4.other np5 (u := .tup [.int 1, .int 0])).frozen np5 (u := .tup [.int 1, .int 0])
  have hwl5 := hwl.le (e3'.bb.trans (eb4.trans ex5)).le
  refine ⟨us, l0, v_var rfl, v_ixN (v_var rfl) (hwl5.le e5.le) v_c rfl, o5.h, by rw [hus.1]; simpa using hl0.1, ?_⟩
  have hus5 := (hus.mono fun u x h => h.le ex5.le).set (j := l0) (v := .ref t5) (x := (1, 0)) ⟨t5, rfl, .of upd_same⟩
  have e5' := e5.put o5 (.lst (us.set l0 (.ref t5)))
  have o5' := o5.put (.lst (us.set l0 (.ref t5)))
  -- marks[left[1]] = (0, 1)
  refine q_seq (s_setLH (l := p) (n_tup (g_cons v_c (g_cons v_c g_nil)) (by simp)) ?_)
  rintro w6 H6 ⟨t6, ht6, rfl, rfl⟩
  have e6 := e5'.trans (Ext.new e5'.le ht6 (o := .tup [.int 0, .int 1]))
  have ex6 : Ex (upd B4 t5 (.tup [.int 1, .int 0])) (upd (upd B4 t5 (.tup [.int 1, .int 0])) t6 (.tup [.int 0, .int 1])) := .new (e5'.le.free ht6)
  have np6 : p ≠ t6 := ne_of_none o5'.h ht6
  have o6 := (o5'.other np6 (u := .tup [.int 0, .int 1])).frozen np6 (u := .tup [.int 0, .int 1])
  have hwl6 := hwl5.le ex6.le
  refine ⟨_, l1, v_var rfl, v_ixN (v_var rfl) (hwl6.le e6.le) v_c rfl, o6.h, by rw [hus5.1]; simpa using hl1.1, ?_⟩
  have hus6 := (hus5.mono fun u x h => h.le ex6.le).set (j := l1) (v := .ref t6) (x := (0, 1)) ⟨t6, rfl, .of upd_same⟩
  have e6' := e6.put o6 (.lst ((us.set l0 (.ref t5)).set l1 (.ref t6)))
  have o6' := o6.put (.lst ((us.set l0 (.ref t5)).set l1 (.ref t6)))
  have eB : Ex B3 (upd (upd B4 t5 (.tup [.int 1, .int 0])) t6 (.tup [.int 0, .int 1])) := eb4.trans (ex5.trans ex6)
  generalize hB6 : upd (upd B4 t5 (.tup [.int 1, .int 0])) t6 (.tup [.int 0, .int 1]) = B6 at *
  have hfA : fA (((List.replicate m (0, 0)).set l0 (1, 0)).set l1 (0, 1)) = one1 l0 := by
    funext k
    rw [fA_set (by simpa using hl1.1), fA_set (by simpa using hl0.1), fA_rep]
    unfold one1
    by_cases h1 : k = l1
    · rw [if_pos h1, if_neg fun z => hne (by rw [← z, h1])]
    · rw [if_neg h1]
  have hfB : fB (((List.replicate m (0, 0)).set l0 (1, 0)).set l1 (0, 1)) = one1 l1 := by
    funext k
    rw [fB_set (by simpa using hl1.1), fB_set (by simpa using hl0.1), fB_rep]
    unfold one1
    by_cases h1 : k = l1
    · rw [if_pos h1, if_pos h1]
    · rw [if_neg h1, if_neg h1]
      split <;> rfl
  have hz0 : ∀ k, OnT C (2 * k) → one1 l0 k = 0 := fun k h => by
    unfold one1
    rw [if_neg fun z => hl0.2.2 (by rw [← z]; exact h)]
  have hz1 : ∀ k, OnT C (2 * k) → one1 l1 k = 0 := fun k h => by
    unfold one1
    rw [if_neg fun z => hl1.2.2 (by rw [← z]; exact h)]
  have fx0 : ∀ f0, Fixed rows m C f0 C.length f0 := fun f0 => ⟨fun k _ => rfl, fun j P e l hj hC => by
    have := (List.getElem?_eq_some_iff.mp hC).1
    omega⟩
  have hclen : C.length + 1 ≤ (landsOf rows m).length := by simpa using (tree_len hC.tree PL hC.hfirst).1
  have hBc3 : B3 pc = some (.dK (td first C)) := e3'.bb pc _ hBc
  have hDC : ∀ {B' H' : Hp}, Ex B3 B' → Le B' H' → DK H' (.ref pc) (first :: C.map (·.1)) (tv first C) := fun h1 h2 => (DK.of hBc3).le (h1.le.trans h2)
  -- for land in reversed(list(towards))
  refine q_seq (f_rev (n_lstD (v_var rfl) (hDC eB e6'.le)) ?_)
  rintro w7 H7 ⟨q, hq, rfl, rfl⟩
  have e7 := e6'.own hq (o := .lst ((first :: C.map (·.1)).map nv))
  have oq7 : Own H B6 _ q (.lst ((first :: C.map (·.1)).map nv)) := Own.of_new e6'.hh e6'.le hq
  have npq : p ≠ q := ne_of_none o6'.h hq
  have o7 := o6'.other npq (u := .lst ((first :: C.map (·.1)).map nv))
  have e7f := e7.freeze oq7
  have o7f := o7.frozen npq (u := .lst ((first :: C.map (·.1)).map nv))
  have eB7 : Ex B6 (upd B6 q (.lst ((first :: C.map (·.1)).map nv))) := .new oq7.b
  have hq7 : SqL K (upd B6 q (.lst ((first :: C.map (·.1)).map nv))) q ((first :: C.map (·.1)).map nv) := .of upd_same
  have eB37 := eB.trans eB7
  have hus7 := hus6.mono fun u x h => h.le eB7.le
  generalize hB7 : upd B6 q (.lst ((first :: C.map (·.1)).map nv)) = B7 at *
  have hL : ((first :: C.map (·.1)).map nv).length = C.length + 1 := by simp
  refine ⟨q, (first :: C.map (·.1)).map nv, fun i σ H' => ∃ (x6 x7 x8 x9 : Option V) (B' : Hp) (us : List V) (fs : List (Int × Int)), σ = [some v, some (.ref pn), some (.ref pc), some wl, some (.ref a4), some (.ref p), x6, x7, x8, x9] ∧ Ext B H B' H' ∧ Ex B7 B' ∧ Own H B' H' p (.lst us) ∧ Each (T2 K B') us fs ∧ fs.length = m ∧
      Fixed rows m C (one1 l0) (C.length - i) (fA fs) ∧ Fixed rows m C (one1 l1) (C.length - i) (fB fs) ∧ (∀ k, (fA fs k).natAbs ≤ 2 ^ (10 * i)) ∧ (∀ k, (fB fs k).natAbs ≤ 2 ^ (10 * i)),
    rfl, sqL_le hq7 e7f.le, ⟨none, none, none, none, B7, _, _, rfl, e7f, .refl _, o7f, hus7, by simp, by rw [hfA]; exact fx0 _, by rw [hfB]; exact fx0 _, ?_, ?_⟩, fun i σ' H' ⟨_, _, _, _, B', _, _, _, e, eb, _⟩ => sqL_le hq7 (eb.le.trans e.le), ?_, ?_⟩
  · intro k; rw [hfA]; unfold one1; split <;> simp
  · intro k; rw [hfB]; unfold one1; split <;> simp
  · rintro i x σ8 H8 hi hx ⟨x6, x7, x8, x9, B8, us8, fs, rfl, e8, eb8, o8, hus8, hfl, fx, fy, ba, bb'⟩
    rw [hL] at hi hx
    rw [List.getElem?_map] at hx
    obtain ⟨P, hP, rfl⟩ := Option.map_eq_some_iff.mp hx
    have hPm := List.mem_of_getElem? hP
    -- end = towards[land]
    refine q_setV (v_get (n := P) (v_var rfl) (hDC (eB37.trans eb8) e8.le) (v_var rfl) hPm) ?_
    by_cases hiC : i = C.length
    · -- the first land
      have h0 : C.length + 1 - 1 - i = 0 := by omega
      rw [h0] at hP
      cases Option.some.inj hP
      rw [tv_root]
      refine s_if (b := false) (a_t (vas (v_ge (v_var rfl) v_c) (by rfl))) (fun h => by cases h) (fun _ => ?_)
      refine ⟨_, _, _, _, B8, us8, fs, rfl, e8, eb8, o8, hus8, hfl, ?_, ?_, fun k => Nat.le_trans (ba k) (Nat.pow_le_pow_right (by decide) (by omega)), fun k => Nat.le_trans (bb' k) (Nat.pow_le_pow_right (by decide) (by omega))⟩
      · rw [show C.length - (i + 1) = C.length - i by omega]; exact fx
      · rw [show C.length - (i + 1) = C.length - i by omega]; exact fy
    · obtain ⟨j, hj⟩ : ∃ j, C.length - i = j + 1 := ⟨C.length - i - 1, by omega⟩
      have hj2 : C.length - (i + 1) = j := by omega
      rw [show C.length + 1 - 1 - i = j + 1 by omega] at hP
      have hP2 : (C.map (·.1))[j]? = some P := hP
      rw [List.getElem?_map] at hP2
      obtain ⟨⟨P', e⟩, hCj, hPe⟩ := Option.map_eq_some_iff.mp hP2
      have hPe : P' = P := hPe
      subst hPe
      rw [tv_at hC.tree hCj]
      obtain ⟨he1, he2, _, _⟩ := hC.tree.step j P' e hCj
      refine s_if (b := true) (a_t (vas (v_ge (i := (e : Int)) (v_var rfl) v_c) (by rw [decide_eq_true]; omega))) (fun _ => ?_) (fun h => by cases h)
      -- one, two = added(marks, lands[land])
      have hPl : P' < (landsOf rows m).length := by rw [← he2]; exact PL.s_lt he1
      obtain ⟨l, hl'⟩ : ∃ l, (landsOf rows m)[P']? = some l := ⟨_, List.getElem?_eq_getElem hPl⟩
      have hlm := List.mem_of_getElem? hl'
      have hlt : ∀ x ∈ l, x / 2 < fs.length := fun x hx => by have := PL.lt hlm hx; rw [hfl]; omega
      have hBf : Ex B8 (upd B8 p (.lst us8)) := .new o8.b
      have e8f := e8.freeze o8
      have hw38 := hw3.le (eB37.trans (eb8.trans hBf)).le
      obtain ⟨w0, hw0, hw0l⟩ := v_row (K := K) (B := upd B8 p (.lst us8)) (H := H8) (σ := [some v, some (.ref pn), some (.ref pc), some wl, some (.ref a4), some (.ref p), some (nv P'), some (nv e), x8, x9]) (ta := tVar 4) (tb := tVar 6) (v_var rfl) e8f.le hw38 (v_var rfl) hl'
      refine q_two (call_added (B := upd B8 p (.lst us8)) (fs := fs) (v_var rfl) hw0 e8f.le ⟨p, us8, rfl, .of upd_same, hus8.mono fun u x h => h.le hBf.le⟩ hw0l hlt (hrowl l hlm)) ?_
      rintro w9 H9 ⟨B9, e9, hw9⟩
      refine ⟨_, _, hw9.le e9.le, ?_⟩
      have e9' : Ext B H B8 H9 := e8.trans (Ext.same e9.hh (hBf.le.trans (e9.bb.le.trans e9.le)))
      have o9 : Own H B8 H9 p (.lst us8) := ⟨o8.h0, o8.b, e9.hh p _ o8.h⟩
      have hel : e / 2 < us8.length := by rw [hus8.1, hfl]; omega
      have fxs := Fixed.step R hC hz0 hCj hl' (by rw [← hj]; exact fx)
      have fys := Fixed.step R hC hz1 hCj hl' (by rw [← hj]; exact fy)
      have hput := put_eq (fs := fs) (e := e) (x := sm (mrk (fA fs)) l) (y := sm (mrk (fB fs)) l) (by rw [hfl]; omega)
      have fin : ∀ (w : V) (B' H' : Hp), Ext B8 H9 B' H' → T2 K B' w (if e % 2 = 0 then (-sm (mrk (fA fs)) l, -sm (mrk (fB fs)) l) else (sm (mrk (fA fs)) l, sm (mrk (fB fs)) l)) → ∀ σ', σ' = [some v, some (.ref pn), some (.ref pc), some wl, some (.ref a4), some (.ref p), some (nv P'), some (nv e), some (.int (sm (mrk (fA fs)) l)), some (.int (sm (mrk (fB fs)) l))] →
          ∃ (x6 x7 x8 x9 : Option V) (B2 : Hp) (us : List V) (fs : List (Int × Int)), σ' = [some v, some (.ref pn), some (.ref pc), some wl, some (.ref a4), some (.ref p), x6, x7, x8, x9] ∧ Ext B H B2 (upd H' p (.lst (us8.set (e / 2) w))) ∧ Ex B7 B2 ∧ Own H B2 (upd H' p (.lst (us8.set (e / 2) w))) p (.lst us) ∧ Each (T2 K B2) us fs ∧ fs.length = m ∧
            Fixed rows m C (one1 l0) (C.length - (i + 1)) (fA fs) ∧ Fixed rows m C (one1 l1) (C.length - (i + 1)) (fB fs) ∧ (∀ k, (fA fs k).natAbs ≤ 2 ^ (10 * (i + 1))) ∧ (∀ k, (fB fs k).natAbs ≤ 2 ^ (10 * (i + 1))) := by
        rintro w B' H' e10 hw σ' rfl
        have o10 := o9.ext e10
        refine ⟨_, _, _, _, B', us8.set (e / 2) w, fs.set (e / 2) (if e % 2 = 0 then (-sm (mrk (fA fs)) l, -sm (mrk (fB fs)) l) else (sm (mrk (fA fs)) l, sm (mrk (fB fs)) l)), rfl, (e9'.trans e10).put o10 _, eb8.trans e10.bb, o10.put _, (hus8.mono fun u x h => h.le e10.bb.le).set hw, by rw [List.length_set]; exact hfl, ?_, ?_, fun k => ?_, fun k => ?_⟩
        · rw [hput.1, hj2]; exact fxs
        · rw [hput.2, hj2]; exact fys
        · rw [hput.1]; exact put_abs ba (hrowl l hlm) e k
        · rw [hput.2]; exact put_abs bb' (hrowl l hlm) e k
      have hdiv : ∀ H', Val (tOp rDivI (tVar 7) (tC (.int 2))) [some v, some (.ref pn), some (.ref pc), some wl, some (.ref a4), some (.ref p), some (nv P'), some (nv e), some (.int (sm (mrk (fA fs)) l)), some (.int (sm (mrk (fB fs)) l))] H' (nv (e / 2)) := fun H' => vint (v_div (v_var rfl) v_c ⟨by decide, by decide⟩) (by omega)
      refine s_if (b := decide (e % 2 = 0)) (a_t (vas (v_eqI (v_mod (v_var rfl) v_c (by decide)) v_c) (by congr 1; simp only [decide_eq_decide]; omega))) (fun hb => ?_) (fun hb => ?_)
      · have ho := of_decide_eq_true hb
        refine s_setLH (l := p) (n_tup (g_cons (v_neg (v_var rfl)) (g_cons (v_neg (v_var rfl)) g_nil)) (by simp)) ?_
        rintro w10 H10 ⟨t, ht, rfl, rfl⟩
        have e10 := Ext.new e9'.le ht (o := .tup [.int (-sm (mrk (fA fs)) l), .int (-sm (mrk (fB fs)) l)])
        have o10 := o9.ext e10
        refine ⟨us8, e / 2, v_var rfl, hdiv _, o10.h, hel, fin _ _ _ e10 ?_ _ rfl⟩
        rw [if_pos ho]
        exact ⟨t, rfl, .of upd_same⟩
      · have ho := of_decide_eq_false hb
        refine s_setLH (l := p) (n_tup (g_cons (v_var rfl) (g_cons (v_var rfl) g_nil)) (by simp)) ?_
        rintro w10 H10 ⟨t, ht, rfl, rfl⟩
        have e10 := Ext.new e9'.le ht (o := .tup [.int (sm (mrk (fA fs)) l), .int (sm (mrk (fB fs)) l)])
        have o10 := o9.ext e10
        refine ⟨us8, e / 2, v_var rfl, hdiv _, o10.h, hel, fin _ _ _ e10 ?_ _ rfl⟩
        rw [if_neg ho]
        exact ⟨t, rfl, .of upd_same⟩
  · rintro σ8 H8 ⟨x6, x7, x8, x9, B8, us8, fs, rfl, e8, eb8, o8, hus8, hfl, fx, fy, ba, bb'⟩
    rw [hL] at fx fy ba bb'
    rw [show C.length - (C.length + 1) = 0 by omega] at fx fy
    have hfloor := R.floor hT hC (l0 := l0) (l1 := l1) hks.2 hne fx fy
    have hlow : Low fs := ⟨fun k => Nat.le_trans (ba k) (Nat.pow_le_pow_right (by decide) (by have := F.sn; omega)), fun k => Nat.le_trans (bb' k) (Nat.pow_le_pow_right (by decide) (by have := F.sn; omega))⟩
    have hBf : Ex B8 (upd B8 p (.lst us8)) := .new o8.b
    have e8f := e8.freeze o8
    have hw38 := hw3.le (eB37.trans (eb8.trans hBf)).le
    have husf : Each (T2 K (upd B8 p (.lst us8))) us8 fs := hus8.mono fun u x h => h.le hBf.le
    have hmk : LT K (upd B8 p (.lst us8)) (.ref p) fs := ⟨p, us8, rfl, .of upd_same, husf⟩
    -- if areas_added(marks, lands) < 0
    dsimp only
    refine q_ifH (P := fun b H' => ∃ B', Ext (upd B8 p (.lst us8)) H8 B' H') ?_ ?_
    · intro Q q
      unfold tTest tOp
      refine call_areas (B := upd B8 p (.lst us8)) (fs := fs) (L := landsOf rows m) (σ := [some v, some (.ref pn), some (.ref pc), some wl, some (.ref a4), some (.ref p), x6, x7, x8, x9]) (v_var rfl) (v_var rfl) e8f.le hmk hw38 (fun l hlm x hx => by have := PL.lt hlm hx; rw [hfl]; omega) hrowl F.sn hlow _ ?_
      rintro w H' ⟨B', e, z, rfl⟩
      exact ⟨z, 0, rfl, rfl, _, rfl, q _ _ ⟨B', e⟩⟩
    rintro b H9 ⟨B9, e9⟩
    have e89 := e8f.trans e9
    cases b with
    | false =>
      rw [if_neg (by decide)]
      exact s_retV (v_var rfl) (k _ _ _ e89 ⟨fs, hmk.le e9.bb.le, hfl, hlow, T, C, l0, l1, hfloor⟩)
    | true =>
      rw [if_pos rfl]
      refine s_ret (n_lcG (B := B9) (xs := us8) (fun B y i => ∃ ab, fs[i]? = some ab ∧ T2 K B y (ab.2, ab.1)) (fun _ _ _ _ e ⟨ab, h1, h2⟩ => ⟨ab, h1, h2.le e.le⟩) e89.le (v_var rfl) (.inl (.inl (e9.bb p _ upd_same))) (by rw [hus8.1, hfl]; omega) ?_) ?_
      · intro i x B1 H1 hi e1
        obtain ⟨ab, hab, hxab⟩ := husf.getV hi
        have hx1 := hxab.le (e9.bb.le.trans (e1.bb.le.trans e1.le))
        obtain ⟨r, rfl, hr⟩ := hx1
        refine ⟨[some v, some (.ref pn), some (.ref pc), some wl, some (.ref a4), some (.ref p), x6, x7, some (.int ab.1), some (.int ab.2)], rfl, fun Q' q => ⟨r, _, rfl, hr, rfl, _, _, rfl, _, _, rfl, rfl, q⟩, ?_⟩
        refine (n_tup (g_cons (v_var rfl) (g_cons (v_var rfl) g_nil)) (by simp)).mono ?_
        rintro w H2 ⟨t, ht, rfl, rfl⟩
        exact ⟨_, Ext.new e1.le ht, ab, hab, t, rfl, .of upd_same⟩
      · rintro w H10 ⟨Dd, B10, ys, rfl, e10, o10, hyl, hys⟩
        have hA : fA (fs.map fun ab => (ab.2, ab.1)) = fB fs := by
          funext k
          unfold fA fB
          rw [List.getD_eq_getElem?_getD, List.getD_eq_getElem?_getD, List.getElem?_map]
          cases fs[k]? <;> rfl
        have hB : fB (fs.map fun ab => (ab.2, ab.1)) = fA fs := by
          funext k
          unfold fA fB
          rw [List.getD_eq_getElem?_getD, List.getD_eq_getElem?_getD, List.getElem?_map]
          cases fs[k]? <;> rfl
        refine k _ _ _ ((e89.trans e10).freeze ⟨(e89.hh).free o10.h0, o10.b, o10.h⟩) ⟨fs.map fun ab => (ab.2, ab.1), ⟨Dd, ys, rfl, .of upd_same, by rw [hyl, List.length_map]; exact hus8.1, fun i y z hy hz => ?_⟩, by rw [List.length_map]; exact hfl, ⟨by rw [hA]; exact hlow.2, by rw [hB]; exact hlow.1⟩, T, C, l1, l0, by rw [hA, hB]; exact hfloor.swap⟩
        obtain ⟨ab, h1, h2⟩ := hys i y hy
        rw [List.getElem?_map, h1] at hz
        cases hz
        exact h2.le (Ex.new o10.b).le
end
end Rf
end
section
set_option linter.all false
set_option autoImplicit false
set_option maxRecDepth 100000
set_option maxHeartbeats 1000000
/-! P16: _law_sums, _law_divides, is_walk, ask_walk, left_counts, net_counts. -/
namespace Rf
open PySem L2
section
variable {K : PySem.W.Frag} {σ : St} {B H : Hp} {ta tb tc te tl tn : TE} {g : TG} {D : Ends}
theorem n_fst {P P' : V → Hp → Prop} (h : VH te σ H P) (k : ∀ w H', P w H' → ∃ a b, T2 K H' w (a, b) ∧ P' (.int a) H') : VH (tOp (rIxT K) te (tC (.int 0))) σ H P' := fun Q q => h _ fun w H' p => by
  obtain ⟨a, b, ⟨r, rfl, hr⟩, p'⟩ := k w H' p
  exact ⟨r, _, 0, _, rfl, rfl, hr, atI_nat (j := 0) rfl, q _ _ p'⟩
theorem n_snd {P P' : V → Hp → Prop} (h : VH te σ H P) (k : ∀ w H', P w H' → ∃ a b, T2 K H' w (a, b) ∧ P' (.int b) H') : VH (tOp (rIxT K) te (tC (.int 1))) σ H P' := fun Q q => h _ fun w H' p => by
  obtain ⟨a, b, ⟨r, rfl, hr⟩, p'⟩ := k w H' p
  exact ⟨r, _, 1, _, rfl, rfl, hr, atI_nat (j := 1) rfl, q _ _ p'⟩
/-- a list whose items are told by their places -/
theorem list_of {n : Nat} {ys : List V} {f : Nat → Int} {ns : List Nat} (hl : ys.length = ns.length) (h : ∀ (j : Nat) (y : V), ys[j]? = some y → ∃ x, ns[j]? = some x ∧ y = V.int (f x)) : ys = (ns.map f).map V.int := by
  refine List.ext_getElem? fun i => ?_
  by_cases hi : i < ys.length
  · obtain ⟨x, h1, h2⟩ := h i _ (List.getElem?_eq_getElem hi)
    rw [List.getElem?_eq_getElem hi, h2, List.getElem?_map, List.getElem?_map, h1]; rfl
  · rw [List.getElem?_eq_none (by omega), List.getElem?_eq_none (by simp; omega)]
theorem r__law_sums (vs : List V) (H : Hp) (Q : VK) (E : XK) (h : sp_added K vs H Q E) : t__law_sums K (sp_mark K) { nx := fun _ H' => Q .non H', rt := Q } (L2.start N__law_sums vs) H := by
  obtain ⟨B, v1, v2, fs, ns, rfl, hl, hv, ⟨p, rfl, hp⟩, he, hz, k⟩ := h
  refine q_set (P := fun w H' => ∃ B', Ext B H B' H' ∧ w = .int (sm (mrk (fA fs)) ns)) (n_sum (n_lcB (B := B) (fun _ y j => ∃ x, ns[j]? = some x ∧ y = V.int (mrk (fA fs) x)) (fun _ _ _ _ _ h => h) hl (v_var rfl) hp (by rw [List.length_map]; omega) (fun _ => rfl) ?_) ?_) ?_
  · intro i x B1 H1 hi e1
    rw [List.getElem?_map] at hi
    obtain ⟨n, hn, rfl⟩ := Option.map_eq_some_iff.mp hi
    refine n_fst (K := K) (call_mark (B := B1) (v_var rfl) (v_var rfl) e1.le (hv.le e1.bb.le) (he n (List.mem_of_getElem? hn))) ?_
    rintro w H2 ⟨B2, e2, hw⟩
    exact ⟨_, _, hw.le e2.le, B2, e2, n, hn, rfl⟩
  · rintro w H' ⟨Dd, B', ys, rfl, e, o, hyl, hys⟩
    rw [list_of (n := 0) (by rw [hyl, List.length_map]) hys] at o
    exact ⟨Dd, _, rfl, .of o.h, B', e, rfl⟩
  rintro w1 H1 ⟨B1, e1, rfl⟩
  refine q_set (P := fun w H' => ∃ B', Ext B1 H1 B' H' ∧ w = .int (sm (mrk (fB fs)) ns)) (n_sum (n_lcB (B := B1) (fun _ y j => ∃ x, ns[j]? = some x ∧ y = V.int (mrk (fB fs) x)) (fun _ _ _ _ _ h => h) e1.le (v_var rfl) (sqL_le hp e1.bb.le) (by rw [List.length_map]; omega) (fun _ => rfl) ?_) ?_) ?_
  · intro i x B2 H2 hi e2
    rw [List.getElem?_map] at hi
    obtain ⟨n, hn, rfl⟩ := Option.map_eq_some_iff.mp hi
    refine n_snd (K := K) (call_mark (B := B2) (v_var rfl) (v_var rfl) e2.le (hv.le (e1.bb.le.trans e2.bb.le)) (he n (List.mem_of_getElem? hn))) ?_
    rintro w H3 ⟨B3, e3, hw⟩
    exact ⟨_, _, hw.le e3.le, B3, e3, n, hn, rfl⟩
  · rintro w H' ⟨Dd, B', ys, rfl, e, o, hyl, hys⟩
    rw [list_of (n := 0) (by rw [hyl, List.length_map]) hys] at o
    exact ⟨Dd, _, rfl, .of o.h, B', e, rfl⟩
  rintro w2 H2 ⟨B2, e2, rfl⟩
  refine s_ret (n_tup (g_cons (v_var rfl) (g_cons (v_var rfl) g_nil)) (by simp)) ?_
  rintro w' H3 ⟨t, ht, rfl, rfl⟩
  have e12 := e1.trans e2
  exact k _ _ _ (e12.trans (Ext.new e12.le ht)) ⟨t, rfl, .of upd_same⟩

/-! ### _law_divides -/
def sp_div : Sp := fun vs H Q _ => ∃ p q : Int, vs = [.int p, .int q] ∧ Q (.int (Int.gcd p q)) H
theorem call_div {p q : Int} (h1 : Val ta σ H (.int p)) (h2 : Val tb σ H (.int q)) : Val (tCall sp_div [] E0 (tCons ta (tCons tb tNil))) σ H (.int (Int.gcd p q)) := c_val (g_cons h1 (g_cons h2 g_nil)) fun _ q' => ⟨p, q, rfl, q'⟩
theorem abs_nat (i : Int) : (if i < 0 then -i else i) = (i.natAbs : Int) := by split <;> omega
theorem r__law_divides (vs : List V) (H : Hp) (Q : VK) (E : XK) (h : sp_div vs H Q E) : t__law_divides K { nx := fun _ H' => Q .non H', rt := Q } (L2.start N__law_divides vs) H := by
  obtain ⟨p, q, rfl, k⟩ := h
  refine q_setV (v_abs (v_var rfl)) (q_setV (v_abs (v_var rfl)) ?_)
  rw [abs_nat, abs_nat]
  refine q_seq (f_while (m0 := q.natAbs) (fun n σ H' => ∃ (a : Nat) (x2 : Option V), σ = [some (nv a), some (nv n), x2] ∧ H' = H ∧ Nat.gcd a n = Int.gcd p q) ⟨p.natAbs, none, rfl, rfl, rfl⟩ ?_)
  rintro n σ1 H1 ⟨a, x2, rfl, rfl, hg⟩
  refine ⟨decide (0 < n), a_t (vas (v_gt (v_var rfl) v_c) (by congr 1; simp only [decide_eq_decide]; omega)), fun hb => ?_, fun hb => ?_⟩
  · have hn := of_decide_eq_true hb
    refine q_setV (v := nv (a % n)) (vint (v_mod (v_var rfl) (v_var rfl) (by omega)) (Int.natCast_emod a n).symm) (q_setV (v_var rfl) (s_setV (v_var rfl) ?_))
    refine ⟨a % n, Nat.mod_lt _ hn, n, _, rfl, rfl, ?_⟩
    rw [← hg, Nat.gcd_comm a n, Nat.gcd_rec n a, Nat.gcd_comm]
  · have hn : n = 0 := by have := of_decide_eq_false hb; omega
    subst hn
    rw [Nat.gcd_zero_right] at hg
    subst hg
    exact s_retV (v_var rfl) k

/-! ### is_walk, ask_walk -/
/-- walk[at - 1] -/
theorem wk_prev {st : Nat → Nat} {W : List Nat} (h : Wk st W) {i e : Nat} (hi : W[i]? = some e) : ∃ p, p ∈ W ∧ st (mate p) = st e ∧ atI (W.map nv) ((i : Int) - 1) = some (nv p) := by
  have hlt := (List.getElem?_eq_some_iff.mp hi).1
  unfold Wk at h
  cases i with
  | zero =>
    obtain ⟨ini, p, rfl⟩ := unsnoc hlt
    refine ⟨p, by simp, ?_, ?_⟩
    · have h1 := congrArg (fun l => l[ini.length]?) h
      rw [List.getElem?_map, List.getElem?_map, List.getElem?_append_right (Nat.le_refl _)] at h1
      cases ini with
      | nil =>
        simp at h1
        simp at hi
        rw [← hi]; exact h1
      | cons x ini =>
        rw [List.getElem?_append_right (by simp)] at h1
        simp at h1
        simp at hi
        rw [← hi]; exact h1
    · rw [List.map_append]
      exact atI_last _ _
  | succ i =>
    have hi2 : i < W.length := by omega
    refine ⟨W[i], List.getElem_mem hi2, ?_, ?_⟩
    · have h1 := congrArg (fun l => l[i]?) h
      rw [List.getElem?_map, List.getElem?_map, List.getElem?_append_left (by rw [List.length_drop]; omega), List.getElem?_drop, Nat.add_comm 1 i, hi, List.getElem?_eq_getElem hi2] at h1
      exact Option.some.inj h1
    · rw [show ((i + 1 : Nat) : Int) - 1 = (i : Int) by omega]
      exact atI_nat (by rw [List.getElem?_map, List.getElem?_eq_getElem hi2]; rfl)
theorem v_prev {a : V} {W : List Nat} {i : Nat} {p : Nat} (ha : Val ta σ H a) (hs : LN K H a W) (hb : Val tb σ H (nv i)) (hp : atI (W.map nv) ((i : Int) - 1) = some (nv p)) : Val (tOp (rIxL K) ta (tOp rSubI tb (tC (.int 1)))) σ H (nv p) := by
  obtain ⟨r, rfl, hr⟩ := hs
  exact val_op ha (v_sub hb v_c) fun Q q => ⟨r, _, _, _, rfl, rfl, hr, hp, q⟩
/-- a walk, as a list -/
structure Wl (rows : List (List Nat)) (m : Nat) (W : List Nat) : Prop where
  lt : ∀ e ∈ W, e < 2 * m
  wk : Wk (seat rows) W
  sz : W.length ≤ 1000
def sp_iswalk (K : PySem.W.Frag) : Sp := fun vs H Q _ => ∃ B v1 v2 rows m W, vs = [v1, v2] ∧ Le B H ∧ LL K B v1 rows ∧ LN K B v2 W ∧ Dw rows m ∧ Wl rows m W ∧ Ret B H (fun w _ => w = .bl true) Q
def sp_askwalk (K : PySem.W.Frag) : Sp := fun vs H Q _ => ∃ B v1 v2 rows m W, vs = [v1, v2] ∧ Le B H ∧ LL K B v1 rows ∧ LN K B v2 W ∧ Dw rows m ∧ Wl rows m W ∧ Ret B H (fun w _ => w = .non) Q
def sp_lcnt (K : PySem.W.Frag) : Sp := fun vs H Q _ => ∃ B v1 v2 rows m W, vs = [v1, v2] ∧ Le B H ∧ LL K B v1 rows ∧ LN K B v2 W ∧ Dw rows m ∧ Wl rows m W ∧ Ret B H (fun w B' => ∃ cs, LI K B' w cs ∧ cs.length = 2 * m) Q
def sp_ncnt (K : PySem.W.Frag) : Sp := fun vs H Q _ => ∃ B v1 v2 rows m W, vs = [v1, v2] ∧ Le B H ∧ LL K B v1 rows ∧ LN K B v2 W ∧ Dw rows m ∧ Wl rows m W ∧ Ret B H (fun w B' => LI K B' w ((List.range (2 * m)).map (net W))) Q
section
variable {v1 v2 : V} {rows : List (List Nat)} {m : Nat} {W : List Nat}
theorem call_iswalk (h1 : Val ta σ H v1) (h2 : Val tb σ H v2) (l : Le B H) (hv : LL K B v1 rows) (hw : LN K B v2 W) (D : Dw rows m) (hW : Wl rows m W) : VH (tCall (sp_iswalk K) [] E0 (tCons ta (tCons tb tNil))) σ H fun w H' => ∃ B', Ext B H B' H' ∧ w = .bl true :=
  c_call (g_cons h1 (g_cons h2 g_nil)) fun Q q => ⟨B, v1, v2, rows, m, W, rfl, l, hv, hw, D, hW, fun w B' H' e h1 => q w H' ⟨B', e, h1⟩⟩
theorem call_askwalk (h1 : Val ta σ H v1) (h2 : Val tb σ H v2) (l : Le B H) (hv : LL K B v1 rows) (hw : LN K B v2 W) (D : Dw rows m) (hW : Wl rows m W) : VH (tCall (sp_askwalk K) [] E0 (tCons ta (tCons tb tNil))) σ H fun w H' => ∃ B', Ext B H B' H' ∧ w = .non :=
  c_call (g_cons h1 (g_cons h2 g_nil)) fun Q q => ⟨B, v1, v2, rows, m, W, rfl, l, hv, hw, D, hW, fun w B' H' e h1 => q w H' ⟨B', e, h1⟩⟩
theorem call_lcnt (h1 : Val ta σ H v1) (h2 : Val tb σ H v2) (l : Le B H) (hv : LL K B v1 rows) (hw : LN K B v2 W) (D : Dw rows m) (hW : Wl rows m W) : VH (tCall (sp_lcnt K) [] E0 (tCons ta (tCons tb tNil))) σ H fun w H' => ∃ B' cs, Ext B H B' H' ∧ LI K B' w cs ∧ cs.length = 2 * m :=
  c_call (g_cons h1 (g_cons h2 g_nil)) fun Q q => ⟨B, v1, v2, rows, m, W, rfl, l, hv, hw, D, hW, fun w B' H' e ⟨cs, h1, h2⟩ => q w H' ⟨B', cs, e, h1, h2⟩⟩
theorem call_ncnt (h1 : Val ta σ H v1) (h2 : Val tb σ H v2) (l : Le B H) (hv : LL K B v1 rows) (hw : LN K B v2 W) (D : Dw rows m) (hW : Wl rows m W) : VH (tCall (sp_ncnt K) [] E0 (tCons ta (tCons tb tNil))) σ H fun w H' => ∃ B', Ext B H B' H' ∧ LI K B' w ((List.range (2 * m)).map (net W)) :=
  c_call (g_cons h1 (g_cons h2 g_nil)) fun Q q => ⟨B, v1, v2, rows, m, W, rfl, l, hv, hw, D, hW, fun w B' H' e h1 => q w H' ⟨B', e, h1⟩⟩
end
theorem r_is_walk (vs : List V) (H : Hp) (Q : VK) (E : XK) (h : sp_iswalk K vs H Q E) : t_is_walk K sp_mate (sp_seats K) { nx := fun _ H' => Q .non H', rt := Q } (L2.start N_is_walk vs) H := by
  obtain ⟨B, v1, v2, rows, m, W, rfl, hl, hv, hw, D, hW, k⟩ := h
  have hgoal : ∀ x, x < 2 * m → ((List.range (2 * m)).map (seat rows))[x]? = some (seat rows x) := fun x hx => by
    rw [List.getElem?_map, List.getElem?_range hx]; rfl
  refine q_set (call_seats (v_var rfl) hl hv D) ?_
  rintro b H1 ⟨B1, e1, hb⟩
  have hw1 := hw.le e1.bb.le
  refine q_seq (f_LN (B := B1) (v_var rfl) hw1 (fun i σ H' => ∃ x3, σ = [some v1, some v2, some b, x3, none] ∧ H' = H1) ⟨none, rfl, rfl⟩ (fun i σ' H' ⟨_, _, h⟩ => by rw [h]; exact e1.le) ?_ ?_)
  · rintro i n σ2 H2 hi ⟨x3, rfl, rfl⟩
    have hlt := hW.lt n (List.mem_of_getElem? hi)
    refine s_if (b := false || false) (a_or (a_t (vas (v_lt (v_var rfl) v_c) (by rw [decide_eq_false]; omega))) fun _ => a_t (vas (v_ge (v_var rfl) (v_lenN (v_var rfl) (hb.le e1.le))) (by rw [decide_eq_false]; simp; omega))) (fun h => by cases h) (fun _ => ?_)
    exact ⟨_, rfl, rfl⟩
  · rintro σ2 H2 ⟨x3, rfl, rfl⟩
    obtain ⟨a, rfl, ha⟩ := id hw1
    refine q_seq (f_enum (a := a) (xs := W.map nv) (v_var rfl) (sqL_le ha e1.le) (fun i σ H' => ∃ x3 x4, σ = [some v1, some (.ref a), some b, x3, x4] ∧ Ext B H B1 H') ⟨x3, none, rfl, e1⟩ (fun i σ' H' ⟨_, _, _, e⟩ => sqL_le ha e.le) ?_ ?_)
    · rintro i x σ3 H3 T hx ⟨x3, x4, rfl, e3⟩ hT
      rw [List.getElem?_map] at hx
      obtain ⟨n, hn, rfl⟩ := Option.map_eq_some_iff.mp hx
      obtain ⟨p, hpW, hps, hpa⟩ := wk_prev hW.wk hn
      have e4 := e3.own hT (o := .tup [nv i, nv n])
      refine s_if (b := false) (a_t (vas (v_neI (v_ixN (v_var rfl) (hb.le e4.le) (call_mate (v_prev (v_var rfl) (hw1.le e4.le) (v_var rfl) hpa)) (hgoal _ (mate_lt (hW.lt p hpW)))) (v_ixN (v_var rfl) (hb.le e4.le) (v_var rfl) (hgoal _ (hW.lt n (List.mem_of_getElem? hn))))) (by rw [hps]; simp))) (fun h => by cases h) (fun _ => ?_)
      exact ⟨_, _, rfl, e4⟩
    · rintro σ3 H3 ⟨x3, x4, rfl, e3⟩
      dsimp only
      exact s_retV v_c (k _ _ _ e3 rfl)
theorem r_ask_walk (vs : List V) (H : Hp) (Q : VK) (E : XK) (h : sp_askwalk K vs H Q E) : t_ask_walk K (sp_iswalk K) { nx := fun _ H' => Q .non H', rt := Q } (L2.start N_ask_walk vs) H := by
  obtain ⟨B, v1, v2, rows, m, W, rfl, hl, hv, hw, D, hW, k⟩ := h
  unfold t_ask_walk tIfS tNot tB
  refine call_iswalk (B := B) (σ := [some v1, some v2]) (v_var rfl) (v_var rfl) hl hv hw D hW _ ?_
  rintro w1 H1 ⟨B1, e1, rfl⟩
  exact ⟨true, rfl, iteF (k _ B1 _ e1 rfl)⟩

/-! ### left_counts -/
theorem r_left_counts (vs : List V) (H : Hp) (Q : VK) (E : XK) (h : sp_lcnt K vs H Q E) : t_left_counts K sp_mate (sp_behind K) { nx := fun _ H' => Q .non H', rt := Q } (L2.start N_left_counts vs) H := by
  obtain ⟨B, v1, v2, rows, m, W, rfl, hl, hv, hw, D, hW, k⟩ := h
  have hm := D.sm
  have I : Inj (2 * m) (beh rows) := D.dr.part.inj
  have hgoal : ∀ x, x < 2 * m → ((List.range (2 * m)).map (beh rows))[x]? = some (beh rows x) := fun x hx => by
    rw [List.getElem?_map, List.getElem?_range hx]; rfl
  refine q_set (call_behind (v_var rfl) hl hv D) ?_
  rintro b H1 ⟨B1, e1, hb⟩
  refine q_set (n_zerosL (n := 2 * m) (c := .int 0) e1.le (fun H' e => vas (v_lenN (v_var rfl) (hb.le (e1.le.trans e.le))) (by simp)) (by omega)) ?_
  rintro w2 H2 ⟨p, e2', o2', rfl⟩
  have e2 := e1.trans e2'
  have o2 : Own H B1 H2 p (.lst (List.replicate (2 * m) (.int 0))) := ⟨e1.hh.free o2'.h0, o2'.b, o2'.h⟩
  have hw1 := hw.le e1.bb.le
  obtain ⟨a, rfl, ha⟩ := id hw1
  refine q_seq (f_enum (a := a) (xs := W.map nv) (v_var rfl) (sqL_le ha e2.le)
    (fun i σ H' => ∃ (x4 x5 x6 x7 : Option V) (cs : List Int), σ = [some v1, some (.ref a), some b, some (.ref p), x4, x5, x6, x7] ∧ Ext B H B1 H' ∧ Own H B1 H' p (.lst (cs.map V.int)) ∧ cs.length = 2 * m)
    ⟨none, none, none, none, List.replicate (2 * m) 0, rfl, e2, by rw [List.map_replicate]; exact o2, by simp⟩ (fun i σ' H' ⟨_, _, _, _, _, _, e, _⟩ => sqL_le ha e.le) ?_ ?_)
  · rintro i x σ3 H3 T hx ⟨x4, x5, x6, x7, cs, rfl, e3, o3, hcs⟩ hT
    rw [List.getElem?_map] at hx
    obtain ⟨n, hn, rfl⟩ := Option.map_eq_some_iff.mp hx
    obtain ⟨c, hcW, _, hca⟩ := wk_prev hW.wk hn
    have hc2 := mate_lt (hW.lt c hcW)
    have e4 := e3.own hT (o := .tup [nv i, nv n])
    have o4 := o3.other (ne_of_none o3.h hT) (u := .tup [nv i, nv n])
    refine q_setV (call_mate (v_prev (v_var rfl) (hw1.le e4.le) (v_var rfl) hca)) ?_
    refine q_setV (v_ixN (v_var rfl) (hb.le e4.le) (v_var rfl) (hgoal _ hc2)) ?_
    have ho := orb_is I hc2
    obtain ⟨rest, hrest⟩ : ∃ rest, orb (beh rows) (mate c) = mate c :: rest := by
      cases hq : orb (beh rows) (mate c) with
      | nil => exact absurd hq ho.1
      | cons z rest =>
        have := ho.2.2
        rw [hq] at this
        exact ⟨rest, by rw [this.1]⟩
    have hseg : Seg (beh rows) (beh rows (mate c)) rest (mate c) := by
      have := ho.2.2
      rw [hrest] at this
      exact this.2
    refine f_while (m0 := rest.length)
      (fun k σ H' => ∃ (cur : Nat) (rest : List Nat) (cs : List Int), σ = [some v1, some (.ref a), some b, some (.ref p), some (nv i), some (nv n), some (nv (mate c)), some (nv cur)] ∧ Ext B H B1 H' ∧ Own H B1 H' p (.lst (cs.map V.int)) ∧ cs.length = 2 * m ∧ k = rest.length ∧ cur < 2 * m ∧ Seg (beh rows) cur rest (mate c))
      ⟨_, rest, cs, rfl, e4, o4, hcs, rfl, I.lt _ hc2, hseg⟩ ?_
    rintro k σ5 H5 ⟨cur, rest, cs, rfl, e5, o5, hcs, rfl, hcur, hseg⟩
    refine ⟨_, a_and (a_t (v_neI (v_var rfl) (v_var rfl))) fun _ => a_t (v_neI (v_var rfl) (v_var rfl)), fun hb' => ?_, fun hb' => ?_⟩
    · have hne : cur ≠ mate c := fun z => by
        subst z
        simp at hb'
      cases rest with
      | nil => exact absurd hseg hne
      | cons y rest =>
        have hat : cs[cur]? = some cs[cur] := List.getElem?_eq_getElem (by omega)
        refine q_seq (s_augL (j := cur) (a := cs[cur]) (v_var rfl) (v_var rfl) o5.h (by rw [List.getElem?_map, hat]; rfl) v_c ?_)
        rw [map_set_int]
        have e6 := e5.put o5 (.lst ((cs.set cur (cs[cur] + 1)).map V.int))
        refine s_setV (v_ixN (v_var rfl) (hb.le e6.le) (v_var rfl) (hgoal _ hcur)) ?_
        refine ⟨rest.length, by simp, beh rows cur, rest, cs.set cur (cs[cur] + 1), rfl, e6, o5.put _, by rw [List.length_set]; exact hcs, rfl, I.lt _ hcur, ?_⟩
        have := hseg.2
        rwa [← hseg.1] at this
    · exact ⟨_, _, _, _, cs, rfl, e5, o5, hcs⟩
  · rintro σ3 H3 ⟨x4, x5, x6, x7, cs, rfl, e3, o3, hcs⟩
    exact s_retV (v_var rfl) (k _ _ _ (e3.freeze o3) ⟨cs, .of upd_same, hcs⟩)

/-! ### net_counts -/
theorem net_snoc (W : List Nat) (e x : Nat) : net (W ++ [e]) x = net W x + (if x = e then 1 else 0) - (if x = mate e then 1 else 0) := by
  unfold net
  rw [List.count_append, List.count_append, List.count_singleton, List.count_singleton]
  have h1 : ((if (e == x) = true then 1 else 0 : Nat) : Int) = if x = e then 1 else 0 := by
    by_cases h : x = e
    · rw [if_pos h, if_pos (by simp [h])]; rfl
    · rw [if_neg h, if_neg (by simp; exact fun z => h z.symm)]; rfl
  have h2 : ((if (e == mate x) = true then 1 else 0 : Nat) : Int) = if x = mate e then 1 else 0 := by
    by_cases h : x = mate e
    · rw [if_pos h, if_pos (by rw [h, mate_mate]; simp)]; rfl
    · rw [if_neg h, if_neg (by simp; exact fun z => h (by rw [z, mate_mate]))]; rfl
  rw [Int.natCast_add, Int.natCast_add, h1, h2]
  omega
theorem r_net_counts (vs : List V) (H : Hp) (Q : VK) (E : XK) (h : sp_ncnt K vs H Q E) : t_net_counts K sp_mate (sp_cnt K) { nx := fun _ H' => Q .non H', rt := Q } (L2.start N_net_counts vs) H := by
  obtain ⟨B, v1, v2, rows, m, W, rfl, hl, hv, hw, D, hW, k⟩ := h
  refine q_set (n_zeros rfl hl hv D) ?_
  rintro w2 H2 ⟨B1, p, e1, o1, rfl⟩
  have hw1 := hw.le e1.bb.le
  refine q_seq (f_LN (B := B1) (v_var rfl) hw1
    (fun i σ H' => ∃ (x3 : Option V), σ = [some v1, some v2, some (.ref p), x3] ∧ Ext B H B1 H' ∧ Own H B1 H' p (.lst (fl (2 * m) fun x => .int (net (W.take i) x))))
    ⟨none, rfl, e1, ?_⟩ (fun i σ' H' ⟨_, _, e, _⟩ => e.le) ?_ ?_)
  · rw [fl_rep] at o1
    exact o1
  · rintro i n σ3 H3 hi ⟨x3, rfl, e3, o3⟩
    have hlt := hW.lt n (List.mem_of_getElem? hi)
    refine q_seq (s_augL (j := n) (v_var rfl) (v_var rfl) o3.h (fl_at hlt) v_c ?_)
    rw [fl_set]
    have e4 := e3.put o3 (.lst (fl (2 * m) fun x => if x = n then .int (net (W.take i) n + 1) else .int (net (W.take i) x)))
    have o4 := o3.put (.lst (fl (2 * m) fun x => if x = n then .int (net (W.take i) n + 1) else .int (net (W.take i) x)))
    refine s_augL (j := mate n) (a := net (W.take i) (mate n)) (v_var rfl) (call_mate (v_var rfl)) o4.h ?_ v_c ?_
    · rw [fl_at (mate_lt hlt), if_neg (mate_ne n)]
    · rw [fl_set]
      refine ⟨_, rfl, e4.put o4 _, ?_⟩
      have e5 : (fl (2 * m) fun x => V.int (net (W.take (i + 1)) x)) = fl (2 * m) fun x => if x = mate n then V.int (net (W.take i) (mate n) - 1) else if x = n then V.int (net (W.take i) n + 1) else V.int (net (W.take i) x) := fl_congr fun x hx => by
        rw [take_snoc hi, net_snoc]
        by_cases a : x = mate n
        · subst a
          rw [if_neg (mate_ne n), if_pos rfl, if_pos rfl]; congr 1; omega
        · rw [if_neg a, if_neg a]
          by_cases c : x = n
          · subst c; rw [if_pos rfl, if_pos rfl]; congr 1; omega
          · rw [if_neg c, if_neg c]; congr 1; omega
      rw [e5]
      exact o4.put _
  · rintro σ3 H3 ⟨x3, rfl, e3, o3⟩
    rw [List.take_length] at o3
    refine s_retV (v_var rfl) (k _ _ _ (e3.freeze o3) ⟨p, rfl, .of ?_⟩)
    rw [upd_same]
    unfold fl
    rw [List.map_map]; rfl
end
end Rf
end
section
set_option linter.all false
set_option autoImplicit false
set_option maxRecDepth 100000
set_option maxHeartbeats 1000000
/-! P17: spread_numbers, filling. -/
namespace Rf
open PySem L2
section
variable {K : PySem.W.Frag} {σ : St} {B H : Hp} {ta tb tc td' te tl tn : TE} {g : TG} {D : Ends}
/-- f fills W -/
def Fills (rows : List (List Nat)) (m : Nat) (W : List Nat) (f : Nat → Int) : Prop := ∀ e, e < 2 * m → net W e = dl (seat (landsOf rows m)) f e
theorem dkv_int {ks : List Nat} {f : Nat → Int} {n : Nat} {z : Int} (h : n ∉ ks) : putK (dkv ks fun x => V.int (f x)) (ki n) (.int z) = dkv (ks ++ [n]) fun x => V.int (if x = n then z else f x) := by
  rw [dkv_newV h]
  exact dkv_congr fun x _ => by split <;> rfl
def sp_spread (K : PySem.W.Frag) : Sp := fun vs H Q _ => ∃ B v1 v2 v3 rows m W first, vs = [v1, v2, v3, nv first] ∧ Le B H ∧ LL K B v1 (landsOf rows m) ∧ DK B v2 (landsOf rows m).flatten (fun e => nv (seat (landsOf rows m) e)) ∧ LI K B v3 ((List.range (2 * m)).map (net W)) ∧ Dw rows m ∧ Ring rows m ∧ first < (landsOf rows m).length ∧
  (∀ H', Ext B H B H' → (¬ ∃ f, Fills rows m W f) → Q .non H') ∧ ∀ p H' ks f, Ext B H B H' → Own H B H' p (.dK (dkv ks fun x => .int (f x))) → AllN (landsOf rows m).length ks → Fills rows m W f → Q (.ref p) H'
theorem call_spread {v1 v2 v3 : V} {rows : List (List Nat)} {m first : Nat} {W : List Nat} (h1 : Val ta σ H v1) (h2 : Val tb σ H v2) (h3 : Val tc σ H v3) (h4 : Val td' σ H (nv first)) (l : Le B H) (hv : LL K B v1 (landsOf rows m)) (hi : DK B v2 (landsOf rows m).flatten (fun e => nv (seat (landsOf rows m) e))) (hn : LI K B v3 ((List.range (2 * m)).map (net W))) (D : Dw rows m) (R : Ring rows m) (hf : first < (landsOf rows m).length) :
    VH (tCall (sp_spread K) [] E0 (tCons ta (tCons tb (tCons tc (tCons td' tNil))))) σ H fun w H' => Ext B H B H' ∧ ((w = .non ∧ ¬ ∃ f, Fills rows m W f) ∨ ∃ p ks f, w = .ref p ∧ Own H B H' p (.dK (dkv ks fun x => .int (f x))) ∧ AllN (landsOf rows m).length ks ∧ Fills rows m W f) :=
  c_call (g_cons h1 (g_cons h2 (g_cons h3 (g_cons h4 g_nil)))) fun Q q => ⟨B, v1, v2, v3, rows, m, W, first, rfl, l, hv, hi, hn, D, R, hf, fun H' e h => q _ _ ⟨e, .inl ⟨rfl, h⟩⟩, fun p H' ks f e o h1 h2 => q _ _ ⟨e, .inr ⟨p, ks, f, rfl, o, h1, h2⟩⟩⟩
theorem r_spread_numbers (vs : List V) (H : Hp) (Q : VK) (E : XK) (h : sp_spread K vs H Q E) : t_spread_numbers K sp_mate { nx := fun _ H' => Q .non H', rt := Q } (L2.start N_spread_numbers vs) H := by
  obtain ⟨B, v1, v2, v3, rows, m, W, first, rfl, hl, hv, hi, hn, D, R, hf, kN, kF⟩ := h
  have P := D.dr.lands
  have F := D.lfew
  have hnL := F.sn
  refine q_set (n_disp1 (k := ki first) (v := .int 0) (fun H' _ => v_var rfl) (fun H' _ => v_c)) ?_
  rintro w2 H2 ⟨p, hp, rfl, rfl⟩
  have e2 := (Ext.refl hl).own hp (o := .dK (dkv [first] fun x => .int ((fun _ => (0 : Int)) x)))
  have o2 : Own H B _ p (.dK (dkv [first] fun x => .int ((fun _ => (0 : Int)) x))) := Own.of_new (.refl H) hl hp
  refine q_set (n_lst (g_cons (v_var rfl) g_nil) (by simp)) ?_
  rintro w3 H3 ⟨q, hq, rfl, rfl⟩
  have hq : (upd H p (.dK (dkv [first] fun x => .int ((fun _ => (0 : Int)) x)))) q = none := hq
  have e3 := e2.own hq (o := .lst ([first].map nv))
  have oq3 : Own H B _ q (.lst ([first].map nv)) := Own.of_new e2.hh e2.le hq
  have npq : p ≠ q := ne_of_none o2.h hq
  have o3 := o2.other npq (u := .lst ([first].map nv))
  refine q_seq (f_while (m0 := 2 * (landsOf rows m).length)
    (fun n σ H' => ∃ (x6 x7 x8 x9 : Option V) (ks ws : List Nat) (f : Nat → Int), σ = [some v1, some v2, some v3, some (nv first), some (.ref p), some (.ref q), x6, x7, x8, x9] ∧ Ext B H B H' ∧ Own H B H' p (.dK (dkv ks fun x => .int (f x))) ∧ Own H B H' q (.lst (ws.map nv)) ∧
      ks.Nodup ∧ (∀ x ∈ ks, x < (landsOf rows m).length) ∧ (∀ x ∈ ws, x ∈ ks) ∧ first ∈ ks ∧ ws.length ≤ ks.length ∧ 2 * ((landsOf rows m).length - ks.length) + ws.length ≤ n ∧
      (∀ g, Fills rows m W g → ∀ l ∈ ks, f l = g l - g first) ∧
      ∀ e, e < 2 * m → seat (landsOf rows m) e ∈ ks → seat (landsOf rows m) e ∉ ws → seat (landsOf rows m) (mate e) ∈ ks ∧ f (seat (landsOf rows m) (mate e)) = f (seat (landsOf rows m) e) - net W e)
    ⟨none, none, none, none, [first], [first], fun _ => 0, rfl, e3, o3, oq3, by simp, by simpa using hf, by simp, by simp, by simp, by simp; omega, fun g _ l hl => by simp at hl; subst hl; show (0 : Int) = g l - g l; omega, fun e _ h1 h2 => absurd h1 h2⟩ ?_)
  rintro n σ4 H4 ⟨x6, x7, x8, x9, ks, ws, f, rfl, e4, o4, oq4, hnd, hlt, hwk, hsk, hwl, hms, hfor, hdone⟩
  have hkl : ks.length ≤ (landsOf rows m).length := nodup_le hnd hlt
  refine ⟨decide (0 < ws.length), a_t (vas (v_gt (v_lenN (v_var rfl) (LN.of oq4.h)) v_c) (by congr 1; simp only [decide_eq_decide]; omega)), fun hb => ?_, fun hb => ?_⟩
  · obtain ⟨wi, P0, rfl⟩ := unsnoc (of_decide_eq_true hb)
    have hpop : H4 q = some (.lst (wi.map nv ++ [nv P0])) := by rw [oq4.h, List.map_append]; rfl
    refine q_set (n_pop (v_var rfl) hpop) ?_
    rintro w5 H5 ⟨rfl, rfl⟩
    have e5 := e4.put oq4 (.lst (wi.map nv))
    have oq5 := oq4.put (.lst (wi.map nv))
    have o5 := o4.other npq (u := .lst (wi.map nv))
    have hPk : P0 ∈ ks := hwk _ (by simp)
    obtain ⟨r, hrow⟩ : ∃ r, (landsOf rows m)[P0]? = some r := ⟨_, List.getElem?_eq_getElem (hlt _ hPk)⟩
    have hrm := List.mem_of_getElem? hrow
    rw [List.length_append] at hwl hms
    simp only [List.length_singleton] at hwl hms
    obtain ⟨w, hw, hwl'⟩ := v_row (K := K) (σ := [some v1, some v2, some v3, some (nv first), some (.ref p), some (.ref q), some (nv P0), x7, x8, x9]) (ta := tVar 0) (tb := tVar 6) (v_var rfl) e5.le hv (v_var rfl) hrow
    refine f_LN (B := B) hw hwl'
      (fun j σ H' => ∃ (x7 x8 x9 : Option V) (ks ws : List Nat) (f : Nat → Int), σ = [some v1, some v2, some v3, some (nv first), some (.ref p), some (.ref q), some (nv P0), x7, x8, x9] ∧ Ext B H B H' ∧ Own H B H' p (.dK (dkv ks fun x => .int (f x))) ∧ Own H B H' q (.lst (ws.map nv)) ∧
        ks.Nodup ∧ (∀ x ∈ ks, x < (landsOf rows m).length) ∧ (∀ x ∈ ws, x ∈ ks) ∧ first ∈ ks ∧ P0 ∈ ks ∧ ws.length + 1 ≤ ks.length ∧ 2 * ((landsOf rows m).length - ks.length) + ws.length + 1 ≤ n ∧
        (∀ g, Fills rows m W g → ∀ l ∈ ks, f l = g l - g first) ∧
        (∀ e, e < 2 * m → seat (landsOf rows m) e ∈ ks → seat (landsOf rows m) e ∉ ws → seat (landsOf rows m) e ≠ P0 → seat (landsOf rows m) (mate e) ∈ ks ∧ f (seat (landsOf rows m) (mate e)) = f (seat (landsOf rows m) e) - net W e) ∧ ∀ e ∈ r.take j, seat (landsOf rows m) (mate e) ∈ ks ∧ f (seat (landsOf rows m) (mate e)) = f (seat (landsOf rows m) e) - net W e)
      ⟨x7, x8, x9, ks, wi, f, rfl, e5, o5, oq5, hnd, hlt, fun x hx => hwk x (by simp [hx]), hsk, hPk, by omega, by omega, hfor, fun e he h1 h2 h3 => hdone e he h1 (fun z => by rcases List.mem_append.mp z with z | z; exact h2 z; exact h3 (List.mem_singleton.mp z)), by simp⟩ (fun j σ' H' ⟨_, _, _, _, _, _, _, e, _⟩ => e.le) ?_ ?_
    · rintro j e σ6 H6 hej ⟨x7, x8, x9, ks, ws, f, rfl, e6, o6, oq6, hnd, hlt, hwk, hsk, hPk, hwl, hms, hfor, hdone, hall⟩
      have hem := List.mem_of_getElem? hej
      have hel := P.lt hrm hem
      have hse : seat (landsOf rows m) e = P0 := P.num _ _ _ hrow hem
      have hkl : ks.length ≤ (landsOf rows m).length := nodup_le hnd hlt
      -- beyond, number
      refine q_setV (v_get (n := mate e) (f := fun e => nv (seat (landsOf rows m) e)) (v_var rfl) (hi.le e6.le) (call_mate (v_var rfl)) ((P.mem _).mpr (mate_lt hel))) ?_
      have hnet : ((List.range (2 * m)).map (net W))[e]? = some (net W e) := by
        rw [List.getElem?_map, List.getElem?_range hel]; rfl
      refine q_setV (v_sub (v_get (n := P0) (f := fun x => V.int (f x)) (v_var rfl) (DK.of o6.h) (v_var rfl) hPk) (v_ixI (v_var rfl) (hn.le e6.le) (v_var rfl) hnet)) ?_
      refine s_if (a_b (v_nin (n := seat (landsOf rows m) (mate e)) (v_var rfl) (v_var rfl) (DK.of o6.h))) (fun hb2 => ?_) (fun hb2 => ?_)
      · have hnew := nd_t hb2
        refine q_seq (s_dput (k := ki (seat (landsOf rows m) (mate e))) (v_var rfl) (v_var rfl) (v_var rfl) o6.h (by rw [dkv_len]; omega) ?_)
        rw [dkv_int hnew]
        have e7 := e6.put o6 (.dK (dkv (ks ++ [seat (landsOf rows m) (mate e)]) fun x => .int (if x = seat (landsOf rows m) (mate e) then f P0 - net W e else f x)))
        have o7 := o6.put (.dK (dkv (ks ++ [seat (landsOf rows m) (mate e)]) fun x => .int (if x = seat (landsOf rows m) (mate e) then f P0 - net W e else f x)))
        have oq7 := oq6.other npq.symm (u := .dK (dkv (ks ++ [seat (landsOf rows m) (mate e)]) fun x => .int (if x = seat (landsOf rows m) (mate e) then f P0 - net W e else f x)))
        refine s_app (v := nv (seat (landsOf rows m) (mate e))) (v_var rfl) (v_var rfl) oq7.h (by rw [List.length_map]; omega) ?_
        have hslt : seat (landsOf rows m) (mate e) < (landsOf rows m).length := P.s_lt (mate_lt hel)
        have hnd2 : (ks ++ [seat (landsOf rows m) (mate e)]).Nodup := by
          rw [List.nodup_append]
          exact ⟨hnd, by simp, fun a ha b hb z => by simp at hb; subst hb z; exact hnew ha⟩
        have hlt2 : ∀ x ∈ ks ++ [seat (landsOf rows m) (mate e)], x < (landsOf rows m).length := fun x hx => by
          rcases List.mem_append.mp hx with z | z
          · exact hlt x z
          · rw [List.mem_singleton.mp z]; exact hslt
        have hkl2 := nodup_le hnd2 hlt2
        simp only [List.length_append, List.length_singleton] at hkl2
        have old : ∀ x ∈ ks, (if x = seat (landsOf rows m) (mate e) then f P0 - net W e else f x) = f x := fun x hx => if_neg fun z => hnew (by rw [← z]; exact hx)
        refine ⟨_, _, _, ks ++ [seat (landsOf rows m) (mate e)], ws ++ [seat (landsOf rows m) (mate e)], fun x => if x = seat (landsOf rows m) (mate e) then f P0 - net W e else f x, rfl, e7.put oq7 _, o7.other npq, by rw [List.map_append]; exact oq7.put _, hnd2, hlt2, fun x hx => ?_, by simp [hsk], by simp [hPk], by simp; omega, by simp; omega, fun g hg l hl' => ?_, fun y hy h1 h2 h3 => ?_, fun y hy => ?_⟩
        · rcases List.mem_append.mp hx with z | z
          · exact List.mem_append.mpr (.inl (hwk x z))
          · exact List.mem_append.mpr (.inr z)
        · rcases List.mem_append.mp hl' with z | z
          · dsimp only; rw [old l z]; exact hfor g hg l z
          · rw [List.mem_singleton.mp z]
            dsimp only
            rw [if_pos rfl, hfor g hg P0 hPk, hg e hel]
            unfold dl
            rw [hse]; omega
        · rcases List.mem_append.mp h1 with z | z
          · obtain ⟨h4, h5⟩ := hdone y hy z (fun u => h2 (List.mem_append.mpr (.inl u))) h3
            exact ⟨List.mem_append.mpr (.inl h4), by dsimp only; rw [old _ h4, old _ z]; exact h5⟩
          · exact absurd (List.mem_append.mpr (.inr z)) h2
        · rw [take_snoc hej] at hy
          rcases List.mem_append.mp hy with z | z
          · obtain ⟨h4, h5⟩ := hall y z
            have hys : seat (landsOf rows m) y = P0 := P.num _ _ _ hrow (List.mem_of_mem_take z)
            exact ⟨List.mem_append.mpr (.inl h4), by dsimp only; rw [old _ h4, old _ (by rw [hys]; exact hPk)]; exact h5⟩
          · rw [List.mem_singleton.mp z]
            exact ⟨by simp, by dsimp only; rw [if_pos rfl, old _ (by rw [hse]; exact hPk), hse]⟩
      · have hold := nd_f hb2
        refine s_if (a_t (v_neI (v_get (n := seat (landsOf rows m) (mate e)) (f := fun x => V.int (f x)) (v_var rfl) (DK.of o6.h) (v_var rfl) hold) (v_var rfl))) (fun hb3 => ?_) (fun hb3 => ?_)
        · have hne := nd_t hb3
          refine s_retV v_c (kN _ e6 ?_)
          rintro ⟨g, hg⟩
          refine hne ?_
          rw [hfor g hg _ hold, hfor g hg P0 hPk, hg e hel]
          unfold dl
          rw [hse]; omega
        · have heq := nd_f hb3
          refine ⟨_, _, _, ks, ws, f, rfl, e6, o6, oq6, hnd, hlt, hwk, hsk, hPk, hwl, hms, hfor, hdone, fun y hy => ?_⟩
          rw [take_snoc hej] at hy
          rcases List.mem_append.mp hy with z | z
          · exact hall y z
          · rw [List.mem_singleton.mp z, hse]; exact ⟨hold, heq⟩
    · rintro σ6 H6 ⟨x7, x8, x9, ks, ws, f, rfl, e6, o6, oq6, hnd, hlt, hwk, hsk, hPk, hwl, hms, hfor, hdone, hall⟩
      rw [List.take_length] at hall
      refine ⟨n - 1, by omega, _, x7, x8, x9, ks, ws, f, rfl, e6, o6, oq6, hnd, hlt, hwk, hsk, by omega, by omega, hfor, fun e he h1 h2 => ?_⟩
      by_cases z : seat (landsOf rows m) e = P0
      · obtain ⟨l, hl1, hl2⟩ := P.row he
        rw [z, hrow] at hl1
        cases hl1
        exact hall e hl2
      · exact hdone e he h1 h2 z
  · have hws : ws = [] := by
      have := of_decide_eq_false hb
      exact List.eq_nil_of_length_eq_zero (by omega)
    subst hws
    have hall : ∀ e, e < 2 * m → seat (landsOf rows m) e ∈ ks := fun e1 h1 => by
      obtain ⟨e0, h0, hs0⟩ := R.land_at hf
      refine R.conn (fun e => seat (landsOf rows m) e ∈ ks) (fun y hy h => ?_) (fun y hy h => (hdone y hy h (by simp)).1) e0 e1 h0 h1 (by rw [hs0]; exact hsk)
      have h2 := P.s_nx (e := mate y) (mate_lt hy)
      unfold stp at h2
      rw [mate_mate] at h2
      rw [h2]
      exact (hdone y hy h (by simp)).1
    refine s_retV (v_var rfl) (kF p H4 ks f e4 o4 ⟨hnd, fun x => ⟨hlt x, fun hx => ?_⟩⟩ fun e he => ?_)
    · obtain ⟨e0, h0, hs0⟩ := R.land_at hx
      rw [← hs0]; exact hall e0 h0
    · have := (hdone e he (hall e he) (by simp)).2
      unfold dl
      omega

/-! ### filling -/
theorem lock_put2 {p q T : Addr} {o y z : HO} {od : Obj} (n1 : T ≠ p) (n2 : q ≠ p) (hp : H p = some o) : upd (upd (upd (upd H p (.frz od o)) T y) q z) p o = upd (upd H T y) q z := by
  funext a
  by_cases h1 : a = p
  · subst h1; rw [upd_same, upd_ne n2.symm, upd_ne n1.symm, hp]
  · by_cases h2 : a = q
    · subst h2; rw [upd_ne h1, upd_same, upd_same]
    · rw [upd_ne h1, upd_ne h2, upd_ne h2]
      by_cases h3 : a = T
      · subst h3; rw [upd_same, upd_same]
      · rw [upd_ne h3, upd_ne h3, upd_ne h1]
def sp_filling (K : PySem.W.Frag) : Sp := fun vs H Q _ => ∃ B v1 v2 rows m W, vs = [v1, v2] ∧ Le B H ∧ LL K B v1 rows ∧ LN K B v2 W ∧ Dw rows m ∧ Ring rows m ∧ Wl rows m W ∧ Ret B H (fun w _ => (w = .non ∧ ¬ ∃ f, Fills rows m W f) ∨ ((∃ p, w = .ref p) ∧ ∃ f, Fills rows m W f)) Q
theorem call_filling {v1 v2 : V} {rows : List (List Nat)} {m : Nat} {W : List Nat} (h1 : Val ta σ H v1) (h2 : Val tb σ H v2) (l : Le B H) (hv : LL K B v1 rows) (hw : LN K B v2 W) (D : Dw rows m) (R : Ring rows m) (hW : Wl rows m W) : VH (tCall (sp_filling K) [] E0 (tCons ta (tCons tb tNil))) σ H fun w H' => ∃ B', Ext B H B' H' ∧ ((w = .non ∧ ¬ ∃ f, Fills rows m W f) ∨ ((∃ p, w = .ref p) ∧ ∃ f, Fills rows m W f)) :=
  c_call (g_cons h1 (g_cons h2 g_nil)) fun Q q => ⟨B, v1, v2, rows, m, W, rfl, l, hv, hw, D, R, hW, fun w B' H' e h1 => q w H' ⟨B', e, h1⟩⟩
theorem Ring.lpos {rows : List (List Nat)} {m : Nat} (R : Ring rows m) : 0 < (landsOf rows m).length := by
  have := R.dr.lands.s_lt (e := 0) (by have := R.pos; omega)
  omega
theorem r_filling (vs : List V) (H : Hp) (Q : VK) (E : XK) (h : sp_filling K vs H Q E) : t_filling K (sp_spread K) (sp_ncnt K) (sp_lnum K) (sp_lands K) { nx := fun _ H' => Q .non H', rt := Q } (L2.start N_filling vs) H := by
  obtain ⟨B, v1, v2, rows, m, W, rfl, hl, hv, hw, D, R, hW, k⟩ := h
  have F := D.lfew
  have hnL := F.sn
  have hlp := R.lpos
  refine q_set (call_lands (v_var rfl) hl hv D) ?_
  rintro b H1 ⟨B1, e1, hb⟩
  refine q_set (call_lnum (v_var rfl) e1.le hb F) ?_
  rintro i2 H2 ⟨B2, e2', hi⟩
  have e2 := e1.trans e2'
  refine q_set (call_ncnt (v_var rfl) (v_var rfl) e2.le (hv.le e2.bb.le) (hw.le e2.bb.le) D hW) ?_
  rintro n3 H3 ⟨B3, e3', hn⟩
  have e3 := e2.trans e3'
  have hb3 := hb.le (e2'.bb.trans e3'.bb).le
  have hi3 := hi.le e3'.bb.le
  refine q_set n_dict ?_
  rintro w4 H4 ⟨p, hp, rfl, rfl⟩
  have e4 := e3.own hp (o := .dK [])
  have o4 : Own H B3 _ p (.dK []) := Own.of_new e3.hh e3.le hp
  refine q_seq (f_rng (n := (landsOf rows m).length) (v_lenL (v_var rfl) (hb3.le e4.le)) (by omega)
    (fun i σ H' => ∃ (x6 x7 x8 x9 x10 : Option V) (ks : List Nat) (f : Nat → Int), σ = [some v1, some v2, some b, some i2, some n3, some (.ref p), x6, x7, x8, x9, x10] ∧ Ext B H B3 H' ∧ Own H B3 H' p (.dK (dkv ks fun x => .int (f x))) ∧
      ((i = 0 ∧ ks = []) ∨ (0 < i ∧ (∃ f, Fills rows m W f) ∧ AllN (landsOf rows m).length ks)))
    ⟨none, none, none, none, none, [], fun _ => 0, rfl, e4, o4, .inl ⟨rfl, rfl⟩⟩ ?_ ?_)
  · rintro i σ5 H5 hi5 ⟨x6, x7, x8, x9, x10, ks, f, rfl, e5, o5, hc⟩
    refine q_if (a_b (v_in (n := i) (v_var rfl) (v_var rfl) (DK.of o5.h))) (fun hb2 => ?_) (fun hb2 => ?_)
    · have hold := of_decide_eq_true hb2
      rcases hc with ⟨rfl, rfl⟩ | ⟨h0, hf, ha⟩
      · exact absurd hold (by simp)
      · exact ⟨_, _, _, _, _, ks, f, rfl, e5, o5, .inr ⟨by omega, hf, ha⟩⟩
    · have hnew := of_decide_eq_false hb2
      rcases hc with ⟨rfl, rfl⟩ | ⟨h0, hf, ha⟩
      · refine q_set (call_spread (B := B3) (v_var rfl) (v_var rfl) (v_var rfl) (v_var rfl) e5.le hb3 hi3 hn D R hlp) ?_
        rintro w6 H6 ⟨e6', hcase⟩
        have e6 := e5.trans e6'
        have o6 := o5.ext e6'
        rcases hcase with ⟨rfl, hno⟩ | ⟨q, ks, f, rfl, oq', ha, hf⟩
        · refine q_ifT (a_b (vas (v_isN (v_var rfl)) (by simp))) ?_
          exact s_retV v_c (k _ _ _ e6 (.inl ⟨rfl, hno⟩))
        · refine q_ifF (a_b (vas (v_isN (v_var rfl)) (by simp))) ?_
          have hq : H6 q = some (.dK (dkv ks fun x => .int (f x))) := oq'.h
          have npq : p ≠ q := fun z => by
            have := oq'.h0
            rw [← z, o5.h] at this
            cases this
          have hkl : ks.length ≤ (landsOf rows m).length := nodup_le ha.1 fun x hx => (ha.2 x).mp hx
          -- least = min(found.values())
          have hmin : VH (tMinVals (tVar 7)) [some v1, some v2, some b, some i2, some n3, some (.ref p), some (nv 0), some (.ref q), x8, x9, x10] H6 fun w H' => H' = H6 ∧ ∃ z, w = .int z := fun Q q' => by
            refine v_var rfl _ ⟨q, _, ks.map f, rfl, hq, ?_, ?_, fun z _ _ => q' _ _ ⟨rfl, z, rfl⟩⟩
            · unfold dkv
              rw [List.map_map, List.map_map]; rfl
            · intro hz
              have := (ha.2 0).mpr hlp
              rw [List.map_eq_nil_iff] at hz
              rw [hz] at this
              cases this
          refine q_set hmin ?_
          rintro w7 H7 ⟨rfl, z, rfl⟩
          refine f_items (p := q) (kvs := dkv ks fun x => .int (f x)) hq (fun H' => v_var rfl)
            (fun i σ H' => ∃ (x9 x10 : Option V) (ks2 : List Nat), σ = [some v1, some v2, some b, some i2, some n3, some (.ref p), some (nv 0), some (.ref q), some (.int z), x9, x10] ∧ Ext B H B3 H' ∧ H' q = some (.dK (dkv ks fun x => .int (f x))) ∧ Own H B3 H' p (.dK (dkv ks2 fun x => .int (f x - z))) ∧ ks2 = ks.take i)
            ⟨x9, x10, [], rfl, e6, hq, o6, rfl⟩ (fun i σ' H' ⟨_, _, _, _, _, h, _⟩ => h) ?_ ?_
          · rintro j k' x σ8 H8 od T hx ⟨x9, x10, ks2, rfl, e8, hq8, o8, rfl⟩ hTq hT
            obtain ⟨n, hn', rfl, rfl⟩ : ∃ n, ks[j]? = some n ∧ k' = ki n ∧ x = .int (f n) := by
              unfold dkv at hx
              rw [List.getElem?_map] at hx
              obtain ⟨n, h1, h2⟩ := Option.map_eq_some_iff.mp hx
              injection h2 with h2 h3
              exact ⟨n, h1, h2.symm, h3.symm⟩
            have hpT : p ≠ T := ne_of_none o8.h hT
            have h8 : (upd (upd H8 q (.frz od (.dK (dkv ks fun x => .int (f x))))) T (.tup [kV (ki n), .int (f n)])) p = some (.dK (dkv (ks.take j) fun x => .int (f x - z))) := by
              rw [upd_ne hpT, upd_ne npq]; exact o8.h
            have hnk : n ∉ ks.take j := by
              intro h
              have hn2 := ha.1
              obtain ⟨hj, hje⟩ := List.getElem?_eq_some_iff.mp hn'
              have e1 : ks = ks.take j ++ n :: ks.drop (j + 1) := by rw [← hje, ← List.drop_eq_getElem_cons hj, List.take_append_drop]
              rw [e1, List.nodup_append] at hn2
              exact hn2.2.2 n h n (by simp) rfl
            refine s_dput (k := ki n) (v := .int (f n - z)) (v_sub (v_var rfl) (v_var rfl)) (v_var rfl) (v_var rfl) h8 (by rw [dkv_len, List.length_take]; omega) ?_
            rw [dkv_new (f := fun x => V.int (f x - z)) hnk]
            refine ⟨by rw [upd_ne npq.symm, upd_ne hTq.symm, upd_same], ?_⟩
            dsimp only
            rw [lock_put2 hTq npq hq8]
            have e9 := e8.own hT (o := .tup [kV (ki n), .int (f n)])
            have o9 := o8.other hpT (u := .tup [kV (ki n), .int (f n)])
            exact ⟨_, _, ks.take j ++ [n], rfl, e9.put o9 _, by rw [upd_ne npq.symm, upd_ne hTq.symm]; exact hq8, o9.put _, (take_snoc hn').symm⟩
          · rintro σ8 H8 ⟨x9, x10, ks2, rfl, e8, hq8, o8, rfl⟩
            rw [dkv_len, List.take_length] at o8
            exact ⟨_, _, _, _, _, ks, fun x => f x - z, rfl, e8, o8, .inr ⟨by omega, ⟨f, hf⟩, ha⟩⟩
      · exact absurd ((ha.2 i).mpr hi5) hnew
  · rintro σ5 H5 ⟨x6, x7, x8, x9, x10, ks, f, rfl, e5, o5, hc⟩
    rcases hc with ⟨h0, _⟩ | ⟨h0, hf, ha⟩
    · omega
    · refine s_ret (n_lcR (n := (landsOf rows m).length) (fun _ => true) (fun x => match x with | .int z => .int (f z.toNat) | _ => .non) (v_lenL (v_var rfl) (hb3.le e5.le)) (by omega) (fun _ => rfl) (fun i H' hi e => a_yes) (fun i H' hi e _ => ?_)) ?_
      · refine vas (v_get (n := i) (f := fun x => V.int (f x)) (v_var rfl) (DK.of (e p _ o5.h)) (v_var rfl) ((ha.2 i).mpr hi)) ?_
        show V.int (f i) = V.int (f (i : Int).toNat)
        rw [Int.toNat_natCast]
      · rintro w6 H6 ⟨Dd, hD, rfl, rfl⟩
        exact k _ _ _ (e5.own hD) (.inr ⟨⟨Dd, rfl⟩, hf⟩)
end
end Rf
end
section
set_option linter.all false
set_option autoImplicit false
set_option maxRecDepth 100000
set_option maxHeartbeats 1000000
/-! P18: crosser, fill_of. -/
namespace Rf
open PySem L2
section
variable {K : PySem.W.Frag} {σ : St} {B H : Hp} {ta tb tc te tl tn : TE} {g : TG} {D : Ends}
theorem tv_ex {m : Nat} {s : Nat → Nat} {ok : Nat → Prop} {root : Nat} {T : List (Nat × Nat)} (t : Tree m s ok root T) {n : Nat} (h : n ∈ root :: T.map (·.1)) : ∃ z, tv root T n = V.int z := by
  rcases List.mem_cons.mp h with rfl | h
  · exact ⟨-1, tv_root _ _⟩
  · obtain ⟨⟨P, e⟩, hp, rfl⟩ := List.mem_map.mp h
    obtain ⟨i, hi⟩ := List.mem_iff_getElem?.mp hp
    exact ⟨(e : Int), tv_at t hi⟩
def sp_crosser (K : PySem.W.Frag) : Sp := fun vs H Q _ => ∃ B v1 v2 rows m W, vs = [v1, v2] ∧ Le B H ∧ LL K B v1 rows ∧ LN K B v2 W ∧ Dw rows m ∧ Ring rows m ∧ Wl rows m W ∧ W ≠ [] ∧ Ret B H (fun _ _ => True) Q
theorem call_crosser {v1 v2 : V} {rows : List (List Nat)} {m : Nat} {W : List Nat} (h1 : Val ta σ H v1) (h2 : Val tb σ H v2) (l : Le B H) (hv : LL K B v1 rows) (hw : LN K B v2 W) (D : Dw rows m) (R : Ring rows m) (hW : Wl rows m W) (hne : W ≠ []) : VH (tCall (sp_crosser K) [] E0 (tCons ta (tCons tb tNil))) σ H fun w H' => ∃ B', Ext B H B' H' :=
  c_call (g_cons h1 (g_cons h2 g_nil)) fun Q q => ⟨B, v1, v2, rows, m, W, rfl, l, hv, hw, D, R, hW, hne, fun w B' H' e _ => q w H' ⟨B', e⟩⟩
theorem r_crosser (vs : List V) (H : Hp) (Q : VK) (E : XK) (h : sp_crosser K vs H Q E) : t_crosser K sp_mate (sp_crossing K) (sp_round K) (sp_tree K) (sp_lcnt K) (sp_seats K) { nx := fun _ H' => Q .non H', rt := Q } (L2.start N_crosser vs) H := by
  obtain ⟨B, v1, v2, rows, m, W, rfl, hl, hv, hw, D, R, hW, hne, k⟩ := h
  have P := D.dr.part
  have hm := D.sm
  have hg : ∀ x, x < 2 * m → ((List.range (2 * m)).map (seat rows))[x]? = some (seat rows x) := fun x hx => by
    rw [List.getElem?_map, List.getElem?_range hx]; rfl
  refine q_set (call_seats (v_var rfl) hl hv D) ?_
  rintro b H1 ⟨B1, e1, hb⟩
  refine q_set (call_lcnt (v_var rfl) (v_var rfl) e1.le (hv.le e1.bb.le) (hw.le e1.bb.le) D hW) ?_
  rintro c H2 ⟨B2, cs, e2', hc, hcl⟩
  have e2 := e1.trans e2'
  obtain ⟨w0, hw0⟩ : ∃ w0, W[0]? = some w0 := ⟨_, List.getElem?_eq_getElem (List.length_pos_iff.mpr hne)⟩
  have hw0l := hW.lt w0 (List.mem_of_getElem? hw0)
  refine q_set (call_tree (B := B2) (root := seat rows w0) (v_var rfl) (v_ixN (v_var rfl) (hb.le (e2'.bb.le.trans e2.le)) (v_ixN (v_var rfl) (hw.le (e2.bb.le.trans e2.le)) v_c hw0) (hg _ hw0l)) e2.le (hv.le e2.bb.le) D (P.s_lt hw0l)) ?_
  rintro w3 H3 ⟨p, B3, T, rfl, e3', t, hB3, hH3, _, _⟩
  have e3 := e2.trans e3'
  have hb3 := hb.le (e2'.bb.trans e3'.bb).le
  have hc3 := hc.le e3'.bb.le
  have hv3 := hv.le e3.bb.le
  have hp3 : DK B3 (.ref p) (seat rows w0 :: T.map (·.1)) (tv (seat rows w0) T) := .of hB3
  refine q_seq (f_keys (p := p) (kvs := td (seat rows w0) T) hH3 (fun H' => v_var rfl)
    (fun i σ H' => ∃ (x5 x6 x7 : Option V) (B' : Hp), σ = [some v1, some v2, some b, some c, some (.ref p), x5, x6, x7] ∧ Ext B H B' H' ∧ Ex B3 B' ∧ H' p = some (.dK (td (seat rows w0) T)))
    ⟨none, none, none, B3, rfl, e3, .refl _, hH3⟩ (fun i σ' H' ⟨_, _, _, _, _, _, _, h⟩ => h) ?_ ?_)
  · rintro i k' x σ4 H4 od hx ⟨x5, x6, x7, B4, rfl, e4, eb4, hp4⟩
    obtain ⟨n, hn', rfl⟩ : ∃ n, (seat rows w0 :: T.map (·.1))[i]? = some n ∧ k' = ki n := by
      unfold td dkv at hx
      rw [List.getElem?_map] at hx
      obtain ⟨n, h1, h2⟩ := Option.map_eq_some_iff.mp hx
      injection h2 with h2 _
      exact ⟨n, h1, h2.symm⟩
    have hnm := List.mem_of_getElem? hn'
    obtain ⟨z, hz⟩ := tv_ex t.tree hnm
    have lk : Le B4 (upd H4 p (.frz od (.dK (td (seat rows w0) T)))) := le_lock e4.le hp4 (fun _ _ => by simp)
    obtain ⟨r, hrow⟩ : ∃ r, rows[n]? = some r := ⟨_, List.getElem?_eq_getElem ((tree_len t.tree P t.hroot).2 n hnm)⟩
    have hrm := List.mem_of_getElem? hrow
    have back : ∀ B5 H5, Ext B4 (upd H4 p (.frz od (.dK (td (seat rows w0) T)))) B5 H5 → H5 p = some (.frz od (.dK (td (seat rows w0) T))) ∧ Ext B H B5 (upd H5 p (.dK (td (seat rows w0) T))) := fun B5 H5 e => by
      have h5 := e.hh p _ upd_same
      exact ⟨h5, e4.trans (ext_unlock e4.le hp4 (fun _ _ => by simp) e h5)⟩
    obtain ⟨w, hw', hwl⟩ := v_row (K := K) (σ := [some v1, some v2, some b, some c, some (.ref p), some (nv n), x6, x7]) (ta := tVar 0) (tb := tVar 5) (v_var rfl) lk (hv3.le eb4.le) (v_var rfl) hrow
    refine f_LN (B := B4) hw' hwl
      (fun j σ H' => ∃ (x6 x7 : Option V) (B' : Hp), σ = [some v1, some v2, some b, some c, some (.ref p), some (nv n), x6, x7] ∧ Ext B4 (upd H4 p (.frz od (.dK (td (seat rows w0) T)))) B' H')
      ⟨x6, x7, B4, rfl, .refl lk⟩ (fun j σ' H' ⟨_, _, _, _, e⟩ => e.bb.le.trans e.le) ?_ ?_
    · rintro j e σ5 H5 hej ⟨x6, x7, B5, rfl, e5⟩
      have hem := List.mem_of_getElem? hej
      have hel := P.lt hrm hem
      have hse : seat rows e = n := P.num _ _ _ hrow hem
      have lb : Le B3 H5 := eb4.le.trans (e5.bb.le.trans e5.le)
      have hk2 : seat rows (mate e) ∈ seat rows w0 :: T.map (·.1) := t.closed e hel (by rw [hse]; exact hnm)
      obtain ⟨z2, hz2⟩ := tv_ex t.tree hk2
      have a1 : Ans (tTest (tOp rNe (tDGet (tVar 4) (tVar 5)) (tVar 6))) [some v1, some v2, some b, some c, some (.ref p), some (nv n), some (nv e), x7] H5 (!decide (z = (e : Int))) :=
        a_t (v_neI (vas (v_get (n := n) (v_var rfl) (hp3.le lb) (v_var rfl) hnm) hz) (v_var rfl))
      have a2 : Ans (tTest (tOp rNe (tDGet (tVar 4) (tOp (rIxL K) (tVar 2) (tCall sp_mate [] E0 (tCons (tVar 6) tNil)))) (tCall sp_mate [] E0 (tCons (tVar 6) tNil)))) [some v1, some v2, some b, some c, some (.ref p), some (nv n), some (nv e), x7] H5 (!decide (z2 = (mate e : Int))) :=
        a_t (v_neI (vas (v_get (n := seat rows (mate e)) (v_var rfl) (hp3.le lb) (v_ixN (v_var rfl) (hb3.le lb) (call_mate (v_var rfl)) (hg _ (mate_lt hel))) hk2) hz2) (call_mate (v_var rfl)))
      refine s_if (a_and a1 fun _ => a2) (fun _ => ?_) (fun _ => ⟨_, _, B5, rfl, e5⟩)
      -- turn = round_along(seats, nearer, end)
      refine q_set (call_round (B := B5) (v_var rfl) (v_var rfl) (v_var rfl) e5.le (hb3.le (eb4.trans e5.bb).le) (hp3.le lb) D t hel (by rw [hse]; exact hnm)) ?_
      rintro w6 H6 ⟨B6, ns, e6', hns, hen⟩
      have e6 := e5.trans e6'
      -- if crossing_by(counts, turn) != 0
      unfold tIfS tTest tOp
      refine call_crossing (B := B6) (σ := [some v1, some v2, some b, some c, some (.ref p), some (nv n), some (nv e), some w6]) (v_var rfl) (v_var rfl) e6.le (hc3.le (eb4.trans e6.bb).le) hcl hns hen _ ?_
      rintro w7 H7 ⟨z7, B7, rfl, e7'⟩
      have e7 := e6.trans e7'
      refine ⟨rfl, _, rfl, ?_⟩
      by_cases hz7 : V.int z7 = V.int 0
      · rw [decide_eq_true hz7]
        exact iteF ⟨_, _, B7, rfl, e7⟩
      · rw [decide_eq_false hz7]
        refine iteT (s_retV (v_var rfl) ?_)
        obtain ⟨h5, e8⟩ := back B7 H7 e7
        exact ⟨h5, k _ _ _ e8 trivial⟩
    · rintro σ5 H5 ⟨x6, x7, B5, rfl, e5⟩
      obtain ⟨h5, e8⟩ := back B5 H5 e5
      exact ⟨h5, _, _, _, B5, rfl, e8, eb4.trans e5.bb, upd_same⟩
  · rintro σ4 H4 ⟨x5, x6, x7, B4, rfl, e4, eb4, hp4⟩
    refine s_ret (σ := [some v1, some v2, some b, some c, some (.ref p), x5, x6, x7]) (n_lst g_nil (by simp)) ?_
    rintro w5 H5 ⟨q, hq, rfl, rfl⟩
    exact k _ _ _ (e4.own hq) trivial

/-! ### fill_of -/
def sp_fill (K : PySem.W.Frag) : Sp := fun vs H Q _ => ∃ B v1 v2 rows m W, vs = [v1, v2] ∧ Le B H ∧ LL K B v1 rows ∧ LN K B v2 W ∧ Dw rows m ∧ Ring rows m ∧ Wl rows m W ∧ W ≠ [] ∧
  Ret B H (fun w B' => ∃ p x, w = .ref p ∧ ((SqT K B' p [.str "filled", x] ∧ ∃ f, Fills rows m W f) ∨ (SqT K B' p [.str "crossed", x] ∧ ¬ ∃ f, Fills rows m W f))) Q
theorem call_fill {v1 v2 : V} {rows : List (List Nat)} {m : Nat} {W : List Nat} (h1 : Val ta σ H v1) {P2 : V → Hp → Prop} (hP : ∀ w H', P2 w H' → ∃ B', Ext B H B' H' ∧ LN K B' w W ∧ Val ta σ H' v1) (h2 : VH tb σ H P2) (l : Le B H) (hv : LL K B v1 rows) (D : Dw rows m) (R : Ring rows m) (hW : Wl rows m W) (hne : W ≠ []) :
    VH (tCall (sp_fill K) [] E0 (tCons ta (tCons tb tNil))) σ H fun w H' => ∃ B' p x, Ext B H B' H' ∧ w = .ref p ∧ ((SqT K B' p [.str "filled", x] ∧ ∃ f, Fills rows m W f) ∨ (SqT K B' p [.str "crossed", x] ∧ ¬ ∃ f, Fills rows m W f)) := fun Q q =>
  h1 _ (h2 _ fun w H' p => by
    obtain ⟨B1, e1, hw, _⟩ := hP w H' p
    exact ⟨B1, v1, w, rows, m, W, rfl, e1.le, hv.le e1.bb.le, hw, D, R, hW, hne, fun w B' H' e ⟨r, x, h1, h2⟩ => q w H' ⟨B', r, x, e1.trans e, h1, h2⟩⟩)
theorem r_fill_of (vs : List V) (H : Hp) (Q : VK) (E : XK) (h : sp_fill K vs H Q E) : t_fill_of K (sp_crosser K) (sp_filling K) (sp_askwalk K) { nx := fun _ H' => Q .non H', rt := Q } (L2.start N_fill_of vs) H := by
  obtain ⟨B, v1, v2, rows, m, W, rfl, hl, hv, hw, D, R, hW, hne, k⟩ := h
  refine q_drop (call_askwalk (v_var rfl) (v_var rfl) hl hv hw D hW) ?_
  rintro w1 H1 ⟨B1, e1, _⟩
  refine q_set (call_filling (B := B1) (v_var rfl) (v_var rfl) e1.le (hv.le e1.bb.le) (hw.le e1.bb.le) D R hW) ?_
  rintro w2 H2 ⟨B2, e2', hcase⟩
  have e2 := e1.trans e2'
  rcases hcase with ⟨rfl, hno⟩ | ⟨⟨q, rfl⟩, hf⟩
  · refine q_ifT (a_b (vas (v_isN (v_var rfl)) (by simp))) ?_
    unfold tRet tTup
    refine v_c _ (call_crosser (B := B2) (σ := [some v1, some v2, some .non]) (v_var rfl) (v_var rfl) e2.le (hv.le e2.bb.le) (hw.le e2.bb.le) D R hW hne _ ?_)
    rintro w3 H3 ⟨B3, e3'⟩
    have e3 := e2.trans e3'
    refine ⟨Nat.le_trans (by simp : _ ≤ 100000) (by decide), fun t ht => ?_⟩
    exact k _ _ _ (e3.trans (Ext.new e3.le ht)) ⟨t, w3, rfl, .inr ⟨.of upd_same, hno⟩⟩
  · refine q_ifF (a_b (vas (v_isN (v_var rfl)) (by simp))) ?_
    refine s_ret (n_tup (g_cons v_c (g_cons (v_var rfl) g_nil)) (by simp)) ?_
    rintro w3 H3 ⟨t, ht, rfl, rfl⟩
    exact k _ _ _ (e2.trans (Ext.new e2.le ht)) ⟨t, .ref q, rfl, .inl ⟨.of upd_same, hf⟩⟩
end
end Rf
end
section
set_option linter.all false
set_option autoImplicit false
set_option maxRecDepth 100000
set_option maxHeartbeats 1000000
/-! P19: _law_parted. -/
namespace Rf
open PySem L2
section
variable {K : PySem.W.Frag} {σ : St} {B H : Hp} {ta tb tc te tl tn : TE} {g : TG} {D : Ends}
/-- a comprehension over a list of natural numbers -/
theorem n_lcN {a : V} {ns : List Nat} {j : Nat} {vs : List Nat} {tt : TT} (f : Nat → Bool) (g : Nat → V) (l : Le B H) (hl : Val tl σ H a) (hx : LN K B a ns) (hz : ns.length < 100000) (hw : ∀ x, wipe ((wipe σ vs).set j (some x)) vs = wipe σ vs)
    (ht : ∀ n H', n ∈ ns → Ex H H' → Ans tt ((wipe σ vs).set j (some (nv n))) H' (f n)) (he : ∀ n H', n ∈ ns → Ex H H' → f n = true → Val te ((wipe σ vs).set j (some (nv n))) H' (g n)) :
    VH (tLc (iList K tl) (gName j) tt te vs) σ H fun w H' => ∃ D, H D = none ∧ w = .ref D ∧ H' = upd H D (.lst ((ns.filter f).map g)) := by
  obtain ⟨p, rfl, hp⟩ := hx
  have key : ∀ i x, (ns.map nv)[i]? = some x → ∃ n, n ∈ ns ∧ ns.getD i 0 = n ∧ x = nv n := fun i x h => by
    rw [List.getElem?_map] at h
    obtain ⟨n, h1, rfl⟩ := Option.map_eq_some_iff.mp h
    exact ⟨n, List.mem_of_getElem? h1, by rw [List.getD_eq_getElem?_getD, h1]; rfl, rfl⟩
  refine (n_lcI (fun i => f (ns.getD i 0)) (fun i => g (ns.getD i 0)) hl (sqL_le hp l) (by rw [List.length_map]; exact hz) hw (fun i x H' hi e => ?_) (fun i x H' hi e hf => ?_)).mono ?_
  · obtain ⟨n, hn, hd, rfl⟩ := key i x hi
    rw [hd]; exact ht n H' hn e
  · obtain ⟨n, hn, hd, rfl⟩ := key i x hi
    rw [hd] at hf ⊢; exact he n H' hn e hf
  · rintro w H' ⟨Dd, h1, h2, h3⟩
    refine ⟨Dd, h1, h2, ?_⟩
    rw [h3, List.length_map, ix_items ns 0 f g]
/-- xs[e], e a value reached by a change of the heap -/
theorem n_ixL {P P' : V → Hp → Prop} {p : Addr} (ha : Val ta σ H (.ref p)) (hb : VH tb σ H P) (k : ∀ w H1, P w H1 → ∃ (xs : List V) (j : Nat) (v : V), w = nv j ∧ SqL K H1 p xs ∧ xs[j]? = some v ∧ P' v H1) : VH (tOp (rIxL K) ta tb) σ H P' := fun Q q => ha _ (hb _ fun w H1 hw => by
  obtain ⟨xs, j, v, rfl, hs, hj, hp⟩ := k w H1 hw
  exact ⟨p, xs, j, v, rfl, rfl, hs, atI_nat hj, q _ _ hp⟩)
def sp_parted (K : PySem.W.Frag) : Sp := fun vs H Q _ => ∃ B v1 v2 rows m W w0, vs = [v1, v2] ∧ Le B H ∧ LL K B v1 rows ∧ LN K B v2 W ∧ Dw rows m ∧ (∀ e ∈ W, e < 2 * m) ∧ W.length ≤ 1000 ∧ W[0]? = some w0 ∧
  Ret B H (fun w _ => w = .bl (bb (¬ Rch m (seat (landsOf rows m)) W (seat (landsOf rows m) w0) (seat (landsOf rows m) (mate w0))))) Q
theorem call_parted {v1 v2 : V} {rows : List (List Nat)} {m w0 : Nat} {W : List Nat} (h1 : Val ta σ H v1) (h2 : Val tb σ H v2) (l : Le B H) (hv : LL K B v1 rows) (hw : LN K B v2 W) (D : Dw rows m) (hW : ∀ e ∈ W, e < 2 * m) (hz : W.length ≤ 1000) (h0 : W[0]? = some w0) :
    VH (tCall (sp_parted K) [] E0 (tCons ta (tCons tb tNil))) σ H fun w H' => ∃ B', Ext B H B' H' ∧ w = .bl (bb (¬ Rch m (seat (landsOf rows m)) W (seat (landsOf rows m) w0) (seat (landsOf rows m) (mate w0)))) :=
  c_call (g_cons h1 (g_cons h2 g_nil)) fun Q q => ⟨B, v1, v2, rows, m, W, w0, rfl, l, hv, hw, D, hW, hz, h0, fun w B' H' e h1 => q w H' ⟨B', e, h1⟩⟩
theorem r__law_parted (vs : List V) (H : Hp) (Q : VK) (E : XK) (h : sp_parted K vs H Q E) : t__law_parted K sp_mate (sp_lands K) { nx := fun _ H' => Q .non H', rt := Q } (L2.start N__law_parted vs) H := by
  obtain ⟨B, v1, v2, rows, m, W, w0, rfl, hl, hv, hw, D, hW, hz, h0, k⟩ := h
  have P := D.dr.lands
  have F := D.lfew
  have hnL := F.sn
  have hw0l := hW w0 (List.mem_of_getElem? h0)
  -- lands = _law_lands(drawing); home = {}
  refine q_set (call_lands (v_var rfl) hl hv D) ?_
  rintro b H1 ⟨B1, e1, hb⟩
  refine q_set n_dict ?_
  rintro w2 H2 ⟨p, hp, rfl, rfl⟩
  have e2 := e1.own hp (o := .dK [])
  have o2 : Own H B1 _ p (.dK []) := Own.of_new e1.hh e1.le hp
  refine q_seq (f_home (B := B1) (by decide) (by decide) (by decide) (by decide) (by decide) (by show 4 < 10; decide) (by show 5 < 10; decide) rfl rfl e2.le hb upd_same o2.b F.nd F.sn F.sf fun y z => ?_)
  dsimp only
  have e3 := (e2.put o2 (.dK (dkv (landsOf rows m).flatten fun e => nv (seat (landsOf rows m) e)))).freeze (o2.put _)
  have hh3 : DK (upd B1 p (.dK (dkv (landsOf rows m).flatten fun e => nv (seat (landsOf rows m) e)))) (.ref p) (landsOf rows m).flatten (fun e => nv (seat (landsOf rows m) e)) := .of upd_same
  have hb3 := hb.le (Ex.new o2.b (o := .dK (dkv (landsOf rows m).flatten fun e => nv (seat (landsOf rows m) e)))).le
  have hw3 := hw.le e3.bb.le
  clear e2 o2
  generalize upd B1 p (.dK (dkv (landsOf rows m).flatten fun e => nv (seat (landsOf rows m) e))) = B3 at e3 hh3 hb3 hw3
  generalize upd (upd H1 p (.dK [])) p (.dK (dkv (landsOf rows m).flatten fun e => nv (seat (landsOf rows m) e))) = H3 at e3 ⊢
  -- gone = [end // 2 for end in turn]
  refine q_set (n_lcN (B := B3) (fun _ => true) (fun n => nv (n / 2)) e3.le (v_var rfl) hw3 (by omega) (fun _ => rfl) (fun _ _ _ _ => a_yes) (fun n H' hn e _ => vnat (v_div (v_var rfl) v_c ⟨by decide, by decide⟩) (by omega))) ?_
  rintro w4 H4 ⟨r, hr, rfl, rfl⟩
  rw [show W.filter (fun _ => true) = W from List.filter_eq_self.mpr fun _ _ => rfl, show W.map (fun n => nv (n / 2)) = (W.map (· / 2)).map nv by rw [List.map_map]; rfl]
  have e4 := e3.trans (Ext.new e3.le hr (o := .lst ((W.map (· / 2)).map nv)))
  have hg4 : LN K (upd B3 r (.lst ((W.map (· / 2)).map nv))) (.ref r) (W.map (· / 2)) := .of upd_same
  have hx4 : Ex B3 (upd B3 r (.lst ((W.map (· / 2)).map nv))) := Ex.new (e3.le.free hr)
  have hh4 := hh3.le hx4.le
  have hb4 := hb3.le hx4.le
  have hw4 := hw3.le hx4.le
  generalize upd B3 r (.lst ((W.map (· / 2)).map nv)) = B4 at e4 hg4 hh4 hb4 hw4 hx4
  generalize upd H3 r (.lst ((W.map (· / 2)).map nv)) = H4 at e4 ⊢
  -- seen, waiting
  have first : ∀ (σ : St) (H' : Hp), Ex H4 H' → σ[1]? = some (some v2) → σ[3]? = some (some (.ref p)) → Val (tDGet (tVar 3) (tOp (rIxL K) (tVar 1) (tC (.int 0)))) σ H' (nv (seat (landsOf rows m) w0)) := fun σ H' e h1 h3 =>
    v_get (n := w0) (f := fun e => nv (seat (landsOf rows m) e)) (v_var h3) (hh4.le (e4.le.trans e.le)) (v_ixN (v_var h1) (hw4.le (e4.le.trans e.le)) v_c h0) ((P.mem _).mpr hw0l)
  refine q_set (n_disp1 (k := ki (seat (landsOf rows m) w0)) (v := .bl true) (fun H' e => first _ H' e rfl rfl) (fun H' _ => v_c)) ?_
  rintro w5 H5 ⟨s, hs, rfl, rfl⟩
  have e5 := e4.own hs (o := .dK (dkv [seat (landsOf rows m) w0] fun _ => .bl true))
  have o5 : Own H B4 _ s (.dK (dkv [seat (landsOf rows m) w0] fun _ => .bl true)) := Own.of_new e4.hh e4.le hs
  refine q_set (n_lst (g_cons (first _ _ (.new hs) rfl rfl) g_nil) (by simp)) ?_
  rintro w6 H6 ⟨q, hq, rfl, rfl⟩
  have hq : (upd H4 s (.dK (dkv [seat (landsOf rows m) w0] fun _ => .bl true))) q = none := hq
  have e6 := e5.own hq (o := .lst ([seat (landsOf rows m) w0].map nv))
  have oq6 : Own H B4 _ q (.lst ([seat (landsOf rows m) w0].map nv)) := Own.of_new e5.hh e5.le hq
  have npq : s ≠ q := ne_of_none o5.h hq
  have o6 := o5.other npq (u := .lst ([seat (landsOf rows m) w0].map nv))
  have hfl : seat (landsOf rows m) w0 < (landsOf rows m).length := P.s_lt hw0l
  -- while len(waiting) > 0
  refine q_seq (f_while (m0 := 2 * (landsOf rows m).length)
    (fun n σ H' => ∃ (x4 x5 x9 : Option V) (ks ws : List Nat), σ = [some v1, some v2, some b, some (.ref p), x4, x5, some (.ref r), some (.ref s), some (.ref q), x9] ∧ Ext B H B4 H' ∧ Own H B4 H' s (.dK (dkv ks fun _ => .bl true)) ∧ Own H B4 H' q (.lst (ws.map nv)) ∧
      ks.Nodup ∧ (∀ x ∈ ks, x < (landsOf rows m).length) ∧ (∀ x ∈ ws, x ∈ ks) ∧ seat (landsOf rows m) w0 ∈ ks ∧ ws.length ≤ ks.length ∧ 2 * ((landsOf rows m).length - ks.length) + ws.length ≤ n ∧
      (∀ x ∈ ks, Rch m (seat (landsOf rows m)) W (seat (landsOf rows m) w0) x) ∧
      ∀ e, e < 2 * m → seat (landsOf rows m) e ∈ ks → seat (landsOf rows m) e ∉ ws → e / 2 ∉ W.map (· / 2) → seat (landsOf rows m) (mate e) ∈ ks)
    ⟨y, z, none, [seat (landsOf rows m) w0], [seat (landsOf rows m) w0], rfl, e6, o6, oq6, by simp, by simpa using hfl, by simp, by simp, by simp, by simp; omega, fun x hx => by rw [List.mem_singleton.mp hx]; exact .refl _, fun e _ h1 h2 => absurd h1 h2⟩ ?_)
  rintro n σ7 H7 ⟨x4, x5, x9, ks, ws, rfl, e7, o7, oq7, hnd, hlt, hwk, hsk, hwl, hms, hrch, hdone⟩
  have hkl : ks.length ≤ (landsOf rows m).length := nodup_le hnd hlt
  refine ⟨decide (0 < ws.length), a_t (vas (v_gt (v_lenN (v_var rfl) (LN.of oq7.h)) v_c) (by congr 1; simp only [decide_eq_decide]; omega)), fun hb => ?_, fun hb => ?_⟩
  · obtain ⟨wi, P0, rfl⟩ := unsnoc (of_decide_eq_true hb)
    have hpop : H7 q = some (.lst (wi.map nv ++ [nv P0])) := by rw [oq7.h, List.map_append]; rfl
    have hPk : P0 ∈ ks := hwk _ (by simp)
    obtain ⟨rw', hrow⟩ : ∃ r, (landsOf rows m)[P0]? = some r := ⟨_, List.getElem?_eq_getElem (hlt _ hPk)⟩
    have hrm := List.mem_of_getElem? hrow
    rw [List.length_append] at hwl hms
    simp only [List.length_singleton] at hwl hms
    obtain ⟨ap, us, rfl, hap, hus⟩ := id hb4
    obtain ⟨w, hw', hwl'⟩ := hus.get hrow
    refine f_listH (P := fun v H' => v = w ∧ H' = upd H7 q (.lst (wi.map nv))) (n_ixL (p := ap) (v_var rfl) (n_pop (v_var rfl) hpop) ?_) ?_
    · rintro w1 H8 ⟨rfl, rfl⟩
      exact ⟨us, P0, w, rfl, sqL_le hap (e7.put oq7 _).le, hw', rfl, rfl⟩
    rintro _ _ ⟨rfl, rfl⟩
    have e8 := e7.put oq7 (.lst (wi.map nv))
    have oq8 := oq7.put (.lst (wi.map nv))
    have o8 := o7.other npq (u := .lst (wi.map nv))
    refine f_LN (B := B4) v_c hwl'
      (fun j σ H' => ∃ (x4 x5 x9 : Option V) (ks ws : List Nat), σ = [some v1, some v2, some (.ref ap), some (.ref p), x4, x5, some (.ref r), some (.ref s), some (.ref q), x9] ∧ Ext B H B4 H' ∧ Own H B4 H' s (.dK (dkv ks fun _ => .bl true)) ∧ Own H B4 H' q (.lst (ws.map nv)) ∧
        ks.Nodup ∧ (∀ x ∈ ks, x < (landsOf rows m).length) ∧ (∀ x ∈ ws, x ∈ ks) ∧ seat (landsOf rows m) w0 ∈ ks ∧ P0 ∈ ks ∧ ws.length + 1 ≤ ks.length ∧ 2 * ((landsOf rows m).length - ks.length) + ws.length + 1 ≤ n ∧
        (∀ x ∈ ks, Rch m (seat (landsOf rows m)) W (seat (landsOf rows m) w0) x) ∧
        (∀ e, e < 2 * m → seat (landsOf rows m) e ∈ ks → seat (landsOf rows m) e ∉ ws → seat (landsOf rows m) e ≠ P0 → e / 2 ∉ W.map (· / 2) → seat (landsOf rows m) (mate e) ∈ ks) ∧ ∀ e ∈ rw'.take j, e / 2 ∉ W.map (· / 2) → seat (landsOf rows m) (mate e) ∈ ks)
      ⟨x4, x5, x9, ks, wi, rfl, e8, o8, oq8, hnd, hlt, fun x hx => hwk x (by simp [hx]), hsk, hPk, by omega, by omega, hrch, fun e he h1 h2 h3 => hdone e he h1 (fun z => by rcases List.mem_append.mp z with z | z; exact h2 z; exact h3 (List.mem_singleton.mp z)), by simp⟩ (fun j σ' H' ⟨_, _, _, _, _, _, e, _⟩ => e.le) ?_ ?_
    · rintro j e σ9 H9 hej ⟨x4, x5, x9, ks, ws, rfl, e9, o9, oq9, hnd, hlt, hwk, hsk, hPk, hwl, hms, hrch, hdone, hall⟩
      have hem := List.mem_of_getElem? hej
      have hel := P.lt hrm hem
      have hse : seat (landsOf rows m) e = P0 := P.num _ _ _ hrow hem
      have hkl : ks.length ≤ (landsOf rows m).length := nodup_le hnd hlt
      refine q_setV (v_get (n := mate e) (f := fun e => nv (seat (landsOf rows m) e)) (v_var rfl) (hh4.le e9.le) (call_mate (v_var rfl)) ((P.mem _).mpr (mate_lt hel))) ?_
      refine s_if (a_and (a_t (v_ninN (n := e / 2) (vnat (v_div (v_var rfl) v_c ⟨by decide, by decide⟩) (by omega)) (v_var rfl) (hg4.le e9.le))) (fun _ => a_b (v_nin (n := seat (landsOf rows m) (mate e)) (v_var rfl) (v_var rfl) (DK.of o9.h)))) (fun hb2 => ?_) (fun hb2 => ?_)
      · rw [Bool.and_eq_true] at hb2
        have hoff := nd_t hb2.1
        have hnew := nd_t hb2.2
        refine q_seq (s_putN (n := seat (landsOf rows m) (mate e)) (f := fun _ => .bl true) v_c (v_var rfl) (v_var rfl) o9.h hnew (by omega) ?_)
        have e10 := e9.put o9 (.dK (dkv (ks ++ [seat (landsOf rows m) (mate e)]) fun _ => .bl true))
        have o10 := o9.put (.dK (dkv (ks ++ [seat (landsOf rows m) (mate e)]) fun _ => .bl true))
        have oq10 := oq9.other npq.symm (u := .dK (dkv (ks ++ [seat (landsOf rows m) (mate e)]) fun _ => .bl true))
        refine s_app (v := nv (seat (landsOf rows m) (mate e))) (v_var rfl) (v_var rfl) oq10.h (by rw [List.length_map]; omega) ?_
        have hslt : seat (landsOf rows m) (mate e) < (landsOf rows m).length := P.s_lt (mate_lt hel)
        have hnd2 : (ks ++ [seat (landsOf rows m) (mate e)]).Nodup := by
          rw [List.nodup_append]
          exact ⟨hnd, by simp, fun a ha b hb z => by simp at hb; subst hb z; exact hnew ha⟩
        have hlt2 : ∀ x ∈ ks ++ [seat (landsOf rows m) (mate e)], x < (landsOf rows m).length := fun x hx => by
          rcases List.mem_append.mp hx with z | z
          · exact hlt x z
          · rw [List.mem_singleton.mp z]; exact hslt
        have hkl2 := nodup_le hnd2 hlt2
        simp only [List.length_append, List.length_singleton] at hkl2
        refine ⟨_, _, _, ks ++ [seat (landsOf rows m) (mate e)], ws ++ [seat (landsOf rows m) (mate e)], rfl, e10.put oq10 _, o10.other npq, by rw [List.map_append]; exact oq10.put _, hnd2, hlt2, fun x hx => ?_, by simp [hsk], by simp [hPk], by simp; omega, by simp; omega, fun x hx => ?_, fun y hy h1 h2 h3 h4 => ?_, fun y hy h4 => ?_⟩
        · rcases List.mem_append.mp hx with z | z
          · exact List.mem_append.mpr (.inl (hwk x z))
          · exact List.mem_append.mpr (.inr z)
        · rcases List.mem_append.mp hx with z | z
          · exact hrch x z
          · rw [List.mem_singleton.mp z]
            exact Rch.step (by rw [hse]; exact hrch _ hPk) hel hoff
        · rcases List.mem_append.mp h1 with z | z
          · exact List.mem_append.mpr (.inl (hdone y hy z (fun u => h2 (List.mem_append.mpr (.inl u))) h3 h4))
          · exact absurd (List.mem_append.mpr (.inr z)) h2
        · rw [take_snoc hej] at hy
          rcases List.mem_append.mp hy with z | z
          · exact List.mem_append.mpr (.inl (hall y z h4))
          · rw [List.mem_singleton.mp z]; simp
      · refine ⟨_, _, _, ks, ws, rfl, e9, o9, oq9, hnd, hlt, hwk, hsk, hPk, hwl, hms, hrch, hdone, fun y hy h4 => ?_⟩
        rw [take_snoc hej] at hy
        rcases List.mem_append.mp hy with z | z
        · exact hall y z h4
        · have hy2 := List.mem_singleton.mp z
          subst hy2
          rw [Bool.and_eq_false_iff] at hb2
          rcases hb2 with h | h
          · exact absurd (nd_f h) h4
          · exact nd_f h
    · rintro σ9 H9 ⟨x4, x5, x9, ks, ws, rfl, e9, o9, oq9, hnd, hlt, hwk, hsk, hPk, hwl, hms, hrch, hdone, hall⟩
      rw [List.take_length] at hall
      refine ⟨n - 1, by omega, x4, x5, x9, ks, ws, rfl, e9, o9, oq9, hnd, hlt, hwk, hsk, by omega, by omega, hrch, fun e he h1 h2 h4 => ?_⟩
      by_cases z : seat (landsOf rows m) e = P0
      · obtain ⟨l, hl1, hl2⟩ := P.row he
        rw [z, hrow] at hl1
        cases hl1
        exact hall e hl2 h4
      · exact hdone e he h1 h2 z h4
  · have hws : ws = [] := by
      have := of_decide_eq_false hb
      exact List.eq_nil_of_length_eq_zero (by omega)
    subst hws
    refine s_retV (v_nin (n := seat (landsOf rows m) (mate w0)) (v_get (n := mate w0) (f := fun e => nv (seat (landsOf rows m) e)) (v_var rfl) (hh4.le e7.le) (call_mate (v_ixN (v_var rfl) (hw4.le e7.le) v_c h0)) ((P.mem _).mpr (mate_lt hw0l))) (v_var rfl) (DK.of o7.h)) (k _ _ _ e7 ?_)
    have hiff : seat (landsOf rows m) (mate w0) ∈ ks ↔ Rch m (seat (landsOf rows m)) W (seat (landsOf rows m) w0) (seat (landsOf rows m) (mate w0)) := by
      refine ⟨hrch _, fun h => ?_⟩
      have all : ∀ x, Rch m (seat (landsOf rows m)) W (seat (landsOf rows m) w0) x → x ∈ ks := by
        intro x h
        induction h with
        | refl => exact hsk
        | step _ he ho ih => exact hdone _ he ih (by simp) ho
      exact all _ h
    congr 1
    by_cases hc : Rch m (seat (landsOf rows m)) W (seat (landsOf rows m) w0) (seat (landsOf rows m) (mate w0))
    · rw [bb_f (not_not_intro hc), decide_eq_true (hiff.mpr hc)]; rfl
    · rw [bb_t hc, decide_eq_false (fun z => hc (hiff.mp z))]; rfl
end
end Rf
end
section
set_option linter.all false
set_option autoImplicit false
set_option maxRecDepth 100000
set_option maxHeartbeats 1000000
/-! P20: _law_core. -/
namespace Rf
open PySem L2
section
variable {K : PySem.W.Frag} {σ : St} {B H : Hp} {ta tb tc te tl tn : TE} {g : TG} {D : Ends}
/-- what is left when ties with a loose end are taken away again and again -/
structure Core (L : List (List Nat)) (st : Nat → Bool) : Prop where
  mt : ∀ e ∈ L.flatten, st (mate e) = st e
  two : ∀ l ∈ L, (l.filter st).length ≠ 1
  keep : ∀ z : Nat → Int, (∀ e ∈ L.flatten, z (mate e) = - z e) → (∀ l ∈ L, sm z l = 0) → ∀ e ∈ L.flatten, z e ≠ 0 → st e = true
theorem countP_lt {l : List Nat} {p q : Nat → Bool} {e : Nat} (he : e ∈ l) (h : ∀ x ∈ l, q x = true → p x = true) (h1 : p e = true) (h2 : q e = false) : l.countP q < l.countP p := by
  have pm := List.perm_cons_erase he
  rw [pm.countP_eq, pm.countP_eq, List.countP_cons, List.countP_cons, h1, h2]
  have : (l.erase e).countP q ≤ (l.erase e).countP p := List.countP_mono_left fun x hx hq => h x (List.mem_of_mem_erase hx) hq
  simp; omega
def sp_core (K : PySem.W.Frag) : Sp := fun vs H Q _ => ∃ B v L, vs = [v] ∧ Le B H ∧ LL K B v L ∧ Few L ∧ (∀ e ∈ L.flatten, mate e ∈ L.flatten) ∧ Ret B H (fun w B' => ∃ st, DK B' w L.flatten (fun e => .bl (st e)) ∧ Core L st) Q
theorem call_core {v : V} {L : List (List Nat)} (h : Val te σ H v) (l : Le B H) (hv : LL K B v L) (F : Few L) (hm : ∀ e ∈ L.flatten, mate e ∈ L.flatten) : VH (tCall (sp_core K) [] E0 (tCons te tNil)) σ H fun w H' => ∃ B' st, Ext B H B' H' ∧ DK B' w L.flatten (fun e => .bl (st e)) ∧ Core L st :=
  c_call (g_cons h g_nil) fun Q q => ⟨B, v, L, rfl, l, hv, F, hm, fun w B' H' e ⟨st, p1, p2⟩ => q w H' ⟨B', st, e, p1, p2⟩⟩
theorem r__law_core (vs : List V) (H : Hp) (Q : VK) (E : XK) (h : sp_core K vs H Q E) : t__law_core K sp_mate { nx := fun _ H' => Q .non H', rt := Q } (L2.start N__law_core vs) H := by
  obtain ⟨B, v, L, rfl, hl, hv, F, hmt, k⟩ := h
  have hsf := F.sf
  -- stay = {}
  refine q_set n_dict ?_
  rintro w1 H1 ⟨p, hp, rfl, rfl⟩
  have e1 := (Ext.refl hl).own hp (o := .dK [])
  have o1 : Own H B _ p (.dK []) := Own.of_new (.refl H) hl hp
  refine q_seq (f_LL (B := B) (v_var rfl) hv
    (fun i σ H' => ∃ (x2 x3 : Option V), σ = [some v, some (.ref p), x2, x3, none, none] ∧ Ext B H B H' ∧ Own H B H' p (.dK (dkv (L.take i).flatten fun _ => .bl true)))
    ⟨none, none, rfl, e1, o1⟩ (fun i σ' H' ⟨_, _, _, e, _⟩ => e.le) ?_ ?_)
  · rintro i w l σ2 H2 hil hwl ⟨x2, x3, rfl, e2, o2⟩
    refine f_LN (B := B) (v_var rfl) hwl
      (fun j σ H' => ∃ (x3 : Option V), σ = [some v, some (.ref p), some w, x3, none, none] ∧ Ext B H B H' ∧ Own H B H' p (.dK (dkv ((L.take i).flatten ++ l.take j) fun _ => .bl true)))
      ⟨x3, rfl, e2, by simpa using o2⟩ (fun j σ' H' ⟨_, _, e, _⟩ => e.le) ?_ ?_
    · rintro j e σ3 H3 hej ⟨x3, rfl, e3, o3⟩
      refine s_putN (n := e) (f := fun _ => .bl true) v_c (v_var rfl) (v_var rfl) o3.h (nodup_take F.nd hil hej) (by have := F.row hil j; omega) ?_
      rw [List.append_assoc, ← take_snoc hej]
      exact ⟨_, rfl, e3.put o3 _, o3.put _⟩
    · rintro σ3 H3 ⟨x3, rfl, e3, o3⟩
      rw [List.take_length, ← flat_take hil] at o3
      exact ⟨_, _, rfl, e3, o3⟩
  · rintro σ2 H2 ⟨x2, x3, rfl, e2, o2⟩
    rw [List.take_length] at o2
    -- again = True
    refine q_setV v_c ?_
    refine q_seq (f_while (m0 := L.flatten.countP (fun _ => true) + 1)
      (fun n σ H' => ∃ (x2 x3 x5 : Option V) (again : Bool) (st : Nat → Bool) (B' : Hp), σ = [some v, some (.ref p), x2, x3, some (.bl again), x5] ∧ Ext B H B' H' ∧ Own H B' H' p (.dK (dkv L.flatten fun e => .bl (st e))) ∧
        (∀ e ∈ L.flatten, st (mate e) = st e) ∧ (∀ z : Nat → Int, (∀ e ∈ L.flatten, z (mate e) = - z e) → (∀ l ∈ L, sm z l = 0) → ∀ e ∈ L.flatten, z e ≠ 0 → st e = true) ∧
        (again = false → ∀ l ∈ L, (l.filter st).length ≠ 1) ∧ L.flatten.countP st + again.toNat ≤ n)
      ⟨x2, x3, none, true, fun _ => true, B, rfl, e2, o2, fun _ _ => rfl, fun _ _ _ _ _ _ => rfl, fun h => (by cases h), Nat.le_refl _⟩ ?_)
    rintro n σ3 H3 ⟨x2, x3, x5, again, st, B3, rfl, e3, o3, hst, hkp, htw, hn⟩
    refine ⟨again, a_b (v_var rfl), fun hb => ?_, fun hb => ?_⟩
    · subst hb
      refine q_setV v_c ?_
      refine f_LL (B := B) (v_var rfl) hv
        (fun i σ H' => ∃ (x2 x3 x5 : Option V) (again : Bool) (st : Nat → Bool) (B' : Hp), σ = [some v, some (.ref p), x2, x3, some (.bl again), x5] ∧ Ext B H B' H' ∧ Own H B' H' p (.dK (dkv L.flatten fun e => .bl (st e))) ∧
          (∀ e ∈ L.flatten, st (mate e) = st e) ∧ (∀ z : Nat → Int, (∀ e ∈ L.flatten, z (mate e) = - z e) → (∀ l ∈ L, sm z l = 0) → ∀ e ∈ L.flatten, z e ≠ 0 → st e = true) ∧
          (again = false → ∀ l ∈ L.take i, (l.filter st).length ≠ 1) ∧ L.flatten.countP st + again.toNat + 1 ≤ n)
        ⟨x2, x3, x5, false, st, B3, rfl, e3, o3, hst, hkp, fun _ => by simp, by simpa using hn⟩ (fun i σ' H' ⟨_, _, _, _, _, _, _, e, _⟩ => e.bb.le.trans e.le) ?_ ?_
      · rintro i w l σ4 H4 hil hwl ⟨x2, x3, x5, again, st, B4, rfl, e4, o4, hst, hkp, htw, hn⟩
        have hlm := List.mem_of_getElem? hil
        have hlf : ∀ e ∈ l, e ∈ L.flatten := fun e he => List.mem_flatten.mpr ⟨l, hlm, he⟩
        have hnd := row_nodup F.nd hlm
        have hll : l.length ≤ 1000 := by
          have := F.row hil l.length
          rw [List.take_length, List.length_append] at this
          omega
        -- kept = [end for end in row if stay[end]]
        refine q_set (n_lcN (B := B4) st nv e4.le (v_var rfl) (hwl.le e4.bb.le) (by omega) (fun _ => rfl) (fun n H' hn e => a_b (v_get (n := n) (f := fun e => V.bl (st e)) (v_var rfl) (DK.of (e p _ o4.h)) (v_var rfl) (hlf n hn))) (fun n H' _ _ _ => v_var rfl)) ?_
        rintro w5 H5 ⟨r, hr, rfl, rfl⟩
        have e5 := e4.trans (Ext.new e4.le hr (o := .lst ((l.filter st).map nv)))
        have npr : p ≠ r := ne_of_none o4.h hr
        have o5 : Own H (upd B4 r (.lst ((l.filter st).map nv))) _ p _ := (o4.other npr (u := .lst ((l.filter st).map nv))).frozen npr (u := .lst ((l.filter st).map nv))
        have hk5 : LN K (upd B4 r (.lst ((l.filter st).map nv))) (.ref r) (l.filter st) := .of upd_same
        generalize upd B4 r (.lst ((l.filter st).map nv)) = B5 at e5 o5 hk5
        generalize upd H4 r (.lst ((l.filter st).map nv)) = H5 at e5 o5 ⊢
        refine s_if (b := decide ((l.filter st).length = 1)) (a_t (vas (v_eqI (v_lenN (v_var rfl) (hk5.le e5.le)) v_c) (by congr 1; simp only [decide_eq_decide]; omega))) (fun hb => ?_) (fun hb => ?_)
        · obtain ⟨e, he⟩ := List.length_eq_one_iff.mp (of_decide_eq_true hb)
          have hef : e ∈ l.filter st := by rw [he]; simp
          have hel : e ∈ l := (List.mem_filter.mp hef).1
          have hes : st e = true := (List.mem_filter.mp hef).2
          have heF := hlf e hel
          rw [he] at hk5
          have hl9 : L.flatten.length < 100000 := by omega
          refine q_seq (s_putO (n := e) (v := .bl false) v_c (v_var rfl) (v_ixN (j := 0) (v_var rfl) (hk5.le e5.le) v_c rfl) o5.h heF hl9 ?_)
          have e6 := e5.put o5 (.dK (dkv L.flatten fun x => if x = e then V.bl false else .bl (st x)))
          have o6 := o5.put (.dK (dkv L.flatten fun x => if x = e then V.bl false else .bl (st x)))
          refine q_seq (s_putO (n := mate e) (v := .bl false) v_c (v_var rfl) (call_mate (v_ixN (j := 0) (v_var rfl) (hk5.le e6.le) v_c rfl)) o6.h (hmt e heF) hl9 ?_)
          have e7 := e6.put o6 (.dK (dkv L.flatten fun x => if x = mate e then V.bl false else if x = e then V.bl false else .bl (st x)))
          have o7 := o6.put (.dK (dkv L.flatten fun x => if x = mate e then V.bl false else if x = e then V.bl false else .bl (st x)))
          refine s_setV v_c ?_
          let st2 : Nat → Bool := fun x => if x = mate e then false else if x = e then false else st x
          have heq : (dkv L.flatten fun x => if x = mate e then V.bl false else if x = e then V.bl false else .bl (st x)) = dkv L.flatten fun x => .bl (st2 x) := dkv_congr fun x _ => by
            show _ = V.bl (if x = mate e then false else if x = e then false else st x)
            split
            · rfl
            · split <;> rfl
          rw [heq] at e7 o7 ⊢
          have hze : ∀ z : Nat → Int, (∀ e ∈ L.flatten, z (mate e) = - z e) → (∀ l ∈ L, sm z l = 0) → z e = 0 := fun z hz1 hz2 => by
            rw [← hz2 l hlm]
            refine (sm_one hnd hel fun y hy hne => ?_).symm
            refine Classical.byContradiction fun h0 => ?_
            have hy2 : y ∈ l.filter st := List.mem_filter.mpr ⟨hy, hkp z hz1 hz2 y (hlf y hy) h0⟩
            rw [he] at hy2
            exact hne (List.mem_singleton.mp hy2)
          refine ⟨_, _, _, true, st2, B5, rfl, e7, o7, fun x hx => ?_, fun z hz1 hz2 x hx hx0 => ?_, fun h => (by cases h), ?_⟩
          · show (if mate x = mate e then false else if mate x = e then false else st (mate x)) = (if x = mate e then false else if x = e then false else st x)
            by_cases a : x = e
            · subst a
              rw [if_pos rfl, if_neg (fun z => mate_ne x z.symm), if_pos rfl]
            · rw [if_neg (fun z => a (mate_inj z)), if_neg a]
              by_cases b : x = mate e
              · subst b
                rw [mate_mate, if_pos rfl, if_pos rfl]
              · rw [if_neg (fun z => b (by rw [← z, mate_mate])), if_neg b]
                exact hst x hx
          · show (if x = mate e then false else if x = e then false else st x) = true
            rw [if_neg, if_neg]
            · exact hkp z hz1 hz2 x hx hx0
            · intro h
              subst h
              exact hx0 (hze z hz1 hz2)
            · intro h
              subst h
              rw [hz1 e heF, hze z hz1 hz2] at hx0
              exact hx0 rfl
          · have : L.flatten.countP st2 < L.flatten.countP st := countP_lt heF (fun x hx hx2 => by
              have hx2 : (if x = mate e then false else if x = e then false else st x) = true := hx2
              split at hx2
              · cases hx2
              · split at hx2
                · cases hx2
                · exact hx2) hes (by
              show (if e = mate e then false else if e = e then false else st e) = false
              rw [if_neg (fun z => mate_ne e z.symm), if_pos rfl])
            show L.flatten.countP st2 + 1 + 1 ≤ n
            omega
        · refine ⟨_, _, _, again, st, B5, rfl, e5, o5, hst, hkp, fun ha l' hl' => ?_, hn⟩
          rw [take_snoc hil] at hl'
          rcases List.mem_append.mp hl' with z | z
          · exact htw ha l' z
          · rw [List.mem_singleton.mp z]
            exact of_decide_eq_false hb
      · rintro σ4 H4 ⟨x2, x3, x5, again, st, B4, rfl, e4, o4, hst, hkp, htw, hn⟩
        rw [List.take_length] at htw
        exact ⟨n - 1, by omega, x2, x3, x5, again, st, B4, rfl, e4, o4, hst, hkp, htw, by omega⟩
    · subst hb
      exact s_retV (v_var rfl) (k _ _ _ (e3.freeze o3) ⟨st, .of upd_same, hst, htw rfl, hkp⟩)
end
end Rf
end
section
set_option linter.all false
set_option autoImplicit false
set_option maxRecDepth 100000
set_option maxHeartbeats 1000000
/-! P21: _law_cell, _law_draws, _law_rest. -/
namespace Rf
open PySem L2
section
variable {K : PySem.W.Frag} {σ : St} {B H : Hp} {ta tb tc te tl tn : TE} {g : TG} {D : Ends}
/-- both branches go on to S, from which what follows is shown once -/
theorem q_join {c : TT} {b : Bool} {t t1 t2 : TS} {D : Ends} (S : St → Hp → Prop) (h : Ans c σ H b) (hk : ∀ σ' H', S σ' H' → t D σ' H') (h1 : b = true → ∀ nx : St → Hp → Prop, (∀ σ' H', S σ' H' → nx σ' H') → t1 { D with nx := nx } σ H) (h2 : b = false → ∀ nx : St → Hp → Prop, (∀ σ' H', S σ' H' → nx σ' H') → t2 { D with nx := nx } σ H) :
    tSeq (tIfS c t1 t2) t D σ H := q_if h (fun hb => h1 hb _ hk) (fun hb => h2 hb _ hk)
/-! ### _law_cell -/
def sp_cell (K : PySem.W.Frag) : Sp := fun vs H Q _ => ∃ (B : Hp) (v : V) (xs : List Int) (n : Nat), vs = [v, nv n] ∧ Le B H ∧ LI K B v xs ∧ n < 1000 ∧ ∀ c : Int, Q (.int c) H
theorem call_cell {v : V} {xs : List Int} {n : Nat} (h : Val ta σ H v) (h2 : Val tb σ H (nv n)) (l : Le B H) (hv : LI K B v xs) (hn : n < 1000) : VH (tCall (sp_cell K) [] E0 (tCons ta (tCons tb tNil))) σ H fun w H' => (∃ c, w = .int c) ∧ H' = H :=
  c_call (g_cons h (g_cons h2 g_nil)) fun Q q => ⟨B, v, xs, n, rfl, l, hv, hn, fun c => q _ _ ⟨⟨c, rfl⟩, rfl⟩⟩
theorem r__law_cell (vs : List V) (H : Hp) (Q : VK) (E : XK) (h : sp_cell K vs H Q E) : t__law_cell K { nx := fun _ H' => Q .non H', rt := Q } (L2.start N__law_cell vs) H := by
  obtain ⟨B, v, xs, n, rfl, hl, hv, hn, k⟩ := h
  have hlen : ∀ σ : St, σ[0]? = some (some v) → Val (tCB (rLenS K) (tCons (tVar 0) tNil)) σ H (nv xs.length) := fun σ h => v_lenI (v_var h) (hv.le hl)
  refine q_if (a_t (v_eqI (hlen _ rfl) v_c)) (fun hb => ?_) (fun hb => ?_)
  · exact s_retV (v_add (v_mul v_c (v_var rfl) (.inl ⟨by decide, by decide⟩)) v_c) (k _)
  · have h0 : 0 < xs.length := by have := of_decide_eq_false hb; omega
    refine q_if (a_t (v_lt (v_var rfl) (hlen _ rfl))) (fun hb2 => ?_) (fun hb2 => ?_)
    · have h1 : n < xs.length := by have := of_decide_eq_true hb2; omega
      exact s_retV (v_ixI (v_var rfl) (hv.le hl) (v_var rfl) (List.getElem?_eq_getElem h1)) (k _)
    · have h1 : n % xs.length < xs.length := Nat.mod_lt _ h0
      refine s_retV (v_add (v_mul (v_mod (v_ixI (v_var rfl) (hv.le hl) (vnat (v_mod (v_var rfl) (hlen _ rfl) (by omega)) (Int.natCast_emod n xs.length).symm) (List.getElem?_eq_getElem h1)) v_c (by decide)) v_c (.inr ⟨by decide, by decide⟩)) (v_mul v_c (v_var rfl) (.inl ⟨by decide, by decide⟩))) (k _)

/-! ### _law_draws -/
/-- numbers drawn, each below its size -/
def Drawn (ns ds : List Nat) : Prop := ds.length = ns.length ∧ ∀ (i d n : Nat), ds[i]? = some d → ns[i]? = some n → d < n
theorem Drawn.at {ns ds : List Nat} (h : Drawn ns ds) {i n : Nat} (hi : ns[i]? = some n) : ∃ d, ds[i]? = some d ∧ d < n := by
  have hl : i < ds.length := by rw [h.1]; exact (List.getElem?_eq_some_iff.mp hi).1
  exact ⟨ds[i], List.getElem?_eq_getElem hl, h.2 i _ _ (List.getElem?_eq_getElem hl) hi⟩
def sp_draws (K : PySem.W.Frag) : Sp := fun vs H Q _ => ∃ B c v ns, vs = [.int c, v] ∧ Le B H ∧ LN K B v ns ∧ ns.length ≤ 1000 ∧ (∀ n ∈ ns, 0 < n ∧ n ≤ 10000) ∧ Ret B H (fun w B' => ∃ ds, LN K B' w ds ∧ Drawn ns ds) Q
theorem call_draws {P : V → Hp → Prop} {ns : List Nat} (h1 : VH ta σ H P) (h2 : ∀ w H1, P w H1 → (∃ c, w = .int c) ∧ VH tb σ H1 fun u H2 => ∃ B2, Ext B H B2 H2 ∧ LN K B2 u ns) (hz : ns.length ≤ 1000) (hs : ∀ n ∈ ns, 0 < n ∧ n ≤ 10000) :
    VH (tCall (sp_draws K) [] E0 (tCons ta (tCons tb tNil))) σ H fun w H' => ∃ B' ds, Ext B H B' H' ∧ LN K B' w ds ∧ Drawn ns ds := fun Q q =>
  h1 _ fun w H1 p => by
    obtain ⟨⟨c, rfl⟩, h3⟩ := h2 w H1 p
    refine h3 _ fun u H2 ⟨B2, e2, hu⟩ => ?_
    exact ⟨B2, c, u, ns, rfl, e2.le, hu, hz, hs, fun w B' H' e ⟨ds, h1, h2⟩ => q w H' ⟨B', ds, e2.trans e, h1, h2⟩⟩
theorem r__law_draws (vs : List V) (H : Hp) (Q : VK) (E : XK) (h : sp_draws K vs H Q E) : t__law_draws K { nx := fun _ H' => Q .non H', rt := Q } (L2.start N__law_draws vs) H := by
  obtain ⟨B, c, v, ns, rfl, hl, hv, hz, hs, k⟩ := h
  refine q_setV v_c ?_
  refine q_join (fun σ' H' => ∃ r : Int, σ' = [some (.int c), some v, some (.int r), none, none, none, none] ∧ H' = H) (a_t (v_ge (v_var rfl) (v_pow (i := 10) (j := 18) v_c v_c ⟨by decide, by decide, by decide⟩))) ?_ (fun _ nx q => s_setV (v_var rfl) (q _ _ ⟨c, rfl, rfl⟩)) (fun _ nx q => q _ _ ⟨0, rfl, rfl⟩)
  rintro _ H ⟨r, rfl, rfl⟩
  refine q_set (n_lst g_nil (by simp)) ?_
  rintro w H1 ⟨p, hp, rfl, rfl⟩
  have e1 := (Ext.refl hl).own hp (o := .lst [])
  have o1 : Own H B _ p (.lst []) := Own.of_new (.refl H) hl hp
  obtain ⟨a, rfl, ha⟩ := id hv
  refine q_seq (f_enum (a := a) (xs := ns.map nv) (v_var rfl) (sqL_le ha e1.le)
    (fun i σ H' => ∃ (r : Int) (x4 x5 x6 : Option V) (ds : List Nat), σ = [some (.int c), some (.ref a), some (.int r), some (.ref p), x4, x5, x6] ∧ Ext B H B H' ∧ Own H B H' p (.lst (ds.map nv)) ∧ ds.length = i ∧ ∀ (j d n : Nat), ds[j]? = some d → ns[j]? = some n → d < n)
    ⟨r, none, none, none, [], rfl, e1, o1, rfl, fun j d n h => by simp at h⟩ (fun i σ' H' ⟨_, _, _, _, _, _, e, _⟩ => sqL_le ha e.le) ?_ ?_)
  · rintro i x σ2 H2 T hx ⟨r, x4, x5, x6, ds, rfl, e2, o2, hdl, hds⟩ hT
    rw [List.getElem?_map] at hx
    obtain ⟨n, hn, rfl⟩ := Option.map_eq_some_iff.mp hx
    obtain ⟨hn0, hn1⟩ := hs n (List.mem_of_getElem? hn)
    have hi := (List.getElem?_eq_some_iff.mp hn).1
    have e3 := e2.own hT (o := .tup [nv i, nv n])
    have o3 := o2.other (ne_of_none o2.h hT) (u := .tup [nv i, nv n])
    have app : ∀ d : Nat, d < n → (ds ++ [d]).length = i + 1 ∧ ∀ (j d' n' : Nat), (ds ++ [d])[j]? = some d' → ns[j]? = some n' → d' < n' := fun d hd => by
      refine ⟨by simp [hdl], fun j d' n' h1 h2 => ?_⟩
      by_cases hj : j < ds.length
      · rw [List.getElem?_append_left hj] at h1
        exact hds j d' n' h1 h2
      · have hb := (List.getElem?_eq_some_iff.mp h1).1
        simp at hb
        have : j = ds.length := by omega
        subst this
        simp at h1
        rw [hdl, hn] at h2
        cases h2
        rw [← h1]; exact hd
    refine s_if (a_t (v_gt (v_var rfl) v_c)) (fun hb => ?_) (fun hb => ?_)
    · have hr := of_decide_eq_true hb
      have hm0 : 0 ≤ r % (n : Int) := Int.emod_nonneg _ (by omega)
      have hm1 : r % (n : Int) < n := Int.emod_lt_of_pos _ (by omega)
      refine q_seq (s_app (v := nv (r % (n : Int)).toNat) (v_var rfl) (vnat (v_mod (v_var rfl) (v_var rfl) (by omega)) (by omega)) o3.h (by rw [List.length_map]; omega) ?_)
      have e4 := e3.put o3 (.lst (ds.map nv ++ [nv (r % (n : Int)).toNat]))
      have o4 := o3.put (.lst (ds.map nv ++ [nv (r % (n : Int)).toNat]))
      refine s_setV (v_div (v_var rfl) (v_var rfl) ⟨by omega, by omega⟩) ?_
      obtain ⟨a1, a2⟩ := app (r % (n : Int)).toNat (by omega)
      exact ⟨_, _, _, _, ds ++ [(r % (n : Int)).toNat], rfl, e4, by rw [List.map_append]; exact o4, a1, a2⟩
    · have hsq : (1009 * (i : Int)) * (i : Int) ≤ 1009 * 1000 * 1000 := Int.mul_le_mul (by omega) (by omega) (by omega) (by decide)
      have hsq0 : 0 ≤ (1009 * (i : Int)) * (i : Int) := Int.mul_nonneg (by omega) (by omega)
      have hc0 : 0 ≤ c % 2147483647 := Int.emod_nonneg _ (by decide)
      have hc1 : c % 2147483647 < 2147483647 := Int.emod_lt_of_pos _ (by decide)
      refine q_setV (v_mod (v_pow (v_add (v_add (v_add (v_mod (v_var rfl) v_c (by decide)) (v_mul (v_mul v_c (v_var rfl) (.inl ⟨by decide, by decide⟩)) (v_var rfl) (.inr ⟨by omega, by omega⟩))) (v_mul v_c (v_var rfl) (.inl ⟨by decide, by decide⟩))) v_c) (j := 5) v_c ⟨by decide, by decide, by omega⟩) v_c (by decide)) ?_
      generalize ((c % 2147483647 + 1009 * (i : Int) * (i : Int) + 48611 * (i : Int) + 17) ^ (5 : Int).toNat % 2147483647) = x
      have hm0 : 0 ≤ (x * 48271 + 7919 * (i : Int)) % 1000000007 % (n : Int) := Int.emod_nonneg _ (by omega)
      have hm1 : (x * 48271 + 7919 * (i : Int)) % 1000000007 % (n : Int) < n := Int.emod_lt_of_pos _ (by omega)
      refine s_app (v := nv ((x * 48271 + 7919 * (i : Int)) % 1000000007 % (n : Int)).toNat) (v_var rfl) (vnat (v_mod (v_mod (v_add (v_mul (v_var rfl) v_c (.inr ⟨by decide, by decide⟩)) (v_mul v_c (v_var rfl) (.inl ⟨by decide, by decide⟩))) v_c (by decide)) (v_var rfl) (by omega)) (by omega)) o3.h (by rw [List.length_map]; omega) ?_
      obtain ⟨a1, a2⟩ := app ((x * 48271 + 7919 * (i : Int)) % 1000000007 % (n : Int)).toNat (by omega)
      exact ⟨_, _, _, _, ds ++ [_], rfl, e3.put o3 _, by rw [List.map_append]; exact o3.put _, a1, a2⟩
  · rintro σ2 H2 ⟨r, x4, x5, x6, ds, rfl, e2, o2, hdl, hds⟩
    refine s_retV (v_var rfl) (k _ _ _ (e2.freeze o2) ⟨ds, .of upd_same, by rw [hdl]; simp, hds⟩)
end
end Rf
end
section
set_option autoImplicit false
set_option linter.all false
/-! Mi: a path that comes back to one of its places is, from there on, a round. -/
namespace Rf
/-- a round of a drawing, or of a part of one -/
structure Rd (L : List (List Nat)) (W : List Nat) : Prop where
  ne : W ≠ []
  inn : ∀ e ∈ W, e ∈ L.flatten
  wk : Wk (seat L) W
  places : (W.map (seat L)).Nodup
  ties : (W.map (· / 2)).Nodup
/-- a way without turning back and without a place twice -/
structure Pth (L : List (List Nat)) (st : Nat → Bool) (w : List Nat) : Prop where
  inn : ∀ e ∈ w, e ∈ L.flatten ∧ st e = true
  nd : (w.map (seat L)).Nodup
  nx : ∀ (i a b : Nat), w[i]? = some a → w[i + 1]? = some b → seat L (mate a) = seat L b ∧ b ≠ mate a
theorem chain_map {f s : Nat → Nat} : ∀ (w : List Nat) (z h : Nat), (∀ (i a b : Nat), (w ++ [z])[i]? = some a → (w ++ [z])[i + 1]? = some b → f a = s b) → f z = s h → (w ++ [z]).map f = ((w ++ [z]).drop 1).map s ++ [s h]
  | [], z, h, _, hz => by simp [hz]
  | x :: w, z, h, hc, hz => by
    have ih := chain_map w z h (fun i a b h1 h2 => hc (i + 1) a b (by simpa using h1) (by simpa using h2)) hz
    rw [List.cons_append, List.map_cons, ih]
    cases w with
    | nil =>
      have := hc 0 x z rfl rfl
      simp [this]
    | cons y w =>
      have := hc 0 x y rfl rfl
      simp [this]
theorem Pth.drop {L : List (List Nat)} {st : Nat → Bool} {w : List Nat} (P : Pth L st w) (j : Nat) : Pth L st (w.drop j) :=
  ⟨fun e he => P.inn e (List.mem_of_mem_drop he), by rw [List.map_drop]; exact P.nd.sublist (List.drop_sublist _ _), fun i a b h1 h2 => by
    rw [List.getElem?_drop] at h1 h2
    exact P.nx (j + i) a b h1 (by rw [← h2]; congr 1)⟩
theorem Pth.round {L : List (List Nat)} {st : Nat → Bool} {w : List Nat} {z h : Nat} (P : Pth L st (w ++ [z])) (h0 : (w ++ [z])[0]? = some h) (hz : seat L (mate z) = seat L h) : Rd L (w ++ [z]) := by
  have wk : Wk (seat L) (w ++ [z]) := by
    have e1 := chain_map (f := fun e => seat L (mate e)) (s := seat L) w z h (fun i a b h1 h2 => (P.nx i a b h1 h2).1) hz
    unfold Wk
    rw [e1, List.map_append]
    congr 1
    cases w with
    | nil => simp at h0; subst h0; rfl
    | cons x w => simp at h0; subst h0; rfl
  refine ⟨by simp, fun e he => (P.inn e he).1, wk, P.nd, map_nodup (nodup_of_map P.nd) fun x hx y hy hxy => ?_⟩
  rcases div_cases hxy with q | q
  · exact q
  · -- x is the mate of y
    exfalso
    obtain ⟨i, hi⟩ := List.mem_iff_getElem?.mp hx
    obtain ⟨j, hj⟩ := List.mem_iff_getElem?.mp hy
    have q2 : y = mate x := by rw [q, mate_mate]
    have inj : ∀ (a b u v : Nat), (w ++ [z])[a]? = some u → (w ++ [z])[b]? = some v → seat L u = seat L v → a = b := by
      intro a b u v ha hb he
      have h1 : ((w ++ [z]).map (seat L))[a]? = some (seat L u) := by rw [List.getElem?_map, ha]; rfl
      have h2 : ((w ++ [z]).map (seat L))[b]? = some (seat L v) := by rw [List.getElem?_map, hb]; rfl
      obtain ⟨l1, e1⟩ := List.getElem?_eq_some_iff.mp h1
      obtain ⟨l2, e2⟩ := List.getElem?_eq_some_iff.mp h2
      exact (List.getElem_inj P.nd).mp (by rw [e1, e2, he])
    -- what follows u in the ring
    have nxt : ∀ (a u v b : Nat), (w ++ [z])[a]? = some u → (w ++ [z])[b]? = some v → v = mate u → a + 1 = (w ++ [z]).length ∧ b = 0 := by
      intro a u v b ha hb hv
      have hal := (List.getElem?_eq_some_iff.mp ha).1
      by_cases hlt : a + 1 < (w ++ [z]).length
      · exfalso
        have hn : (w ++ [z])[a + 1]? = some (w ++ [z])[a + 1] := List.getElem?_eq_getElem hlt
        obtain ⟨k1, k2⟩ := P.nx a u _ ha hn
        have := inj b (a + 1) v _ hb hn (by rw [hv, k1])
        subst this
        rw [hb] at hn
        cases hn
        exact k2 hv
      · refine ⟨by omega, ?_⟩
        have ez : u = z := by
          have : a = w.length := by simp at hlt hal; omega
          subst this
          simp at ha
          exact ha.symm
        subst ez
        exact inj b 0 v h hb h0 (by rw [hv, hz])
    obtain ⟨a1, a2⟩ := nxt i x y j hi hj q2
    obtain ⟨b1, b2⟩ := nxt j y x i hj hi q
    -- one end alone
    have : i = j := by omega
    subst this
    rw [hi] at hj
    cases hj
    exact mate_ne x q2.symm
theorem Pth.snoc {L : List (List Nat)} {st : Nat → Bool} {w : List Nat} {z e : Nat} (P : Pth L st (w ++ [z])) (he : e ∈ L.flatten) (hs : st e = true) (h1 : seat L (mate z) = seat L e) (h2 : e ≠ mate z) (h3 : seat L e ∉ (w ++ [z]).map (seat L)) : Pth L st (w ++ [z] ++ [e]) := by
  refine ⟨fun x hx => ?_, ?_, fun i a b ha hb => ?_⟩
  · rcases List.mem_append.mp hx with q | q
    · exact P.inn x q
    · rw [List.mem_singleton.mp q]; exact ⟨he, hs⟩
  · rw [List.map_append, List.nodup_append]
    exact ⟨P.nd, by simp, fun a ha b hb z => by simp at hb; subst hb z; exact h3 ha⟩
  · have hbl := (List.getElem?_eq_some_iff.mp hb).1
    by_cases hi : i + 1 < (w ++ [z]).length
    · rw [List.getElem?_append_left (by omega)] at ha
      rw [List.getElem?_append_left hi] at hb
      exact P.nx i a b ha hb
    · have hi2 : i = w.length := by simp at hi hbl; omega
      subst hi2
      simp at ha hb
      subst ha hb
      exact ⟨h1, h2⟩
theorem Pth.one {L : List (List Nat)} {st : Nat → Bool} {z : Nat} (h : z ∈ L.flatten) (hs : st z = true) : Pth L st ([] ++ [z]) :=
  ⟨fun e he => by simp at he; subst he; exact ⟨h, hs⟩, by simp, fun i a b _ hb => by simp at hb⟩
end Rf
end
section
set_option linter.all false
set_option autoImplicit false
set_option maxRecDepth 100000
set_option maxHeartbeats 1000000
/-! P22: _law_turn. -/
namespace Rf
open PySem L2
section
variable {K : PySem.W.Frag} {σ : St} {B H : Hp} {ta tb tc te tl tn : TE} {g : TG} {D : Ends}
theorem n_lcW {P P' : V → Hp → Prop} {tt : TT} {vs : List Nat} (h : VH tl σ H P) (k : ∀ w H1, P w H1 → VH (tLc (iList K (tC w)) g tt te vs) σ H1 P') : VH (tLc (iList K tl) g tt te vs) σ H P' := fun Q q => h _ fun w H1 p => k w H1 p Q q
theorem n_cat2 {P1 P' : V → Hp → Prop} {P2 : V → V → Hp → Prop} (ha : VH ta σ H P1) (hb : ∀ u H1, P1 u H1 → VH tb σ H1 (P2 u)) (k : ∀ u w H2, P2 u w H2 → ∃ a b xs ys, u = .ref a ∧ w = .ref b ∧ H2 a = some (.lst xs) ∧ H2 b = some (.lst ys) ∧ xs.length + ys.length ≤ 100000 ∧ ∀ c, H2 c = none → P' (.ref c) (upd H2 c (.lst (xs ++ ys)))) :
    VH (tOp rCat ta tb) σ H P' := fun Q q => ha _ fun u H1 p1 => hb u H1 p1 _ fun w H2 p2 => by
  obtain ⟨a, b, xs, ys, rfl, rfl, h1, h2, h3, h4⟩ := k u w H2 p2
  exact ⟨a, b, xs, ys, rfl, rfl, h1, h2, Nat.le_trans h3 (by decide), fun c hc => q _ _ (h4 c hc)⟩
theorem cut_from {xs : List V} {j : Nat} (h : j ≤ xs.length) : cutV xs (some (j : Int)) none = xs.drop j := by
  unfold cutV
  rw [HT.sIx_nat xs.length 0 j, HT.sIx_none, Nat.min_eq_left h]
  exact List.take_of_length_le (by rw [List.length_drop]; exact Nat.le_refl _)
/-- xs[j:] -/
theorem n_from {p : Addr} {xs : List V} {j : Nat} (ha : Val ta σ H (.ref p)) (hb : Val tb σ H (nv j)) (hs : SqL K H p xs) (hj : j ≤ xs.length) : VH (tSl (rSlL K) ta (tPart tb) tNoPart) σ H fun w H' => ∃ q, H q = none ∧ w = .ref q ∧ H' = upd H q (.lst (xs.drop j)) := fun Q q =>
  ha _ (hb _ ⟨(j : Int), rfl, p, xs, rfl, hs, fun r hr => by
    rw [cut_from hj]
    exact q _ _ ⟨r, hr, rfl, rfl⟩⟩)
theorem v_rowD {a : V} {xss : List (List Nat)} {j : Nat} {xs : List Nat} (ha : Val ta σ H a) (hl : Le B H) (hs : LL K B a xss) (hb : Val tb σ H (nv j)) (hj : xss[j]? = some xs) : ∃ w, Val (tOp (rIxL K) ta tb) σ H w ∧ LN K B w xs := v_row ha hl hs hb hj
def sp_turn (K : PySem.W.Frag) : Sp := fun vs H Q _ => ∃ B v c L, vs = [v, .int c] ∧ Le B H ∧ LL K B v L ∧ Few L ∧ L.length ≤ 500 ∧ (∀ e ∈ L.flatten, mate e ∈ L.flatten) ∧
  Ret B H (fun w B' => ∃ W, LN K B' w W ∧ ((W = [] ∧ ∃ st, Core L st ∧ ∀ e ∈ L.flatten, st e = false) ∨ Rd L W)) Q
theorem call_turn {P1 : V → Hp → Prop} {P2 : V → V → Hp → Prop} {L : List (List Nat)} (h1 : VH ta σ H P1) (h2 : ∀ v H1, P1 v H1 → VH tb σ H1 (P2 v)) (h3 : ∀ v w H2, P2 v w H2 → ∃ B2 c, Ext B H B2 H2 ∧ w = .int c ∧ LL K B2 v L) (F : Few L) (hz : L.length ≤ 500) (hm : ∀ e ∈ L.flatten, mate e ∈ L.flatten) :
    VH (tCall (sp_turn K) [] E0 (tCons ta (tCons tb tNil))) σ H fun w H' => ∃ B' W, Ext B H B' H' ∧ LN K B' w W ∧ ((W = [] ∧ ∃ st, Core L st ∧ ∀ e ∈ L.flatten, st e = false) ∨ Rd L W) := fun Q q =>
  h1 _ fun v H1 p1 => h2 v H1 p1 _ fun w H2 p2 => by
    obtain ⟨B2, c, e2, rfl, hv⟩ := h3 v w H2 p2
    exact ⟨B2, v, c, L, rfl, e2.le, hv, F, hz, hm, fun w B' H' e ⟨W, k1, k2⟩ => q w H' ⟨B', W, e2.trans e, k1, k2⟩⟩
theorem r__law_turn (vs : List V) (H : Hp) (Q : VK) (E : XK) (h : sp_turn K vs H Q E) : t__law_turn K sp_mate (sp_draws K) (sp_lnum K) (sp_core K) { nx := fun _ H' => Q .non H', rt := Q } (L2.start N__law_turn vs) H := by
  obtain ⟨B, v, c, L, rfl, hl, hv, F, hz, hmt, k⟩ := h
  have hsf := F.sf
  have slt : ∀ e ∈ L.flatten, seat L e < L.length := fun e he => by
    obtain ⟨l, h1, _⟩ := seat_row he
    exact (List.getElem?_eq_some_iff.mp h1).1
  -- stay = _law_core(drawing)
  refine q_set (call_core (v_var rfl) hl hv F hmt) ?_
  rintro s H1 ⟨B1, st, e1, hs, C⟩
  -- good
  refine q_set (P := fun w H' => ∃ B' gs, Ext B H B' H' ∧ Ex B1 B' ∧ LN K B' w gs ∧ gs.length ≤ 1000 ∧ ∀ x, x ∈ gs ↔ x ∈ L.flatten ∧ st x = true) (n_lcW (n_sortD (v_var rfl) (hs.le e1.le)) ?_) ?_
  · rintro w H2 ⟨r, zs, hr, rfl, rfl, hz1, _⟩
    have e2 := e1.trans (Ext.new e1.le hr (o := .lst (zs.map nv)))
    have hzl : zs.length ≤ 1000 := by rw [hz1.length_eq]; exact hsf
    refine (n_lcN (B := upd B1 r (.lst (zs.map nv))) st nv e2.le v_c (.of upd_same) (by omega) (fun _ => rfl) (fun n H' hn e => a_b (v_get (n := n) (f := fun e => V.bl (st e)) (v_var rfl) (hs.le ((Ex.new (e1.le.free hr)).le.trans (e2.le.trans e.le))) (v_var rfl) (hz1.mem_iff.mp hn))) (fun n H' _ _ _ => v_var rfl)).mono ?_
    rintro w H' ⟨d, hd, rfl, rfl⟩
    refine ⟨_, zs.filter st, e2.trans (Ext.new e2.le hd), (Ex.new (e1.le.free hr)).trans (Ex.new (e2.le.free hd)), .of upd_same, Nat.le_trans (List.length_filter_le _ _) hzl, fun x => ?_⟩
    rw [List.mem_filter, hz1.mem_iff]
  rintro gd H2 ⟨B2, gs, e2, eb2, hg, hgl, hgs⟩
  have hs2 := hs.le eb2.le
  have hv2 := hv.le e2.bb.le
  refine q_if (b := decide (gs.length = 0)) (a_t (vas (v_eqI (v_lenN (v_var rfl) (hg.le e2.le)) v_c) (by congr 1; simp only [decide_eq_decide]; omega))) (fun hb => ?_) (fun hb => ?_)
  · have h0 : gs = [] := List.eq_nil_of_length_eq_zero (of_decide_eq_true hb)
    refine s_ret (n_lst g_nil (by simp)) ?_
    rintro w H3 ⟨r, hr, rfl, rfl⟩
    refine k _ _ _ (e2.trans (Ext.new e2.le hr)) ⟨[], .of upd_same, .inl ⟨rfl, st, C, fun e he => ?_⟩⟩
    cases hse : st e with
    | false => rfl
    | true =>
      have := (hgs e).mpr ⟨he, hse⟩
      rw [h0] at this
      cases this
  · have hgpos : 0 < gs.length := by have := of_decide_eq_false hb; omega
    -- seats
    refine q_set (call_lnum (v_var rfl) e2.le hv2 F) ?_
    rintro sd H3 ⟨B3, e3', hsd⟩
    have e3 := e2.trans e3'
    have hg3 := hg.le e3'.bb.le
    have hs3 := hs2.le e3'.bb.le
    have hv3 := hv2.le e3'.bb.le
    -- picks
    refine q_set (call_draws (B := B3) (ns := [gs.length] ++ List.replicate (L.length + 1) 840) (val_vh (v_var rfl)) ?_ (by simp; omega) (fun n hn => ?_)) ?_
    · rintro w H3 ⟨rfl, rfl⟩
      refine ⟨⟨c, rfl⟩, n_cat2 (P2 := fun u w H' => ∃ a b, u = .ref a ∧ w = .ref b ∧ Ext B3 H3 B3 H' ∧ H' a = some (.lst [nv gs.length]) ∧ H' b = some (.lst (List.replicate (L.length + 1) (.int 840)))) (n_lst (g_cons (v_lenN (v_var rfl) (hg3.le e3.le)) g_nil) (by simp)) ?_ ?_⟩
      · rintro u H4 ⟨a, ha, rfl, rfl⟩
        have e4 := (Ext.refl e3.le).own ha (o := .lst [nv gs.length])
        refine (n_rep (n := L.length + 1) v_c (fun H' e => vnat (v_add (v_lenL (v_var rfl) (hv3.le (e4.le.trans e.le))) v_c) (by omega)) (by omega)).mono ?_
        rintro w H' ⟨p, q, hp, hq, npq, rfl, rfl⟩
        have e5 := e4.own hq (o := .lst [.int 840])
        have hp5 : (upd (upd H3 a (.lst [nv gs.length])) q (.lst [.int 840])) p = none := by rw [upd_ne npq]; exact hp
        have e6 := e5.own hp5 (o := .lst (List.replicate (L.length + 1) (.int 840)))
        have nap : a ≠ p := ne_of_none upd_same hp
        have naq : a ≠ q := ne_of_none upd_same hq
        exact ⟨a, p, rfl, rfl, e6, by rw [upd_ne nap, upd_ne naq, upd_same], upd_same⟩
      · rintro u w H5 ⟨a, b, rfl, rfl, e5, ha, hb'⟩
        refine ⟨a, b, _, _, rfl, rfl, ha, hb', by simp; omega, fun d hd => ⟨_, Ext.new e5.le hd |> e5.trans, .of ?_⟩⟩
        rw [upd_same, List.map_append, List.map_replicate]; rfl
    · rcases List.mem_append.mp hn with q | q
      · rw [List.mem_singleton.mp q]; omega
      · rw [List.eq_of_mem_replicate q]; omega
    rintro pk H4 ⟨B4, ds, e4', hpk, hds⟩
    have e4 := e3.trans e4'
    have hg4 := hg3.le e4'.bb.le
    have hs4 := hs3.le e4'.bb.le
    have hv4 := hv3.le e4'.bb.le
    have hsd4 := hsd.le e4'.bb.le
    -- walk = [good[picks[0]]]
    obtain ⟨d0, hd0, hd0l⟩ := hds.at (i := 0) (n := gs.length) (by simp)
    have hw0 : gs[d0]? = some gs[d0] := List.getElem?_eq_getElem hd0l
    obtain ⟨hw0f, hw0s⟩ := (hgs _).mp (List.mem_of_getElem? hw0)
    refine q_set (n_lst (g_cons (v_ixN (v_var rfl) (hg4.le e4.le) (v_ixN (v_var rfl) (hpk.le e4.le) v_c hd0) hw0) g_nil) (by simp)) ?_
    rintro w5 H5 ⟨q, hq, rfl, rfl⟩
    have e5 := e4.own hq (o := .lst [nv gs[d0]])
    have o5 : Own H B4 _ q (.lst [nv gs[d0]]) := Own.of_new e4.hh e4.le hq
    have hlenL : ∀ (σ' : St) (H' : Hp), σ'[0]? = some (some v) → Le B4 H' → Val (tOp rAddI (tCB (rLenS K) (tCons (tVar 0) tNil)) (tC (.int 1))) σ' H' (nv (L.length + 1)) := fun σ' H' h0 le' => vnat (v_add (v_lenL (v_var h0) (hv4.le le')) v_c) (by omega)
    refine q_seq (f_rng (n := L.length + 1) (hlenL _ _ rfl e5.le) (by omega)
      (fun i σ H' => ∃ (x4 x8 x9 x10 x11 : Option V) (B' : Hp) (w : List Nat) (z : Nat), σ = [some v, some (.int c), some s, some gd, x4, some sd, some pk, some (.ref q), x8, x9, x10, x11] ∧ Ext B H B' H' ∧ Ex B4 B' ∧ Own H B' H' q (.lst ((w ++ [z]).map nv)) ∧ Pth L st (w ++ [z]) ∧ w.length = i)
      ⟨none, none, none, none, none, B4, [], gs[d0], rfl, e5, .refl _, o5, Pth.one hw0f hw0s, rfl⟩ ?_ ?_)
    · rintro i σ6 H6 hi ⟨x4, x8, x9, x10, x11, B6, w, z, rfl, e6, eb6, o6, Pw, hwl⟩
      have hzi := Pw.inn z (by simp)
      have hmz := hmt z hzi.1
      have hlast : H6 q = some (.lst (w.map nv ++ [nv z])) := by rw [o6.h, List.map_append]; rfl
      -- place = seats[mate(walk[-1])]
      refine q_setV (v_get (n := mate z) (f := fun e => nv (seat L e)) (v_var rfl) (hsd4.le (eb6.le.trans e6.le)) (call_mate (v_lastL (K := K) (v_var rfl) (.of hlast))) hmz) ?_
      -- for at in range(len(walk))
      have hmap : ∀ (j u : Nat), (w ++ [z])[j]? = some u → ((w ++ [z]).map nv)[j]? = some (nv u) := fun j u hu => by rw [List.getElem?_map, hu]; rfl
      refine q_seq (f_rng (n := (w ++ [z]).length) (v_lenN (v_var rfl) (.of o6.h)) (by simp; omega)
        (fun j σ H' => ∃ (x10 : Option V), σ = [some v, some (.int c), some s, some gd, x4, some sd, some pk, some (.ref q), some (nv i), some (nv (seat L (mate z))), x10, x11] ∧ H' = H6 ∧ ∀ u ∈ (w ++ [z]).take j, seat L u ≠ seat L (mate z))
        ⟨x10, rfl, rfl, by simp⟩ ?_ ?_)
      · rintro j σ7 H7 hj ⟨x10, rfl, h7, hno⟩
        subst h7
        have hu : (w ++ [z])[j]? = some (w ++ [z])[j] := List.getElem?_eq_getElem hj
        generalize (w ++ [z])[j] = u at hu
        have hui := Pw.inn u (List.mem_of_getElem? hu)
        refine s_if (a_t (v_eqI (v_get (n := u) (f := fun e => nv (seat L e)) (v_var rfl) (hsd4.le (eb6.le.trans e6.le)) (v_ixL (K := K) (j := j) (v_var rfl) (v_var rfl) (.of o6.h) (hmap j u hu)) hui.1) (v_var rfl))) (fun hb2 => ?_) (fun hb2 => ?_)
        · have hse : seat L u = seat L (mate z) := by have := of_decide_eq_true hb2; omega
          refine s_ret (n_from (K := K) (j := j) (v_var rfl) (v_var rfl) (.of o6.h) (by rw [List.length_map]; omega)) ?_
          rintro w8 H8 ⟨r, hr, rfl, rfl⟩
          refine k _ _ _ (e6.trans (Ext.new e6.le hr)) ⟨(w ++ [z]).drop j, .of (by rw [upd_same, ← List.map_drop]), .inr ?_⟩
          have hdrop : (w ++ [z]).drop j = w.drop j ++ [z] := by
            rw [List.length_append, List.length_singleton] at hj
            rw [List.drop_append_of_le_length (by omega)]
          have Pd := Pw.drop j
          rw [hdrop] at Pd ⊢
          refine Pd.round (h := u) ?_ hse.symm
          rw [← hdrop, List.getElem?_drop]; exact hu
        · have hse : seat L u ≠ seat L (mate z) := by have := of_decide_eq_false hb2; omega
          refine ⟨_, rfl, rfl, fun x hx => ?_⟩
          rw [take_snoc hu] at hx
          rcases List.mem_append.mp hx with y | y
          · exact hno x y
          · rw [List.mem_singleton.mp y]; exact hse
      · rintro σ7 H7 ⟨x10, rfl, h7, hno⟩
        subst h7
        rw [List.take_length] at hno
        -- ways
        obtain ⟨l, hrow, hml⟩ := seat_row hmz
        have hlm := List.mem_of_getElem? hrow
        have hlf : ∀ e ∈ l, e ∈ L.flatten := fun e he => List.mem_flatten.mpr ⟨l, hlm, he⟩
        have hll : l.length ≤ 1000 := by
          have := F.row hrow l.length
          rw [List.take_length, List.length_append] at this
          omega
        obtain ⟨rw', hrw, hrwl⟩ := v_rowD (K := K) (σ := [some v, some (.int c), some s, some gd, x4, some sd, some pk, some (.ref q), some (nv i), some (nv (seat L (mate z))), x10, x11]) (ta := tVar 0) (tb := tVar 9) (v_var rfl) (eb6.le.trans e6.le) hv4 (v_var rfl) hrow
        refine q_set (n_lcN (B := B4) (fun x => st x && !decide (x = mate z)) nv (eb6.le.trans e6.le) hrw hrwl (by omega) (fun _ => rfl)
          (fun n H' hn e => a_and (a_b (v_get (n := n) (f := fun e => V.bl (st e)) (v_var rfl) (hs4.le (eb6.le.trans (e6.le.trans e.le))) (v_var rfl) (hlf n hn))) fun _ => a_t (vas (v_neI (v_var rfl) (call_mate (v_lastL (K := K) (v_var rfl) (.of (e q _ hlast))))) (by congr 2; simp only [decide_eq_decide]; omega))) (fun n H' _ _ _ => v_var rfl)) ?_
        rintro w8 H8 ⟨r, hr, rfl, rfl⟩
        have e8 := e6.trans (Ext.new e6.le hr (o := .lst ((l.filter fun x => st x && !decide (x = mate z)).map nv)))
        have nqr : q ≠ r := ne_of_none o6.h hr
        have o8 : Own H (upd B6 r (.lst ((l.filter fun x => st x && !decide (x = mate z)).map nv))) _ q _ := (o6.other nqr (u := .lst ((l.filter fun x => st x && !decide (x = mate z)).map nv))).frozen nqr (u := .lst ((l.filter fun x => st x && !decide (x = mate z)).map nv))
        have hw8 : LN K (upd B6 r (.lst ((l.filter fun x => st x && !decide (x = mate z)).map nv))) (.ref r) (l.filter fun x => st x && !decide (x = mate z)) := .of upd_same
        have eb8 : Ex B4 (upd B6 r (.lst ((l.filter fun x => st x && !decide (x = mate z)).map nv))) := eb6.trans (Ex.new (e6.le.free hr))
        generalize upd B6 r (.lst ((l.filter fun x => st x && !decide (x = mate z)).map nv)) = B8 at e8 o8 hw8 eb8
        generalize upd H7 r (.lst ((l.filter fun x => st x && !decide (x = mate z)).map nv)) = H8 at e8 o8 ⊢
        have hpos : 0 < (l.filter fun x => st x && !decide (x = mate z)).length := by
          refine Classical.byContradiction fun h0 => C.two l hlm ?_
          have hnil : (l.filter fun x => st x && !decide (x = mate z)) = [] := List.eq_nil_of_length_eq_zero (by omega)
          have hfl : l.filter st = (l.filter st).filter (fun x => decide (x = mate z)) := by
            refine (List.filter_eq_self.mpr fun x hx => ?_).symm
            refine Classical.byContradiction fun hne => ?_
            have : x ∈ l.filter fun x => st x && !decide (x = mate z) := List.mem_filter.mpr ⟨(List.mem_filter.mp hx).1, by rw [(List.mem_filter.mp hx).2]; simpa using hne⟩
            rw [hnil] at this
            cases this
          have hnd := (row_nodup F.nd hlm).filter st
          have hmem : mate z ∈ l.filter st := List.mem_filter.mpr ⟨hml, by rw [C.mt z hzi.1]; exact hzi.2⟩
          have p := List.perm_cons_erase hmem
          have he : (l.filter st).erase (mate z) = [] := by
            refine List.eq_nil_iff_forall_not_mem.mpr fun x hx => ?_
            have hx2 := List.mem_of_mem_erase hx
            rw [hfl] at hx2
            have := of_decide_eq_true (List.mem_filter.mp hx2).2
            subst this
            exact List.Nodup.not_mem_erase hnd hx
          rw [p.length_eq, he]; rfl
        obtain ⟨d, hd, _⟩ := hds.at (i := i + 1) (n := 840) (by
          rw [List.getElem?_append_right (by simp), List.length_singleton, Nat.add_sub_cancel, List.getElem?_replicate, if_pos hi])
        have hdl : d % (l.filter fun x => st x && !decide (x = mate z)).length < (l.filter fun x => st x && !decide (x = mate z)).length := Nat.mod_lt _ hpos
        have hx := List.getElem?_eq_getElem hdl
        generalize (l.filter fun x => st x && !decide (x = mate z))[d % (l.filter fun x => st x && !decide (x = mate z)).length] = x at hx
        obtain ⟨hxl, hxs⟩ := List.mem_filter.mp (List.mem_of_getElem? hx)
        rw [Bool.and_eq_true] at hxs
        have hxn := nd_t hxs.2
        refine s_app (v := nv x) (v_var rfl) (v_ixN (j := d % (l.filter fun x => st x && !decide (x = mate z)).length) (v_var rfl) (hw8.le e8.le) (vnat (v_mod (v_ixN (j := i + 1) (v_var rfl) (hpk.le (eb8.le.trans e8.le)) (vnat (v_add (v_var rfl) v_c) (by omega)) hd) (v_lenN (v_var rfl) (hw8.le e8.le)) (by omega)) (Int.natCast_emod _ _).symm) hx) o8.h (by simp; omega) ?_
        refine ⟨_, _, _, _, _, B8, w ++ [z], x, rfl, e8.put o8 _, eb8, by rw [show (w ++ [z] ++ [x]).map nv = (w ++ [z]).map nv ++ [nv x] from List.map_append]; exact o8.put _, ?_, by simp [hwl]⟩
        have hxseat : seat L x = seat L (mate z) := seat_eq F.nd hrow hxl
        refine Pw.snoc (hlf x hxl) hxs.1 hxseat.symm hxn ?_
        rw [hxseat]
        intro hm
        obtain ⟨u, hu1, hu2⟩ := List.mem_map.mp hm
        exact hno u hu1 hu2
    · rintro σ6 H6 ⟨x4, x8, x9, x10, x11, B6, w, z, rfl, e6, eb6, o6, Pw, hwl⟩
      exfalso
      have := nodup_le Pw.nd (n := L.length) fun x hx => by
        obtain ⟨u, hu, rfl⟩ := List.mem_map.mp hx
        exact slt u (Pw.inn u hu).1
      simp at this; omega
end
end Rf
end
section
set_option linter.all false
set_option autoImplicit false
set_option maxRecDepth 100000
set_option maxHeartbeats 1000000
/-! P23: _law_rest, _law_one_round. -/
namespace Rf
open PySem L2
section
variable {K : PySem.W.Frag} {σ : St} {B H : Hp} {ta tb tc te tl tn : TE} {g : TG} {D : Ends}
/-! ### what is left of a drawing beside some places -/
def restRow (rows : List (List Nat)) (used : List Nat) (i : Nat) : List Nat := if i ∈ used then [] else (rows.getD i []).filter fun e => !decide (seat rows (mate e) ∈ used)
def restOf (rows : List (List Nat)) (used : List Nat) : List (List Nat) := (List.range rows.length).map (restRow rows used)
theorem restOf_at {rows : List (List Nat)} {used : List Nat} {i : Nat} {l : List Nat} (h : (restOf rows used)[i]? = some l) : ∃ r, rows[i]? = some r ∧ l.Sublist r ∧ ∀ e, e ∈ l ↔ e ∈ r ∧ i ∉ used ∧ seat rows (mate e) ∉ used := by
  unfold restOf at h
  rw [List.getElem?_map] at h
  obtain ⟨j, hj, rfl⟩ := Option.map_eq_some_iff.mp h
  have hlt := (List.getElem?_eq_some_iff.mp hj).1
  rw [List.length_range] at hlt
  rw [List.getElem?_range hlt] at hj
  cases hj
  refine ⟨rows[i], List.getElem?_eq_getElem hlt, ?_, fun e => ?_⟩
  · unfold restRow
    split
    · exact List.nil_sublist _
    · rw [List.getD_eq_getElem?_getD, List.getElem?_eq_getElem hlt]
      exact List.filter_sublist
  · unfold restRow
    split
    · rename_i hu
      simp [hu]
    · rename_i hu
      rw [List.mem_filter, List.getD_eq_getElem?_getD, List.getElem?_eq_getElem hlt]
      simp [hu]
theorem flatten_sub : ∀ {L M : List (List Nat)}, L.length = M.length → (∀ (i : Nat) (l r : List Nat), L[i]? = some l → M[i]? = some r → l.Sublist r) → L.flatten.Sublist M.flatten
  | [], M, h, _ => by
    have : M = [] := List.eq_nil_of_length_eq_zero h.symm
    subst this; simp
  | l :: L, [], h, _ => by simp at h
  | l :: L, r :: M, h, k => by
    rw [List.flatten_cons, List.flatten_cons]
    exact (k 0 l r rfl rfl).append (flatten_sub (by simpa using h) fun i a b h1 h2 => k (i + 1) a b (by simpa using h1) (by simpa using h2))
section
variable {rows : List (List Nat)} {m : Nat} {used : List Nat}
theorem restOf_len : (restOf rows used).length = rows.length := by unfold restOf; simp
theorem restOf_sub : (restOf rows used).flatten.Sublist rows.flatten := flatten_sub restOf_len fun i l r h1 h2 => by
  obtain ⟨r', hr', hs, _⟩ := restOf_at h1
  rw [h2] at hr'
  cases hr'
  exact hs
theorem restOf_few (D : Dw rows m) : Few (restOf rows used) := ⟨D.dr.nd.sublist restOf_sub, by rw [restOf_len]; have := D.sn; omega, by
  have := restOf_sub (rows := rows) (used := used).length_le
  have := D.len
  have := D.sm
  omega⟩
theorem restOf_mem (D : Dw rows m) {e : Nat} : e ∈ (restOf rows used).flatten ↔ e < 2 * m ∧ seat rows e ∉ used ∧ seat rows (mate e) ∉ used := by
  constructor
  · intro h
    obtain ⟨l, hl, he⟩ := List.mem_flatten.mp h
    obtain ⟨i, hi⟩ := List.mem_iff_getElem?.mp hl
    obtain ⟨r, hr, _, hm⟩ := restOf_at hi
    obtain ⟨h1, h2, h3⟩ := (hm e).mp he
    have := D.dr.part.num i r e hr h1
    exact ⟨D.dr.part.lt (List.mem_of_getElem? hr) h1, by rw [this]; exact h2, h3⟩
  · rintro ⟨h1, h2, h3⟩
    obtain ⟨r, hr, her⟩ := D.dr.part.row h1
    have hlt := (List.getElem?_eq_some_iff.mp hr).1
    have hlt2 : seat rows e < (restOf rows used).length := by rw [restOf_len]; exact hlt
    have hl : (restOf rows used)[seat rows e]? = some (restOf rows used)[seat rows e] := List.getElem?_eq_getElem hlt2
    obtain ⟨r', hr', _, hm⟩ := restOf_at hl
    rw [hr] at hr'
    cases hr'
    exact List.mem_flatten.mpr ⟨_, List.mem_of_getElem? hl, (hm e).mpr ⟨her, h2, h3⟩⟩
theorem restOf_mate (D : Dw rows m) : ∀ e ∈ (restOf rows used).flatten, mate e ∈ (restOf rows used).flatten := fun e h => by
  obtain ⟨h1, h2, h3⟩ := (restOf_mem D).mp h
  exact (restOf_mem D).mpr ⟨mate_lt h1, h3, by rw [mate_mate]; exact h2⟩
theorem restOf_seat (D : Dw rows m) {e : Nat} (h : e ∈ (restOf rows used).flatten) : seat (restOf rows used) e = seat rows e := by
  obtain ⟨l, hl, he⟩ := seat_row h
  obtain ⟨r, hr, _, hm⟩ := restOf_at hl
  exact (D.dr.part.num _ r e hr ((hm e).mp he).1).symm
/-- a round of the rest is a round -/
theorem restOf_rnd (D : Dw rows m) {W : List Nat} (R : Rd (restOf rows used) W) : Rnd m (seat rows) W := by
  have hs : ∀ e ∈ W, seat (restOf rows used) e = seat rows e := fun e he => restOf_seat D (R.inn e he)
  have hs2 : ∀ e ∈ W, seat (restOf rows used) (mate e) = seat rows (mate e) := fun e he => restOf_seat D (restOf_mate D e (R.inn e he))
  refine ⟨R.ne, fun e he => ((restOf_mem D).mp (R.inn e he)).1, ?_, ?_, R.ties⟩
  · have := R.wk
    unfold Wk at this ⊢
    rw [List.map_congr_left hs2, List.map_congr_left (l := W.drop 1 ++ W.take 1) (f := seat (restOf rows used)) (g := seat rows) fun e he => hs e ((rot_perm W).mem_iff.mp he)] at this
    exact this
  · have := R.places
    rw [List.map_congr_left hs] at this
    exact this
theorem Rd.rnd (D : Dw rows m) {W : List Nat} (R : Rd rows W) : Rnd m (seat rows) W := ⟨R.ne, fun e he => (D.dr.mem e).mp (R.inn e he), R.wk, R.places, R.ties⟩
theorem Rnd.len (D : Dw rows m) {W : List Nat} (R : Rnd m (seat rows) W) : W.length ≤ 500 := by
  have := nodup_le R.places (n := rows.length) fun x hx => by
    obtain ⟨e, he, rfl⟩ := List.mem_map.mp hx
    exact D.dr.part.s_lt (R.lt e he)
  rw [List.length_map] at this
  have := D.sn
  omega
theorem Rnd.wl (D : Dw rows m) {W : List Nat} (R : Rnd m (seat rows) W) : Wl rows m W := ⟨R.lt, R.wk, by have := R.len D; omega⟩
end
/-- a list of the places of some ends -/
theorem n_places {a : V} {W : List Nat} {v : V} {i j : Nat} {vs : List Nat} {rows : List (List Nat)} {m : Nat} (l : Le B H) (hl : Val tl σ H a) (hx : LN K B a W) (hz : W.length < 100000) (hw : ∀ x, wipe ((wipe σ vs).set i (some x)) vs = wipe σ vs) (hj : ∀ x, ((wipe σ vs).set i (some x))[j]? = some (some v)) (hi : ∀ x, ((wipe σ vs).set i (some x))[i]? = some (some x)) (hs : DK B v rows.flatten fun e => nv (seat rows e)) (D : Dw rows m) (hW : ∀ e ∈ W, e < 2 * m) :
    VH (tLc (iList K tl) (gName i) tYes (tDGet (tVar j) (tVar i)) vs) σ H fun w H' => ∃ B', Ext B H B' H' ∧ LN K B' w (W.map (seat rows)) :=
  (n_lcN (B := B) (fun _ => true) (fun n => nv (seat rows n)) l hl hx hz hw (fun _ _ _ _ => a_yes) (fun n H' hn e _ => v_get (n := n) (f := fun e => nv (seat rows e)) (v_var (hj _)) (hs.le (l.trans e.le)) (v_var (hi _)) ((D.dr.mem n).mpr (hW n hn)))).mono (by
    rintro w H' ⟨p, hp, rfl, rfl⟩
    refine ⟨_, Ext.new l hp, .of ?_⟩
    rw [upd_same, show W.filter (fun _ => true) = W from List.filter_eq_self.mpr fun _ _ => rfl, List.map_map]
    rfl)
def sp_rest (K : PySem.W.Frag) : Sp := fun vs H Q _ => ∃ B v1 v2 rows m W, vs = [v1, v2] ∧ Le B H ∧ LL K B v1 rows ∧ LN K B v2 W ∧ Dw rows m ∧ (∀ e ∈ W, e < 2 * m) ∧ W.length ≤ 1000 ∧ Ret B H (fun w B' => LL K B' w (restOf rows (W.map (seat rows)))) Q
theorem call_rest {v1 v2 : V} {rows : List (List Nat)} {m : Nat} {W : List Nat} (h1 : Val ta σ H v1) (h2 : Val tb σ H v2) (l : Le B H) (hv : LL K B v1 rows) (hw : LN K B v2 W) (D : Dw rows m) (hW : ∀ e ∈ W, e < 2 * m) (hz : W.length ≤ 1000) :
    VH (tCall (sp_rest K) [] E0 (tCons ta (tCons tb tNil))) σ H fun w H' => ∃ B', Ext B H B' H' ∧ LL K B' w (restOf rows (W.map (seat rows))) :=
  c_call (g_cons h1 (g_cons h2 g_nil)) fun Q q => ⟨B, v1, v2, rows, m, W, rfl, l, hv, hw, D, hW, hz, fun w B' H' e h1 => q w H' ⟨B', e, h1⟩⟩
theorem r__law_rest (vs : List V) (H : Hp) (Q : VK) (E : XK) (h : sp_rest K vs H Q E) : t__law_rest K sp_mate (sp_lnum K) { nx := fun _ H' => Q .non H', rt := Q } (L2.start N__law_rest vs) H := by
  obtain ⟨B, v1, v2, rows, m, W, rfl, hl, hv, hw, D, hW, hz, k⟩ := h
  have F := D.few
  have hsn := D.sn
  refine q_set (call_lnum (v_var rfl) hl hv F) ?_
  rintro sd H1 ⟨B1, e1, hsd⟩
  refine q_set (n_places (B := B1) (rows := rows) e1.le (v_var rfl) (hw.le e1.bb.le) (by omega) (fun _ => rfl) (fun _ => rfl) (fun _ => rfl) hsd D hW) ?_
  rintro us H2 ⟨B2, e2', hus⟩
  have e2 := e1.trans e2'
  have hsd2 := hsd.le e2'.bb.le
  have hv2 := hv.le e2.bb.le
  generalize W.map (seat rows) = used at hus k
  refine q_set (n_lst g_nil (by simp)) ?_
  rintro w3 H3 ⟨p, hp, rfl, rfl⟩
  have e3 := e2.own hp (o := .lst [])
  have o3 : Own H B2 _ p (.lst []) := Own.of_new e2.hh e2.le hp
  refine q_seq (f_rng (n := rows.length) (v_lenL (v_var rfl) (hv2.le e3.le)) (by omega)
    (fun i σ H' => ∃ (x4 x6 x7 : Option V) (B' : Hp) (ys : List V), σ = [some v1, some v2, some sd, some us, x4, some (.ref p), x6, x7] ∧ Ext B H B' H' ∧ Ex B2 B' ∧ Own H B' H' p (.lst ys) ∧ Each (LN K B') ys ((List.range i).map (restRow rows used)))
    ⟨none, none, none, B2, [], rfl, e3, .refl _, o3, Each.nil⟩ ?_ ?_)
  · rintro i σ4 H4 hi ⟨x4, x6, x7, B4, ys, rfl, e4, eb4, o4, hys⟩
    have hrow : rows[i]? = some rows[i] := List.getElem?_eq_getElem hi
    generalize hr : rows[i] = r at hrow
    have hrD : rows.getD i [] = r := by rw [List.getD_eq_getElem?_getD, hrow]; rfl
    have hrm := List.mem_of_getElem? hrow
    refine q_set (n_lst g_nil (by simp)) ?_
    rintro w5 H5 ⟨q, hq, rfl, rfl⟩
    have e5 := e4.trans (Ext.new e4.le hq (o := .lst []))
    have npq : p ≠ q := ne_of_none o4.h hq
    have o5 : Own H (upd B4 q (.lst [])) _ p _ := (o4.other npq (u := .lst [])).frozen npq (u := .lst [])
    have eb5 : Ex B4 (upd B4 q (.lst [])) := Ex.new (e4.le.free hq)
    have hq5 : LN K (upd B4 q (.lst [])) (.ref q) [] := .of upd_same
    generalize upd B4 q (.lst []) = B5 at e5 o5 eb5 hq5
    generalize upd H4 q (.lst []) = H5 at e5 o5 ⊢
    have hys5 := hys.mono (fun v x h => LN.le h eb5.le)
    refine q_join (fun σ' H' => ∃ (x4 : Option V) (w : V) (B' : Hp), σ' = [some v1, some v2, some sd, some us, x4, some (.ref p), some (nv i), some w] ∧ Ext B H B' H' ∧ Ex B5 B' ∧ Own H B' H' p (.lst ys) ∧ LN K B' w (restRow rows used i))
      (a_t (v_ninN (n := i) (v_var rfl) (v_var rfl) (hus.le (eb4.le.trans (eb5.le.trans e5.le))))) ?_ (fun hb nx hk => ?_) (fun hb nx hk => ?_)
    · rintro σ6 H6 ⟨x4, w, B6, rfl, e6, eb6, o6, hw6⟩
      have hyl : ys.length = i := by have := hys.1; simpa using this
      refine s_app (v := w) (v_var rfl) (v_var rfl) o6.h (by omega) ?_
      refine ⟨x4, _, _, B6, ys ++ [w], rfl, e6.put o6 _, eb4.trans (eb5.trans eb6), o6.put _, ?_⟩
      rw [List.range_succ, List.map_append]
      exact (hys5.mono fun v x h => LN.le h eb6.le).snoc hw6
    · have hu := nd_t hb
      obtain ⟨rw', hrw, hrwl⟩ := v_row (K := K) (B := B2) (H := H5) (σ := [some v1, some v2, some sd, some us, x4, some (.ref p), some (nv i), some (.ref q)]) (ta := tVar 0) (tb := tVar 6) (v_var rfl) (eb4.le.trans (eb5.le.trans e5.le)) hv2 (v_var rfl) hrow
      have lb : Le B2 H5 := eb4.le.trans (eb5.le.trans e5.le)
      refine s_set (n_lcN (B := B2) (fun e => !decide (seat rows (mate e) ∈ used)) nv lb hrw hrwl (by have := D.row_le hrm; omega) (fun _ => rfl)
        (fun n H' hn e => a_t (v_ninN (n := seat rows (mate n)) (v_get (n := mate n) (f := fun e => nv (seat rows e)) (v_var rfl) (hsd2.le (lb.trans e.le)) (call_mate (v_var rfl)) ((D.dr.mem _).mpr (mate_lt (D.dr.part.lt hrm hn)))) (v_var rfl) (hus.le (lb.trans e.le)))) (fun n H' _ _ _ => v_var rfl)) ?_
      rintro w6 H6 ⟨d, hd, rfl, rfl⟩
      have npd : p ≠ d := ne_of_none o5.h hd
      refine hk _ _ ⟨_, _, _, rfl, e5.trans (Ext.new e5.le hd), Ex.new (e5.le.free hd), (o5.other npd).frozen npd, ?_⟩
      unfold restRow
      rw [if_neg hu, hrD]
      exact .of upd_same
    · have hu := nd_f hb
      refine hk _ _ ⟨_, _, B5, rfl, e5, .refl _, o5, ?_⟩
      unfold restRow
      rw [if_pos hu]
      exact hq5
  · rintro σ4 H4 ⟨x4, x6, x7, B4, ys, rfl, e4, eb4, o4, hys⟩
    refine s_retV (v_var rfl) (k _ _ _ (e4.freeze o4) ?_)
    exact .of upd_same (hys.mono fun v x h => LN.le h (Ex.new o4.b).le)

/-! ### _law_one_round -/
theorem n_lstS {a : V} {ns : List Nat} (ha : Val te σ H a) (hs : LN K H a ns) : VH (tCB (rLstS K) (tCons te tNil)) σ H fun w H' => ∃ q, H q = none ∧ w = .ref q ∧ H' = upd H q (.lst (ns.map nv)) := fun Q q => by
  obtain ⟨p, rfl, hp⟩ := hs
  exact ha _ ⟨p, _, rfl, .inl hp, fun l hl => q _ _ ⟨l, hl, rfl, rfl⟩⟩
def sp_oner (K : PySem.W.Frag) : Sp := fun vs H Q _ => ∃ B v1 v2 v3 rows m W fs T C l0 l1, vs = [v1, v2, v3] ∧ Le B H ∧ LL K B v1 rows ∧ LN K B v2 W ∧ LT K B v3 fs ∧ fs.length = m ∧ Dw rows m ∧ Ring rows m ∧ Rnd m (seat rows) W ∧ Floor m rows (landsOf rows m) (beh rows) (seat rows) (seat (landsOf rows m)) T C l0 l1 (mrk (fA fs)) (mrk (fB fs)) ∧ Ret B H (fun w _ => w = .bl true) Q
theorem call_oner {v1 v2 v3 : V} {rows : List (List Nat)} {m l0 l1 : Nat} {W : List Nat} {fs : List (Int × Int)} {T C : List (Nat × Nat)} (h1 : Val ta σ H v1) (h2 : Val tb σ H v2) (h3 : Val tc σ H v3) (l : Le B H) (hv : LL K B v1 rows) (hw : LN K B v2 W) (hf : LT K B v3 fs) (hfl : fs.length = m) (D : Dw rows m) (R : Ring rows m) (hW : Rnd m (seat rows) W) (F : Floor m rows (landsOf rows m) (beh rows) (seat rows) (seat (landsOf rows m)) T C l0 l1 (mrk (fA fs)) (mrk (fB fs))) :
    VH (tCall (sp_oner K) [] E0 (tCons ta (tCons tb (tCons tc tNil)))) σ H fun w H' => ∃ B', Ext B H B' H' ∧ w = .bl true :=
  c_call (g_cons h1 (g_cons h2 (g_cons h3 g_nil))) fun Q q => ⟨B, v1, v2, v3, rows, m, W, fs, T, C, l0, l1, rfl, l, hv, hw, hf, hfl, D, R, hW, F, fun w B' H' e h1 => q w H' ⟨B', e, h1⟩⟩
/-- where the lands are not parted, the numbers are without a common divisor -/
theorem Floor.gcd {m : Nat} {rows lands : List (List Nat)} {bh st ld : Nat → Nat} {T C : List (Nat × Nat)} {l0 l1 : Nat} {a b : Nat → Int} (F : Floor m rows lands bh st ld T C l0 l1 a b) {W : List Nat} (R : Rnd m st W) {w : Nat} (hw : w ∈ W) (hr : Rch m ld W (ld w) (ld (mate w))) : Int.gcd (sm a W) (sm b W) = 1 := by
  have := F.prim R hw hr (Int.gcd_dvd_left (sm a W) (sm b W)) (Int.gcd_dvd_right (sm a W) (sm b W))
  have h3 := Int.natAbs_dvd_natAbs.mpr this
  simpa using h3
theorem r__law_one_round (vs : List V) (H : Hp) (Q : VK) (E : XK) (h : sp_oner K vs H Q E) : t__law_one_round K sp_div (sp_fill K) (sp_parted K) (sp_added K) { nx := fun _ H' => Q .non H', rt := Q } (L2.start N__law_one_round vs) H := by
  obtain ⟨B, v1, v2, v3, rows, m, W, fs, T, C, l0, l1, rfl, hl, hv, hw, hf, hfl, D, R, hW, F, k⟩ := h
  have hWl := hW.len D
  obtain ⟨w0, h0⟩ : ∃ w0, W[0]? = some w0 := ⟨_, List.getElem?_eq_getElem (List.length_pos_iff.mpr hW.ne)⟩
  have hw0 := List.mem_of_getElem? h0
  -- p, q
  refine q_two (call_added (B := B) (v_var rfl) (v_var rfl) hl hf hw (fun e he => by have := hW.lt e he; omega) (by omega)) ?_
  rintro w1 H1 ⟨B1, e1, hw1⟩
  refine ⟨_, _, hw1.le e1.le, ?_⟩
  generalize hp : sm (mrk (fA fs)) W = p
  generalize hq : sm (mrk (fB fs)) W = q
  -- parted
  refine q_set (call_parted (B := B1) (v_var rfl) (v_var rfl) e1.le (hv.le e1.bb.le) (hw.le e1.bb.le) D hW.lt (by omega) h0) ?_
  rintro w2 H2 ⟨B2, e2', rfl⟩
  have e2 := e1.trans e2'
  have hfill := F.fill hW.lt hW.wk
  rw [hp, hq] at hfill
  have h00 : ¬ Rch m (seat (landsOf rows m)) W (seat (landsOf rows m) w0) (seat (landsOf rows m) (mate w0)) ↔ p = 0 ∧ q = 0 := by
    constructor
    · intro hn
      cases W with
      | nil => cases hw0
      | cons y l =>
        simp at h0
        subst h0
        have := F.part hW hn
        rw [hp, hq] at this
        exact this
    · rintro ⟨rfl, rfl⟩ hr
      have := F.gcd hW hw0 hr
      rw [hp, hq] at this
      exact absurd this (by decide)
  have hg : ¬ (p = 0 ∧ q = 0) → Int.gcd p q = 1 := fun hn => by
    have := F.gcd hW hw0 (Classical.byContradiction fun hc => hn (h00.mp hc))
    rw [hp, hq] at this
    exact this
  rw [bb_iff h00]
  have hbb : bb (p = 0 ∧ q = 0) = (decide (p = 0) && decide (q = 0)) := by
    by_cases hc : p = 0 ∧ q = 0
    · rw [bb_t hc]; simp [hc]
    · rw [bb_f hc]
      by_cases a : p = 0
      · have b : q ≠ 0 := fun z => hc ⟨a, z⟩
        simp [a, b]
      · simp [a]
  generalize hB : bb (p = 0 ∧ q = 0) = b at hbb
  have A1 : Ans (tTest (tOp rNe (tVar 5) (tAndV (tOp rEq (tVar 3) (tC (.int 0))) (tOp rEq (tVar 4) (tC (.int 0)))))) [some v1, some v2, some v3, some (.int p), some (.int q), some (.bl b)] H2 false := by
    refine a_t (vas (v_ne (v_var rfl) (v_andV (v_eqI (v_var rfl) v_c) fun _ => v_eqI (v_var rfl) v_c) rfl) ?_)
    rw [hbb]; simp
  refine q_ifH (P := fun b' H' => b' = false ∧ ∃ B', Ext B H B' H') (fun Q' q' => A1 _ ?_) ?_
  · rw [if_neg (by decide)]
    unfold tTest tOp
    refine v_var rfl _ ?_
    refine call_fill (B := B2) (v2 := v1) (P2 := fun w H' => ∃ B', Ext B2 H2 B' H' ∧ LN K B' w W) (σ := [some v1, some v2, some v3, some (.int p), some (.int q), some (.bl b)]) (ta := tVar 0) (v_var rfl) (fun w H' ⟨B', e, h⟩ => ⟨B', e, h, v_var rfl⟩) ((n_lstS (v_var rfl) (hw.le (e2.bb.le.trans e2.le))).mono ?_) e2.le (hv.le e2.bb.le) D R (hW.wl D) hW.ne _ ?_
    · rintro w H' ⟨r, hr, rfl, rfl⟩
      exact ⟨_, Ext.new e2.le hr, .of upd_same⟩
    · rintro w H' ⟨B', r, x, e', rfl, hcase⟩
      have e3 := e2.trans e'
      rcases hcase with ⟨ht, hfl'⟩ | ⟨ht, hfl'⟩
      · have hb1 : b = true := by rw [← hB]; exact bb_t (hfill.mp hfl')
        refine ⟨r, _, 0, .str "filled", rfl, rfl, sqT_le ht e3.le, atI_nat (j := 0) rfl, ?_⟩
        refine ⟨rfl, rfl, _, rfl, ?_⟩
        refine q' _ _ ⟨?_, B', e3⟩
        rw [hb1]; simp
      · have hb1 : b = false := by rw [← hB]; exact bb_f fun z => hfl' (hfill.mpr z)
        refine ⟨r, _, 0, .str "crossed", rfl, rfl, sqT_le ht e3.le, atI_nat (j := 0) rfl, ?_⟩
        refine ⟨rfl, rfl, _, rfl, ?_⟩
        refine q' _ _ ⟨?_, B', e3⟩
        rw [hb1]; decide
  · rintro b' H3 ⟨rfl, B3, e3⟩
    rw [if_neg (by decide)]
    refine s_retV (v := .bl true) (vas (v_orV (b := decide ((Int.gcd p q : Int) = 1)) (v_var rfl) fun hb => v_eqI (call_div (v_var rfl) (v_var rfl)) v_c) ?_) (k _ _ _ e3 rfl)
    cases hb : b with
    | true => rfl
    | false =>
      have : ¬ (p = 0 ∧ q = 0) := bb_false.mp (hB.trans hb)
      rw [hg this]; rfl
end
end Rf
end
section
set_option autoImplicit false
set_option linter.all false
/-! Mj: drawings that grow tie by tie. -/
namespace Rf

/-! ### rings, turned -/
theorem Seg.rot {nx : Nat → Nat} {u v : List Nat} {a : Nat} (h : Seg nx a (u ++ v) a) : ∃ b, Seg nx b (v ++ u) b := by
  obtain ⟨b, h1, h2⟩ := Seg.append.mp h
  exact ⟨b, Seg.append.mpr ⟨a, h2, h1⟩⟩
theorem ring_beh {L : List (List Nat)} {nx : Nat → Nat} (hn : L.flatten.Nodup) (h : ∀ l ∈ L, ∃ a, Seg nx a l a) : ∀ e ∈ L.flatten, beh L e = nx e := by
  intro e he
  obtain ⟨l, hl, hel⟩ := List.mem_flatten.mp he
  obtain ⟨a, ha⟩ := h l hl
  obtain ⟨b, hb⟩ := beh_seg hn hl
  have hba : b = a := by
    cases l with
    | nil => cases hel
    | cons x l => rw [hb.1, ha.1]
  subst hba
  exact Seg.uniq hb ha e hel
theorem Seg.relast {nx ny : Nat → Nat} {l : List Nat} {z a b t : Nat} (h : Seg nx a (l ++ [z]) b) (hc : ∀ y ∈ l, ny y = nx y) (hz : ny z = t) : Seg ny a (l ++ [z]) t := by
  obtain ⟨c, h1, h2⟩ := Seg.append.mp h
  exact Seg.append.mpr ⟨c, h1.congr hc, h2.1, hz⟩
theorem ring_inj {nx : Nat → Nat} {l : List Nat} {a : Nat} (h : Seg nx a l a) (hd : l.Nodup) : ∀ x ∈ l, ∀ y ∈ l, nx x = nx y → x = y :=
  inj_of_map ((Seg.ring_map h).nodup_iff.mpr hd)
theorem ring_mem {nx : Nat → Nat} {l : List Nat} {a e : Nat} (h : Seg nx a l a) (he : e ∈ l) : nx e ∈ l := (Seg.ring_map h).mem_iff.mp (List.mem_map.mpr ⟨e, he, rfl⟩)
theorem ring_pre {nx : Nat → Nat} {l : List Nat} {a e : Nat} (h : Seg nx a l a) (he : e ∈ l) : ∃ y ∈ l, nx y = e := List.mem_map.mp ((Seg.ring_map h).mem_iff.mpr he)
theorem snoc_of {α : Type} {l : List α} (h : l ≠ []) : ∃ i z, l = i ++ [z] := ⟨l.dropLast, l.getLast h, (List.dropLast_concat_getLast h).symm⟩

/-! ### an end set ahead of another one -/
def upd1 (nx : Nat → Nat) (N f y : Nat) : Nat := if y = N then f else if nx y = f then N else nx y
theorem ring_keep {nx : Nat → Nat} {l : List Nat} {a N f : Nat} (h : Seg nx a l a) (hN : N ∉ l) (hf : f ∉ l) : Seg (upd1 nx N f) a l a := h.congr fun e he => by
  unfold upd1
  rw [if_neg (fun z => hN (by rw [← z]; exact he)), if_neg (fun z => hf (by rw [← z]; exact ring_mem h he))]
theorem ring_ins {nx : Nat → Nat} {p q : List Nat} {a N f : Nat} (h : Seg nx a (p ++ q) a) (hd : (p ++ q).Nodup) (hN : N ∉ p ++ q) (hf : (q ++ p).head? = some f) : ∃ b, Seg (upd1 nx N f) b (p ++ N :: q) b := by
  obtain ⟨b, hb⟩ := h.rot
  have hne : q ++ p ≠ [] := fun z => by rw [z] at hf; cases hf
  have hbf : b = f := by
    cases hqp : q ++ p with
    | nil => exact absurd hqp hne
    | cons y r =>
      rw [hqp] at hb hf
      cases hf
      exact hb.1
  subst hbf
  have hdr : (q ++ p).Nodup := (List.perm_append_comm.nodup_iff).mp hd
  have hNr : N ∉ q ++ p := fun z => hN (List.perm_append_comm.mem_iff.mp z)
  obtain ⟨i, z, hiz⟩ := snoc_of hne
  rw [hiz] at hb hdr hNr
  have hz : nx z = b := seg_last hb
  have inj := ring_inj hb hdr
  have h2 : Seg (upd1 nx N b) b (i ++ [z]) N := hb.relast (fun y hy => by
    unfold upd1
    rw [if_neg (fun w => hNr (by rw [← w]; simp [hy])), if_neg (fun w => ?_)]
    have := inj y (by simp [hy]) z (by simp) (by rw [w, hz])
    subst this
    rw [List.nodup_append] at hdr
    exact hdr.2.2 y hy y (by simp) rfl) (by
    unfold upd1
    rw [if_neg (fun w => hNr (by rw [← w]; simp)), if_pos hz])
  rw [← hiz] at h2
  have h3 : Seg (upd1 nx N b) N ((N :: q) ++ p) N := ⟨rfl, by
    have : upd1 nx N b N = b := by unfold upd1; rw [if_pos rfl]
    rw [this]; exact h2⟩
  exact h3.rot
/-- the row p q gets N between p and q, ahead of f -/
def InsAt (L L' : List (List Nat)) (N f : Nat) : Prop := ∃ A p q B, L = A ++ (p ++ q) :: B ∧ L' = A ++ (p ++ N :: q) :: B ∧ (q ++ p).head? = some f
section
variable {L L' : List (List Nat)} {N f : Nat}
theorem InsAt.perm (h : InsAt L L' N f) : L'.flatten.Perm (N :: L.flatten) := by
  obtain ⟨A, p, q, B, rfl, rfl, _⟩ := h
  refine List.perm_iff_count.mpr fun a => ?_
  simp only [List.flatten_append, List.flatten_cons, List.count_append, List.count_cons]
  omega
theorem InsAt.len (h : InsAt L L' N f) : L'.length = L.length := by
  obtain ⟨A, p, q, B, rfl, rfl, _⟩ := h
  simp
theorem InsAt.mem (h : InsAt L L' N f) : f ∈ L.flatten := by
  obtain ⟨A, p, q, B, rfl, rfl, h⟩ := h
  have := List.mem_of_mem_head? (by rw [h]; rfl : f ∈ (q ++ p).head?)
  simp only [List.flatten_append, List.flatten_cons, List.mem_append] at this ⊢
  rcases this with z | z
  · exact .inr (.inl (.inr z))
  · exact .inr (.inl (.inl z))
theorem InsAt.ne (h : InsAt L L' N f) (hne : ∀ r ∈ L, r ≠ []) : ∀ r ∈ L', r ≠ [] := by
  obtain ⟨A, p, q, B, rfl, rfl, h⟩ := h
  intro r hr
  rcases List.mem_append.mp hr with z | z
  · exact hne r (by simp [z])
  · rcases List.mem_cons.mp z with z | z
    · rw [z]; simp
    · exact hne r (by simp [z])
theorem InsAt.rings (h : InsAt L L' N f) (hn : L.flatten.Nodup) (hN : N ∉ L.flatten) : ∀ l ∈ L', ∃ b, Seg (upd1 (beh L) N f) b l b := by
  obtain ⟨A, p, q, B, hL, rfl, h⟩ := h
  have hm : ∀ r ∈ L, ∀ x ∈ r, x ∈ L.flatten := fun r hr x hx => List.mem_flatten.mpr ⟨r, hr, hx⟩
  have hpq : p ++ q ∈ L := by rw [hL]; simp
  have hfm : f ∈ p ++ q := by
    have := List.mem_of_mem_head? (by rw [h]; rfl : f ∈ (q ++ p).head?)
    exact List.perm_append_comm.mem_iff.mp this
  have hoth : ∀ r, r ∈ A ∨ r ∈ B → f ∉ r := by
    intro r hr hfr
    have hn2 := hn
    rw [hL, List.flatten_append, List.flatten_cons, List.nodup_append, List.nodup_append] at hn2
    rcases hr with z | z
    · exact hn2.2.2 f (List.mem_flatten.mpr ⟨r, z, hfr⟩) f (List.mem_append.mpr (.inl hfm)) rfl
    · exact hn2.2.1.2.2 f hfm f (List.mem_flatten.mpr ⟨r, z, hfr⟩) rfl
  intro l hl
  have old : ∀ r, r ∈ A ∨ r ∈ B → ∃ b, Seg (upd1 (beh L) N f) b r b := fun r hr => by
    have hrL : r ∈ L := by rw [hL]; rcases hr with z | z <;> simp [z]
    obtain ⟨a, ha⟩ := beh_seg hn hrL
    exact ⟨a, ring_keep ha (fun z => hN (hm r hrL N z)) (hoth r hr)⟩
  rcases List.mem_append.mp hl with z | z
  · exact old l (.inl z)
  · rcases List.mem_cons.mp z with z | z
    · subst z
      obtain ⟨a, ha⟩ := beh_seg hn hpq
      exact ring_ins ha (row_nodup hn hpq) (fun z => hN (hm _ hpq N z)) h
    · exact old l (.inr z)
theorem InsAt.nodup (h : InsAt L L' N f) (hn : L.flatten.Nodup) (hN : N ∉ L.flatten) : L'.flatten.Nodup := h.perm.nodup_iff.mpr (List.nodup_cons.mpr ⟨hN, hn⟩)
theorem InsAt.beh (h : InsAt L L' N f) (hn : L.flatten.Nodup) (hN : N ∉ L.flatten) : ∀ y ∈ L'.flatten, Rf.beh L' y = upd1 (Rf.beh L) N f y := ring_beh (h.nodup hn hN) (h.rings hn hN)
end
/-- the rows as the program makes them -/
def insB (e x : Nat) (r : List Nat) : List Nat := if e ∈ r then r.take (r.idxOf e) ++ [x] ++ r.drop (r.idxOf e) else r
theorem insB_at {a b : List Nat} {e x : Nat} (h : e ∉ a) : insB e x (a ++ e :: b) = a ++ x :: e :: b := by
  have hi : (a ++ e :: b).idxOf e = a.length := by
    rw [List.idxOf_append, if_neg h]
    simp
  unfold insB
  rw [if_pos (by simp), hi, List.take_left, List.drop_left]
  simp
theorem map_id_of {α : Type} {g : α → α} : ∀ {l : List α}, (∀ x ∈ l, g x = x) → l.map g = l
  | [], _ => rfl
  | x :: l, h => by rw [List.map_cons, h x (by simp), map_id_of fun y hy => h y (by simp [hy])]
theorem ins_at {L : List (List Nat)} (hn : L.flatten.Nodup) {e x : Nat} (he : e ∈ L.flatten) : InsAt L (L.map (insB e x)) x e := by
  obtain ⟨r, hr, her⟩ := List.mem_flatten.mp he
  obtain ⟨A, B, rfl⟩ := List.append_of_mem hr
  obtain ⟨a, b, rfl⟩ := List.append_of_mem her
  have hn2 := hn
  rw [List.flatten_append, List.flatten_cons, List.nodup_append, List.nodup_append] at hn2
  have hA : ∀ r ∈ A, insB e x r = r := fun r hr => by
    unfold insB
    rw [if_neg fun z => hn2.2.2 e (List.mem_flatten.mpr ⟨r, hr, z⟩) e (by simp) rfl]
  have hB : ∀ r ∈ B, insB e x r = r := fun r hr => by
    unfold insB
    rw [if_neg fun z => hn2.2.1.2.2 e (by simp) e (List.mem_flatten.mpr ⟨r, hr, z⟩) rfl]
  have ha : e ∉ a := fun z => by
    have := hn2.2.1.1
    rw [List.nodup_append] at this
    exact this.2.2 e z e (by simp) rfl
  refine ⟨A, a, e :: b, B, rfl, ?_, rfl⟩
  rw [List.map_append, List.map_cons, map_id_of hA, map_id_of hB, insB_at ha]

/-! ### a drawing that grows -/
structure Grow (rows : List (List Nat)) (m F : Nat) : Prop where
  dr : Dr rows m
  ne : ∀ r ∈ rows, r ≠ []
  pos : 0 < m
  conn : Conn m (beh rows)
  rings : Rings m (stp rows) F
theorem rings_mk {m : Nat} {nx : Nat → Nat} {L : List (List Nat)} (hp : L.flatten.Perm (List.range (2 * m))) (h : ∀ l ∈ L, l ≠ [] ∧ ∃ a, Seg nx a l a) : Rings m nx L.length :=
  ⟨L, hp.nodup_iff.mpr List.nodup_range, fun e => by rw [hp.mem_iff, List.mem_range], h, rfl⟩
theorem range_two (m : Nat) : List.range (2 * (m + 1)) = List.range (2 * m) ++ [2 * m, 2 * m + 1] := by
  rw [show 2 * (m + 1) = 2 * m + 1 + 1 from by omega, List.range_succ, List.range_succ, List.append_assoc]; rfl
theorem flatten_perm {L M : List (List Nat)} (h : L.Perm M) : L.flatten.Perm M.flatten := by
  induction h with
  | nil => exact .refl _
  | cons x _ ih => rw [List.flatten_cons, List.flatten_cons]; exact ih.append_left _
  | swap x y l =>
    refine List.perm_iff_count.mpr fun a => ?_
    simp only [List.flatten_cons, List.count_append]
    omega
  | trans _ _ a b => exact a.trans b
section
variable {rows rows1 rows2 : List (List Nat)} {m F f s : Nat}
theorem dr_ends (D : Dr rows m) : rows.flatten.Perm (List.range (2 * m)) := D.part.perm
theorem dr_of (h : rows.flatten.Perm (List.range (2 * m))) : Dr rows m := ⟨h.nodup_iff.mpr List.nodup_range, fun e => by rw [h.mem_iff, List.mem_range]⟩
/-- what the new tie does to the orders -/
structure New2 (rows rows2 : List (List Nat)) (m f s : Nat) : Prop where
  dr : Dr rows2 (m + 1)
  bM : beh rows2 (2 * m + 1) = s
  bN : beh rows2 (2 * m) = if f = s then 2 * m + 1 else f
  b : ∀ y, y < 2 * m → beh rows2 y = if beh rows y = f then 2 * m else if beh rows y = s then 2 * m + 1 else beh rows y
theorem new2 (D : Dr rows m) (hf : f < 2 * m) (hs : s < 2 * m) (i1 : InsAt rows rows1 (2 * m) f) (i2 : InsAt rows1 rows2 (2 * m + 1) s) : New2 rows rows2 m f s := by
  have hN : 2 * m ∉ rows.flatten := fun z => by have := (D.mem _).mp z; omega
  have n1 := i1.nodup D.nd hN
  have m1 : ∀ y, y ∈ rows1.flatten ↔ y = 2 * m ∨ y < 2 * m := fun y => by rw [i1.perm.mem_iff, List.mem_cons, D.mem]
  have hM : 2 * m + 1 ∉ rows1.flatten := fun z => by have := (m1 _).mp z; omega
  have m2 : ∀ y, y ∈ rows2.flatten ↔ y = 2 * m + 1 ∨ y = 2 * m ∨ y < 2 * m := fun y => by rw [i2.perm.mem_iff, List.mem_cons, m1]
  have b1 := i1.beh D.nd hN
  have b2 := i2.beh n1 hM
  refine ⟨⟨i2.nodup n1 hM, fun e => by rw [m2]; omega⟩, ?_, ?_, fun y hy => ?_⟩
  · rw [b2 _ ((m2 _).mpr (.inl rfl))]
    unfold upd1
    rw [if_pos rfl]
  · rw [b2 _ ((m2 _).mpr (.inr (.inl rfl)))]
    have : beh rows1 (2 * m) = f := by
      rw [b1 _ ((m1 _).mpr (.inl rfl))]
      unfold upd1
      rw [if_pos rfl]
    unfold upd1
    rw [if_neg (by omega), this]
  · rw [b2 _ ((m2 _).mpr (.inr (.inr hy)))]
    have : beh rows1 y = if beh rows y = f then 2 * m else beh rows y := by
      rw [b1 _ ((m1 _).mpr (.inr hy))]
      unfold upd1
      rw [if_neg (by omega)]
    unfold upd1
    rw [if_neg (by omega), this]
    by_cases h : beh rows y = f
    · rw [if_pos h, if_pos h, if_neg (by omega)]
    · rw [if_neg h, if_neg h]
theorem New2.sN (n : New2 rows rows2 m f s) : stp rows2 (2 * m) = s := by unfold stp; rw [mate_even]; exact n.bM
theorem New2.sM (n : New2 rows rows2 m f s) : stp rows2 (2 * m + 1) = if f = s then 2 * m + 1 else f := by unfold stp; rw [mate_odd]; exact n.bN
theorem New2.st (n : New2 rows rows2 m f s) {e : Nat} (he : e < 2 * m) : stp rows2 e = if stp rows e = f then 2 * m else if stp rows e = s then 2 * m + 1 else stp rows e := by unfold stp; exact n.b _ (mate_lt he)
theorem New2.conn (n : New2 rows rows2 m f s) (D : Dr rows m) (hf : f < 2 * m) (hs : s < 2 * m) (C : Conn m (beh rows)) : Conn (m + 1) (beh rows2) := by
  intro S hb hm e e' he he' hSe
  have hbN : S (2 * m) → S f := fun h => by
    have h1 := hb _ (by omega) h
    rw [n.bN] at h1
    by_cases z : f = s
    · rw [if_pos z] at h1
      have h2 := hb _ (by omega) h1
      rw [n.bM] at h2
      rw [z]; exact h2
    · rw [if_neg z] at h1; exact h1
  have hbM : S (2 * m + 1) → S s := fun h => by
    have h1 := hb _ (by omega) h
    rw [n.bM] at h1; exact h1
  have step : ∀ y, y < 2 * m → S y → S (beh rows y) := fun y hy h => by
    have h1 := hb y (by omega) h
    rw [n.b y hy] at h1
    by_cases z : beh rows y = f
    · rw [if_pos z] at h1
      rw [z]; exact hbN h1
    · rw [if_neg z] at h1
      by_cases w : beh rows y = s
      · rw [if_pos w] at h1
        rw [w]; exact hbM h1
      · rw [if_neg w] at h1; exact h1
  have all : ∀ e, e < 2 * m → S e → ∀ e', e' < 2 * m → S e' := fun e he h e' he' => C S step (fun y hy h => hm y (by omega) h) e e' he he' h
  have start : ∃ e, e < 2 * m ∧ S e := by
    rcases (by omega : e < 2 * m ∨ e = 2 * m ∨ e = 2 * m + 1) with z | z | z
    · exact ⟨e, z, hSe⟩
    · exact ⟨f, hf, hbN (by rw [← z]; exact hSe)⟩
    · exact ⟨s, hs, hbM (by rw [← z]; exact hSe)⟩
  obtain ⟨e0, h0, hS0⟩ := start
  have low := all e0 h0 hS0
  have hN : S (2 * m) := by
    obtain ⟨r, hr, hfr⟩ := D.part.row hf
    obtain ⟨a, ha⟩ := D.part.seg r (List.mem_of_getElem? hr)
    obtain ⟨y, hy, hyf⟩ := ring_pre ha hfr
    have hyl := D.part.lt (List.mem_of_getElem? hr) hy
    have h1 := hb y (by omega) (low y hyl)
    rw [n.b y hyl, if_pos hyf] at h1
    exact h1
  have hM : S (2 * m + 1) := by
    have h1 := hm _ (by omega) hN
    rw [mate_even] at h1; exact h1
  rcases (by omega : e' < 2 * m ∨ e' = 2 * m ∨ e' = 2 * m + 1) with z | z | z
  · exact low e' z
  · rw [z]; exact hN
  · rw [z]; exact hM
/-- a land, begun with one of its ends -/
theorem land_at {nx : Nat → Nat} {l : List Nat} {e : Nat} (h : ∃ a, Seg nx a l a) (he : e ∈ l) : ∃ r, (e :: r).Perm l ∧ Seg nx e (e :: r) e := by
  obtain ⟨u, v, rfl⟩ := List.append_of_mem he
  obtain ⟨a, ha⟩ := h
  obtain ⟨b, hb⟩ := ha.rot
  have hb2 : Seg nx b (e :: (v ++ u)) b := hb
  have : b = e := hb2.1
  subst this
  exact ⟨v ++ u, List.perm_append_comm (l₁ := b :: v) (l₂ := u), hb2⟩
/-- lands without f and s stay -/
theorem New2.keep (n : New2 rows rows2 m f s) {l : List Nat} {a : Nat} (h : Seg (stp rows) a l a) (hl : ∀ x ∈ l, x < 2 * m) (hf : f ∉ l) (hs : s ∉ l) : Seg (stp rows2) a l a := h.congr fun e he => by
  rw [n.st (hl e he), if_neg (fun z => hf (by rw [← z]; exact ring_mem h he)), if_neg (fun z => hs (by rw [← z]; exact ring_mem h he))]
/-- a way up to f or s, whose inner steps lead to neither -/
theorem New2.way (n : New2 rows rows2 m f s) {l : List Nat} {a b z t : Nat} (h : Seg (stp rows) a (l ++ [z]) b) (hl : ∀ x ∈ l, x < 2 * m ∧ stp rows x ≠ f ∧ stp rows x ≠ s) (hz : stp rows2 z = t) : Seg (stp rows2) a (l ++ [z]) t := h.relast (fun y hy => by
  obtain ⟨h1, h2, h3⟩ := hl y hy
  rw [n.st h1, if_neg h2, if_neg h3]) hz
theorem not_both {l : List Nat} {z : Nat} (h : (l ++ [z]).Nodup) : ∀ y ∈ l, y ≠ z := fun y hy e => by
  rw [List.nodup_append] at h
  exact h.2.2 y hy z (by simp) e
/-- two lands become one -/
theorem New2.join (n : New2 rows rows2 m f s) (D : Dr rows m) (R : Rings m (stp rows) F) (hf : f < 2 * m) (hs : s < 2 * m) (h : seat (landsOf rows m) f ≠ seat (landsOf rows m) s) : ∃ F', F = F' + 1 ∧ Rings (m + 1) (stp rows2) F' := by
  have Q := D.lands
  have I := D.inj
  have hF := R.count Q (rings_ne I)
  have hne : f ≠ s := fun z => h (by rw [z])
  obtain ⟨l1, h1, hf1⟩ := Q.row hf
  obtain ⟨l2, h2, hs2⟩ := Q.row hs
  have hm1 := List.mem_of_getElem? h1
  have hm2 := List.mem_of_getElem? h2
  have hne12 : l2 ≠ l1 := fun z => by
    subst z
    exact h (by rw [Q.num _ _ _ h1 hf1, Q.num _ _ _ h1 hs2])
  have hs1 : s ∉ l1 := fun z => h (by rw [Q.num _ _ _ h1 hf1, Q.num _ _ _ h1 z])
  have hf2 : f ∉ l2 := fun z => h (by rw [Q.num _ _ _ h2 z, Q.num _ _ _ h2 hs2])
  have p1 := List.perm_cons_erase hm1
  have hm2' : l2 ∈ (landsOf rows m).erase l1 := (List.mem_erase_of_ne hne12).mpr hm2
  have p2 := List.perm_cons_erase hm2'
  generalize hrest : ((landsOf rows m).erase l1).erase l2 = rest at p2
  have pp : (landsOf rows m).Perm (l1 :: l2 :: rest) := p1.trans (p2.cons l1)
  have hlen := pp.length_eq
  simp only [List.length_cons] at hlen
  have hrm : ∀ l ∈ rest, l ∈ landsOf rows m := fun l hl => pp.mem_iff.mpr (by simp [hl])
  have hflat := flatten_perm pp
  have hnd : (l1 ++ (l2 ++ rest.flatten)).Nodup := by
    have := hflat.nodup_iff.mp Q.nd
    simpa using this
  rw [List.nodup_append, List.nodup_append] at hnd
  obtain ⟨r1, q1, g1⟩ := land_at (Q.seg l1 hm1) hf1
  obtain ⟨r2, q2, g2⟩ := land_at (Q.seg l2 hm2) hs2
  obtain ⟨i1, z1, e1⟩ := snoc_of (l := f :: r1) (by simp)
  obtain ⟨i2, z2, e2⟩ := snoc_of (l := s :: r2) (by simp)
  have nd1 : (i1 ++ [z1]).Nodup := by rw [← e1]; exact q1.nodup_iff.mpr (Q.rnd hm1)
  have nd2 : (i2 ++ [z2]).Nodup := by rw [← e2]; exact q2.nodup_iff.mpr (Q.rnd hm2)
  have in1 : ∀ x, x ∈ i1 ++ [z1] ↔ x ∈ l1 := fun x => by rw [← e1]; exact q1.mem_iff
  have in2 : ∀ x, x ∈ i2 ++ [z2] ↔ x ∈ l2 := fun x => by rw [← e2]; exact q2.mem_iff
  rw [e1] at g1
  rw [e2] at g2
  have sz1 : stp rows z1 = f := seg_last g1
  have sz2 : stp rows z2 = s := seg_last g2
  have lt1 : ∀ x ∈ i1 ++ [z1], x < 2 * m := fun x hx => Q.lt hm1 ((in1 x).mp hx)
  have lt2 : ∀ x ∈ i2 ++ [z2], x < 2 * m := fun x hx => Q.lt hm2 ((in2 x).mp hx)
  have w1 : Seg (stp rows2) f (i1 ++ [z1]) (2 * m) := n.way g1 (fun x hx => ⟨lt1 x (by simp [hx]), fun w => not_both nd1 x hx (I.inj _ _ (lt1 x (by simp [hx])) (lt1 z1 (by simp)) (by rw [w, sz1])), fun w => hs1 ((in1 s).mp (by rw [← w]; exact ring_mem g1 (by simp [hx])))⟩) (by rw [n.st (lt1 z1 (by simp)), if_pos sz1])
  have w2 : Seg (stp rows2) s (i2 ++ [z2]) (2 * m + 1) := n.way g2 (fun x hx => ⟨lt2 x (by simp [hx]), fun w => hf2 ((in2 f).mp (by rw [← w]; exact ring_mem g2 (by simp [hx]))), fun w => not_both nd2 x hx (I.inj _ _ (lt2 x (by simp [hx])) (lt2 z2 (by simp)) (by rw [w, sz2]))⟩) (by rw [n.st (lt2 z2 (by simp)), if_neg (by rw [sz2]; exact hne.symm), if_pos sz2])
  refine ⟨rest.length + 1, by omega, ?_⟩
  have key := rings_mk (m := m + 1) (nx := stp rows2) (L := ((i1 ++ [z1]) ++ 2 * m :: ((i2 ++ [z2]) ++ [2 * m + 1])) :: rest) ?_ ?_
  · simpa using key
  · rw [range_two]
    have c0 := Q.perm
    refine List.perm_iff_count.mpr fun a => ?_
    have k1 := List.perm_iff_count.mp c0 a
    have k2 := List.perm_iff_count.mp hflat a
    have k3 := List.perm_iff_count.mp q1 a
    have k4 := List.perm_iff_count.mp q2 a
    rw [e1] at k3
    rw [e2] at k4
    simp only [List.flatten_cons, List.count_append, List.count_cons] at k1 k2 k3 k4 ⊢
    simp only [List.count_nil] at k3 k4 ⊢
    omega
  · intro l hl
    rcases List.mem_cons.mp hl with z | z
    · refine ⟨by rw [z]; simp, f, ?_⟩
      rw [z]
      refine Seg.append.mpr ⟨2 * m, w1, rfl, ?_⟩
      rw [n.sN]
      refine Seg.append.mpr ⟨2 * m + 1, w2, rfl, ?_⟩
      rw [n.sM, if_neg hne]; rfl
    · obtain ⟨a, ha⟩ := Q.seg l (hrm l z)
      refine ⟨rings_ne I l (hrm l z), a, n.keep ha (fun x hx => Q.lt (hrm l z) hx) (fun w => ?_) (fun w => ?_)⟩
      · exact hnd.2.2 f hf1 f (List.mem_append.mpr (.inr (List.mem_flatten.mpr ⟨l, z, w⟩))) rfl
      · exact hnd.2.1.2.2 s hs2 s (List.mem_flatten.mpr ⟨l, z, w⟩) rfl
/-- one land becomes two -/
theorem New2.split (n : New2 rows rows2 m f s) (D : Dr rows m) (R : Rings m (stp rows) F) (hf : f < 2 * m) (hs : s < 2 * m) (h : seat (landsOf rows m) f = seat (landsOf rows m) s) : Rings (m + 1) (stp rows2) (F + 1) := by
  have Q := D.lands
  have I := D.inj
  have hF := R.count Q (rings_ne I)
  obtain ⟨l1, h1, hf1⟩ := Q.row hf
  have hm1 := List.mem_of_getElem? h1
  have hs1 : s ∈ l1 := (Q.mem_iff h1 hs).mpr h.symm
  have pp := List.perm_cons_erase hm1
  generalize hrest : (landsOf rows m).erase l1 = rest at pp
  have hlen := pp.length_eq
  simp only [List.length_cons] at hlen
  have hrm : ∀ l ∈ rest, l ∈ landsOf rows m := fun l hl => pp.mem_iff.mpr (by simp [hl])
  have hflat := flatten_perm pp
  have hnd : (l1 ++ rest.flatten).Nodup := by
    have := hflat.nodup_iff.mp Q.nd
    simpa using this
  rw [List.nodup_append] at hnd
  have old : ∀ l ∈ rest, l ≠ [] ∧ ∃ a, Seg (stp rows2) a l a := fun l z => by
    obtain ⟨a, ha⟩ := Q.seg l (hrm l z)
    refine ⟨rings_ne I l (hrm l z), a, n.keep ha (fun x hx => Q.lt (hrm l z) hx) (fun w => ?_) (fun w => ?_)⟩
    · exact hnd.2.2 f hf1 f (List.mem_flatten.mpr ⟨l, z, w⟩) rfl
    · exact hnd.2.2 s hs1 s (List.mem_flatten.mpr ⟨l, z, w⟩) rfl
  obtain ⟨r1, q1, g1⟩ := land_at (Q.seg l1 hm1) hf1
  have nd1 : (f :: r1).Nodup := q1.nodup_iff.mpr (Q.rnd hm1)
  have lt1 : ∀ x ∈ f :: r1, x < 2 * m := fun x hx => Q.lt hm1 (q1.mem_iff.mp hx)
  have c0 := Q.perm
  by_cases hne : f = s
  · subst hne
    obtain ⟨i1, z1, e1⟩ := snoc_of (l := f :: r1) (by simp)
    rw [e1] at g1 nd1 lt1
    have sz1 : stp rows z1 = f := seg_last g1
    have nof : ∀ x ∈ i1, stp rows x ≠ f := fun x hx w => not_both nd1 x hx (I.inj _ _ (lt1 x (by simp [hx])) (lt1 z1 (by simp)) (by rw [w, sz1]))
    have w1 : Seg (stp rows2) f (i1 ++ [z1]) (2 * m) := n.way g1 (fun x hx => ⟨lt1 x (by simp [hx]), nof x hx, nof x hx⟩) (by rw [n.st (lt1 z1 (by simp)), if_pos sz1])
    have key := rings_mk (m := m + 1) (nx := stp rows2) (L := ((i1 ++ [z1]) ++ [2 * m]) :: [2 * m + 1] :: rest) ?_ ?_
    · rw [show F + 1 = (((i1 ++ [z1]) ++ [2 * m]) :: [2 * m + 1] :: rest).length by simp; omega]; exact key
    · rw [range_two]
      refine List.perm_iff_count.mpr fun a => ?_
      have k1 := List.perm_iff_count.mp c0 a
      have k2 := List.perm_iff_count.mp hflat a
      have k3 := List.perm_iff_count.mp q1 a
      rw [e1] at k3
      simp only [List.flatten_cons, List.count_append, List.count_cons] at k1 k2 k3 ⊢
      simp only [List.count_nil] at k3 ⊢
      omega
    · intro l hl
      rcases List.mem_cons.mp hl with z | z
      · refine ⟨by rw [z]; simp, f, ?_⟩
        rw [z]
        exact Seg.append.mpr ⟨2 * m, w1, rfl, n.sN⟩
      · rcases List.mem_cons.mp z with z | z
        · refine ⟨by rw [z]; simp, 2 * m + 1, ?_⟩
          rw [z]
          refine ⟨rfl, ?_⟩
          rw [n.sM, if_pos rfl]; rfl
        · exact old l z
  · have hsr : s ∈ r1 := by
      have := q1.mem_iff.mpr hs1
      rcases List.mem_cons.mp this with z | z
      · exact absurd z.symm hne
      · exact z
    obtain ⟨u, v, rfl⟩ := List.append_of_mem hsr
    have g1' : Seg (stp rows) f ((f :: u) ++ (s :: v)) f := g1
    obtain ⟨c, gu, gv⟩ := Seg.append.mp g1'
    have hc : c = s := gv.1
    subst hc
    obtain ⟨iu, zu, eu⟩ := snoc_of (l := f :: u) (by simp)
    obtain ⟨iv, zv, ev⟩ := snoc_of (l := c :: v) (by simp)
    have nd1' : ((f :: u) ++ (c :: v)).Nodup := nd1
    have lt1' : ∀ x ∈ (f :: u) ++ (c :: v), x < 2 * m := lt1
    have k3' : ∀ a, List.count a ((f :: u) ++ (c :: v)) = List.count a l1 := fun a => List.perm_iff_count.mp q1 a
    rw [eu] at gu
    rw [ev] at gv
    rw [eu, ev] at nd1' lt1' k3'
    have szu : stp rows zu = c := seg_last gu
    have szv : stp rows zv = f := seg_last gv
    rw [List.nodup_append] at nd1'
    have ltu : ∀ x ∈ iu ++ [zu], x < 2 * m := fun x hx => lt1' x (List.mem_append.mpr (.inl hx))
    have ltv : ∀ x ∈ iv ++ [zv], x < 2 * m := fun x hx => lt1' x (List.mem_append.mpr (.inr hx))
    have wu : Seg (stp rows2) f (iu ++ [zu]) (2 * m + 1) := n.way gu (fun x hx => ⟨ltu x (by simp [hx]),
      fun w => nd1'.2.2 x (by simp [hx]) zv (by simp) (I.inj _ _ (ltu x (by simp [hx])) (ltv zv (by simp)) (by rw [w, szv])),
      fun w => not_both nd1'.1 x hx (I.inj _ _ (ltu x (by simp [hx])) (ltu zu (by simp)) (by rw [w, szu]))⟩) (by rw [n.st (ltu zu (by simp)), if_neg (by rw [szu]; exact fun z => hne z.symm), if_pos szu])
    have wv : Seg (stp rows2) c (iv ++ [zv]) (2 * m) := n.way gv (fun x hx => ⟨ltv x (by simp [hx]),
      fun w => not_both nd1'.2.1 x hx (I.inj _ _ (ltv x (by simp [hx])) (ltv zv (by simp)) (by rw [w, szv])),
      fun w => nd1'.2.2 zu (by simp) x (by simp [hx]) (I.inj _ _ (ltu zu (by simp)) (ltv x (by simp [hx])) (by rw [w, szu]))⟩) (by rw [n.st (ltv zv (by simp)), if_pos szv])
    have key := rings_mk (m := m + 1) (nx := stp rows2) (L := ((iu ++ [zu]) ++ [2 * m + 1]) :: ((iv ++ [zv]) ++ [2 * m]) :: rest) ?_ ?_
    · rw [show F + 1 = (((iu ++ [zu]) ++ [2 * m + 1]) :: ((iv ++ [zv]) ++ [2 * m]) :: rest).length by simp; omega]; exact key
    · rw [range_two]
      refine List.perm_iff_count.mpr fun a => ?_
      have k1 := List.perm_iff_count.mp c0 a
      have k2 := List.perm_iff_count.mp hflat a
      have k3 := k3' a
      simp only [List.flatten_cons, List.count_append, List.count_cons] at k1 k2 k3 ⊢
      simp only [List.count_nil] at k3 ⊢
      omega
    · intro l hl
      rcases List.mem_cons.mp hl with z | z
      · refine ⟨by rw [z]; simp, f, ?_⟩
        rw [z]
        refine Seg.append.mpr ⟨2 * m + 1, wu, rfl, ?_⟩
        rw [n.sM, if_neg hne]; rfl
      · rcases List.mem_cons.mp z with z | z
        · refine ⟨by rw [z]; simp, c, ?_⟩
          rw [z]
          exact Seg.append.mpr ⟨2 * m, wv, rfl, n.sN⟩
        · exact old l z
/-- a tie more -/
theorem Grow.tie (G : Grow rows m F) (hf : f < 2 * m) (hs : s < 2 * m) : ∃ F', Grow ((rows.map (insB f (2 * m))).map (insB s (2 * m + 1))) (m + 1) F' ∧ (seat (landsOf rows m) f = seat (landsOf rows m) s → F' = F + 1) ∧ (seat (landsOf rows m) f ≠ seat (landsOf rows m) s → F = F' + 1) := by
  have D := G.dr
  have i1 := ins_at D.nd (x := 2 * m) ((D.mem f).mpr hf)
  have hN : 2 * m ∉ rows.flatten := fun z => by have := (D.mem _).mp z; omega
  have i2 := ins_at (i1.nodup D.nd hN) (x := 2 * m + 1) (e := s) (i1.perm.mem_iff.mpr (List.mem_cons.mpr (.inr ((D.mem s).mpr hs))))
  have n := new2 D hf hs i1 i2
  have ne2 := i2.ne (i1.ne G.ne)
  have cn := n.conn D hf hs G.conn
  by_cases h : seat (landsOf rows m) f = seat (landsOf rows m) s
  · exact ⟨F + 1, ⟨n.dr, ne2, by omega, cn, n.split D G.rings hf hs h⟩, fun _ => rfl, fun z => absurd h z⟩
  · obtain ⟨F', h1, h2⟩ := n.join D G.rings hf hs h
    exact ⟨F', ⟨n.dr, ne2, by omega, cn, h2⟩, fun z => absurd z h, fun _ => h1⟩
end
end Rf
end
section
set_option autoImplicit false
set_option linter.all false
/-! Mk: trees, the first loop; drawings named anew. -/
namespace Rf
section
variable {rows rows1 rows2 : List (List Nat)} {m F f s : Nat}
/-- a place more, hung on by a tie -/
theorem Grow.leaf (G : Grow rows m F) (i1 : InsAt rows rows1 (2 * m) f) : Grow (rows1 ++ [[2 * m + 1]]) (m + 1) F := by
  have D := G.dr
  have hf : f < 2 * m := (D.mem f).mp i1.mem
  have hN : 2 * m ∉ rows.flatten := fun z => by have := (D.mem _).mp z; omega
  have n1 := i1.nodup D.nd hN
  have m1 : ∀ y, y ∈ rows1.flatten ↔ y = 2 * m ∨ y < 2 * m := fun y => by rw [i1.perm.mem_iff, List.mem_cons, D.mem]
  have D2 : Dr (rows1 ++ [[2 * m + 1]]) (m + 1) := by
    refine dr_of ?_
    rw [range_two]
    refine List.perm_iff_count.mpr fun a => ?_
    have k1 := List.perm_iff_count.mp (dr_ends D) a
    have k2 := List.perm_iff_count.mp i1.perm a
    simp only [List.flatten_append, List.flatten_cons, List.flatten_nil, List.count_append, List.count_cons, List.count_nil] at k1 k2 ⊢
    omega
  have hb : ∀ y ∈ (rows1 ++ [[2 * m + 1]]).flatten, beh (rows1 ++ [[2 * m + 1]]) y = (fun y => if y = 2 * m + 1 then 2 * m + 1 else upd1 (beh rows) (2 * m) f y) y := by
    refine ring_beh D2.nd fun l hl => ?_
    rcases List.mem_append.mp hl with z | z
    · obtain ⟨b, hb⟩ := i1.rings D.nd hN l z
      exact ⟨b, hb.congr fun e he => if_neg fun w => by have := (m1 e).mp (List.mem_flatten.mpr ⟨l, z, he⟩); omega⟩
    · rw [List.mem_singleton.mp z]
      exact ⟨2 * m + 1, rfl, if_pos rfl⟩
  have bM : beh (rows1 ++ [[2 * m + 1]]) (2 * m + 1) = 2 * m + 1 := by
    rw [hb _ ((D2.mem _).mpr (by omega))]; exact if_pos rfl
  have bN : beh (rows1 ++ [[2 * m + 1]]) (2 * m) = f := by
    rw [hb _ ((D2.mem _).mpr (by omega))]
    show (if 2 * m = 2 * m + 1 then _ else upd1 (beh rows) (2 * m) f (2 * m)) = f
    rw [if_neg (by omega)]
    unfold upd1
    rw [if_pos rfl]
  have b : ∀ y, y < 2 * m → beh (rows1 ++ [[2 * m + 1]]) y = if beh rows y = f then 2 * m else beh rows y := fun y hy => by
    rw [hb _ ((D2.mem _).mpr (by omega))]
    show (if y = 2 * m + 1 then _ else upd1 (beh rows) (2 * m) f y) = _
    rw [if_neg (by omega)]
    unfold upd1
    rw [if_neg (by omega)]
  generalize hr2 : rows1 ++ [[2 * m + 1]] = rows2 at D2 bM bN b
  have hne2 : ∀ r ∈ rows2, r ≠ [] := fun r hr => by
    rw [← hr2] at hr
    rcases List.mem_append.mp hr with z | z
    · exact i1.ne G.ne r z
    · rw [List.mem_singleton.mp z]; simp
  have sN : stp rows2 (2 * m) = 2 * m + 1 := by unfold stp; rw [mate_even]; exact bM
  have sM : stp rows2 (2 * m + 1) = f := by unfold stp; rw [mate_odd]; exact bN
  have st : ∀ e, e < 2 * m → stp rows2 e = if stp rows e = f then 2 * m else stp rows e := fun e he => by unfold stp; exact b _ (mate_lt he)
  refine ⟨D2, hne2, by omega, ?_, ?_⟩
  · intro S hb hm e e' he he' hSe
    have hbN : S (2 * m) → S f := fun h => by
      have h1 := hb _ (by omega) h
      rw [bN] at h1; exact h1
    have step : ∀ y, y < 2 * m → S y → S (beh rows y) := fun y hy h => by
      have h1 := hb y (by omega) h
      rw [b y hy] at h1
      by_cases z : beh rows y = f
      · rw [if_pos z] at h1
        rw [z]; exact hbN h1
      · rw [if_neg z] at h1; exact h1
    have start : ∃ e, e < 2 * m ∧ S e := by
      rcases (by omega : e < 2 * m ∨ e = 2 * m ∨ e = 2 * m + 1) with z | z | z
      · exact ⟨e, z, hSe⟩
      · exact ⟨f, hf, hbN (by rw [← z]; exact hSe)⟩
      · have h1 := hm _ (by omega) hSe
        rw [z, mate_odd] at h1
        exact ⟨f, hf, hbN h1⟩
    obtain ⟨e0, h0, hS0⟩ := start
    have low : ∀ e', e' < 2 * m → S e' := fun e' he' => G.conn S step (fun y hy h => hm y (by omega) h) e0 e' h0 he' hS0
    have hN' : S (2 * m) := by
      obtain ⟨r, hr, hfr⟩ := D.part.row hf
      obtain ⟨a, ha⟩ := D.part.seg r (List.mem_of_getElem? hr)
      obtain ⟨y, hy, hyf⟩ := ring_pre ha hfr
      have hyl := D.part.lt (List.mem_of_getElem? hr) hy
      have h1 := hb y (by omega) (low y hyl)
      rw [b y hyl, if_pos hyf] at h1
      exact h1
    have hM' : S (2 * m + 1) := by
      have h1 := hm _ (by omega) hN'
      rw [mate_even] at h1; exact h1
    rcases (by omega : e' < 2 * m ∨ e' = 2 * m ∨ e' = 2 * m + 1) with z | z | z
    · exact low e' z
    · rw [z]; exact hN'
    · rw [z]; exact hM'
  · have Q := D.lands
    have I := D.inj
    have hF := G.rings.count Q (rings_ne I)
    obtain ⟨l1, h1, hf1⟩ := Q.row hf
    have hm1 := List.mem_of_getElem? h1
    have pp := List.perm_cons_erase hm1
    generalize hrest : (landsOf rows m).erase l1 = rest at pp
    have hlen := pp.length_eq
    simp only [List.length_cons] at hlen
    have hrm : ∀ l ∈ rest, l ∈ landsOf rows m := fun l hl => pp.mem_iff.mpr (by simp [hl])
    have hflat := flatten_perm pp
    have hnd : (l1 ++ rest.flatten).Nodup := by
      have := hflat.nodup_iff.mp Q.nd
      simpa using this
    rw [List.nodup_append] at hnd
    obtain ⟨r1, q1, g1⟩ := land_at (Q.seg l1 hm1) hf1
    obtain ⟨i1', z1, e1⟩ := snoc_of (l := f :: r1) (by simp)
    have nd1 : (i1' ++ [z1]).Nodup := by rw [← e1]; exact q1.nodup_iff.mpr (Q.rnd hm1)
    have lt1 : ∀ x ∈ i1' ++ [z1], x < 2 * m := fun x hx => Q.lt hm1 (by rw [← e1] at hx; exact q1.mem_iff.mp hx)
    rw [e1] at g1
    have sz1 : stp rows z1 = f := seg_last g1
    have w1 : Seg (stp rows2) f (i1' ++ [z1]) (2 * m) := g1.relast (fun y hy => by
      rw [st y (lt1 y (by simp [hy])), if_neg (fun w => not_both nd1 y hy (I.inj _ _ (lt1 y (by simp [hy])) (lt1 z1 (by simp)) (by rw [w, sz1])))]) (by rw [st z1 (lt1 z1 (by simp)), if_pos sz1])
    have c0 := Q.perm
    have key := rings_mk (m := m + 1) (nx := stp rows2) (L := ((i1' ++ [z1]) ++ [2 * m, 2 * m + 1]) :: rest) ?_ ?_
    · rw [show F = (((i1' ++ [z1]) ++ [2 * m, 2 * m + 1]) :: rest).length by simp; omega]; exact key
    · rw [range_two]
      refine List.perm_iff_count.mpr fun a => ?_
      have k1 := List.perm_iff_count.mp c0 a
      have k2 := List.perm_iff_count.mp hflat a
      have k3 := List.perm_iff_count.mp q1 a
      rw [e1] at k3
      simp only [List.flatten_cons, List.count_append, List.count_cons] at k1 k2 k3 ⊢
      simp only [List.count_nil] at k3 ⊢
      omega
    · intro l hl
      rcases List.mem_cons.mp hl with z | z
      · refine ⟨by rw [z]; simp, f, ?_⟩
        rw [z]
        refine Seg.append.mpr ⟨2 * m, w1, rfl, ?_⟩
        rw [sN]
        exact ⟨rfl, sM⟩
      · obtain ⟨a, ha⟩ := Q.seg l (hrm l z)
        refine ⟨rings_ne I l (hrm l z), a, ha.congr fun e he => ?_⟩
        rw [st e (Q.lt (hrm l z) he), if_neg fun w => hnd.2.2 f hf1 f (List.mem_flatten.mpr ⟨l, z, by rw [← w]; exact ring_mem ha he⟩) rfl]
theorem ins_row {rows : List (List Nat)} {i j x : Nat} {r : List Nat} (h : rows[i]? = some r) (hr : r ≠ []) (hj : j ≤ r.length) : ∃ f, InsAt rows (rows.set i (r.take j ++ [x] ++ r.drop j)) x f := by
  obtain ⟨hi, hri⟩ := List.getElem?_eq_some_iff.mp h
  have e1 : rows = rows.take i ++ r :: rows.drop (i + 1) := by
    rw [← hri, ← List.drop_eq_getElem_cons hi, List.take_append_drop]
  have hlen : 0 < (r.drop j ++ r.take j).length := by
    have := List.length_pos_iff.mpr hr
    simp; omega
  cases hd : r.drop j ++ r.take j with
  | nil => rw [hd] at hlen; simp at hlen
  | cons f t =>
    refine ⟨f, rows.take i, r.take j, r.drop j, rows.drop (i + 1), ?_, ?_, by rw [hd]; rfl⟩
    · rw [List.take_append_drop]; exact e1
    · rw [List.set_eq_take_append_cons_drop, if_pos hi]; simp
theorem base_pair : Grow [[0], [1]] 1 1 := by
  have D : Dr [[0], [1]] 1 := dr_of (by decide)
  have b0 : beh [[0], [1]] 0 = 0 := by decide
  have b1 : beh [[0], [1]] 1 = 1 := by decide
  refine ⟨D, by simp, by omega, fun S hb hm e e' he he' h => ?_, ?_⟩
  · have k0 : S 0 → S 1 := fun h => hm 0 (by omega) h
    have k1 : S 1 → S 0 := fun h => hm 1 (by omega) h
    rcases (by omega : e = 0 ∨ e = 1) with z | z <;> rcases (by omega : e' = 0 ∨ e' = 1) with w | w <;> subst z w
    · exact h
    · exact k0 h
    · exact k1 h
    · exact h
  · refine rings_mk (m := 1) (L := [[0, 1]]) (by decide) fun l hl => ?_
    rw [List.mem_singleton.mp hl]
    refine ⟨by simp, 0, rfl, ?_, ?_⟩
    · exact b1
    · show stp _ 1 = 0
      exact b0
theorem base_loop : Grow [[0, 1]] 1 2 := by
  have D : Dr [[0, 1]] 1 := dr_of (by decide)
  have b0 : beh [[0, 1]] 0 = 1 := by decide
  have b1 : beh [[0, 1]] 1 = 0 := by decide
  refine ⟨D, by simp, by omega, fun S hb hm e e' he he' h => ?_, ?_⟩
  · have k0 : S 0 → S 1 := fun h => hm 0 (by omega) h
    have k1 : S 1 → S 0 := fun h => hm 1 (by omega) h
    rcases (by omega : e = 0 ∨ e = 1) with z | z <;> rcases (by omega : e' = 0 ∨ e' = 1) with w | w <;> subst z w
    · exact h
    · exact k0 h
    · exact k1 h
    · exact h
  · refine rings_mk (m := 1) (L := [[0], [1]]) (by decide) fun l hl => ?_
    rcases List.mem_cons.mp hl with z | z
    · rw [z]
      refine ⟨by simp, 0, rfl, ?_⟩
      exact b1
    · rw [List.mem_singleton.mp z]
      refine ⟨by simp, 1, rfl, ?_⟩
      exact b0
theorem Grow.ring (G : Grow rows m F) (h : m = rows.length + F) : Ring rows m := ⟨G.dr, G.ne, G.pos, G.conn, F, G.rings, h⟩
end

/-! ### named anew -/
/-- each row turned -/
def Turned (L M : List (List Nat)) : Prop := M.length = L.length ∧ ∀ (i : Nat) (r r' : List Nat), L[i]? = some r → M[i]? = some r' → ∃ u v, r = u ++ v ∧ r' = v ++ u
theorem Turned.perm : ∀ {L M : List (List Nat)}, Turned L M → M.flatten.Perm L.flatten
  | [], M, h => by
    have : M = [] := List.eq_nil_of_length_eq_zero h.1
    subst this; exact .refl _
  | l :: L, [], h => by have := h.1; simp at this
  | l :: L, r :: M, h => by
    obtain ⟨u, v, rfl, rfl⟩ := h.2 0 l r rfl rfl
    rw [List.flatten_cons, List.flatten_cons]
    exact List.Perm.append List.perm_append_comm (Turned.perm ⟨by have := h.1; simpa using this, fun i a b h1 h2 => h.2 (i + 1) a b (by simpa using h1) (by simpa using h2)⟩)
theorem Turned.from {L M : List (List Nat)} (h : Turned L M) {r' : List Nat} (hr : r' ∈ M) : ∃ u v, u ++ v ∈ L ∧ r' = v ++ u := by
  obtain ⟨i, hi⟩ := List.mem_iff_getElem?.mp hr
  have hlt : i < L.length := by rw [← h.1]; exact (List.getElem?_eq_some_iff.mp hi).1
  obtain ⟨u, v, h1, h2⟩ := h.2 i _ r' (List.getElem?_eq_getElem hlt) hi
  exact ⟨u, v, h1 ▸ List.getElem_mem hlt, h2⟩
theorem Seg.mapf {nx ny : Nat → Nat} {g : Nat → Nat} : ∀ {l : List Nat} {a b : Nat}, Seg nx a l b → (∀ e ∈ l, ny (g e) = g (nx e)) → Seg ny (g a) (l.map g) (g b)
  | [], _, _, h, _ => by cases h; rfl
  | x :: l, a, b, h, k => by
    refine ⟨by rw [h.1], ?_⟩
    rw [k x (by simp)]
    exact Seg.mapf h.2 fun e he => k e (by simp [he])
/-- few unlike numbers below n, as many as n, are all of them -/
theorem all_of {l : List Nat} {n : Nat} (hn : l.Nodup) (hl : ∀ x ∈ l, x < n) (hz : n ≤ l.length) : l.Perm (List.range n) := by
  refine (List.perm_ext_iff_of_nodup hn List.nodup_range).mpr fun x => ?_
  rw [List.mem_range]
  refine ⟨hl x, fun hx => Classical.byContradiction fun hc => ?_⟩
  have := nodup_le (l := x :: l) (n := n) (List.nodup_cons.mpr ⟨hc, hn⟩) fun y hy => by
    rcases List.mem_cons.mp hy with z | z
    · rw [z]; exact hx
    · exact hl y z
  simp at this
  omega
theorem map_flatten (g : Nat → Nat) : ∀ L : List (List Nat), (L.map (List.map g)).flatten = L.flatten.map g
  | [] => rfl
  | l :: L => by rw [List.map_cons, List.flatten_cons, List.flatten_cons, List.map_append, map_flatten g L]
theorem Ring.renamed {rows rows1 rows' : List (List Nat)} {m : Nat} (R : Ring rows m) (ν : Nat → Nat) (hl : ∀ e, e < 2 * m → ν e < 2 * m) (hi : ∀ e e', e < 2 * m → e' < 2 * m → ν e = ν e' → e = e') (hm : ∀ e, e < 2 * m → ν (mate e) = mate (ν e))
    (hp : rows1.Perm (rows.map (List.map ν))) (ht : Turned rows1 rows') : Ring rows' m := by
  have D := R.dr
  have P := D.part
  have pν : ((List.range (2 * m)).map ν).Perm (List.range (2 * m)) := all_of (map_nodup List.nodup_range fun x hx y hy e => hi x y (List.mem_range.mp hx) (List.mem_range.mp hy) e) (fun x hx => by
    obtain ⟨e, he, rfl⟩ := List.mem_map.mp hx
    exact hl e (List.mem_range.mp he)) (by simp)
  have onto : ∀ y, y < 2 * m → ∃ e, e < 2 * m ∧ ν e = y := fun y hy => by
    obtain ⟨e, he, h⟩ := List.mem_map.mp (pν.mem_iff.mpr (List.mem_range.mpr hy))
    exact ⟨e, List.mem_range.mp he, h⟩
  have pf : rows'.flatten.Perm (List.range (2 * m)) := by
    refine ht.perm.trans ((flatten_perm hp).trans ?_)
    rw [map_flatten]
    exact ((dr_ends D).map ν).trans pν
  have D' := dr_of pf
  -- the way back
  have hμ : ∃ μ : Nat → Nat, ∀ e, e < 2 * m → μ (ν e) = e := by
    refine ⟨fun y => ((List.range (2 * m)).map ν).idxOf y, fun e he => ?_⟩
    exact idxOf_at (pν.nodup_iff.mpr List.nodup_range) (by rw [List.getElem?_map, List.getElem?_range he]; rfl)
  obtain ⟨μ, hμ⟩ := hμ
  have from1 : ∀ r' ∈ rows', ∃ r ∈ rows, ∃ u v, u ++ v = r.map ν ∧ r' = v ++ u := fun r' hr' => by
    obtain ⟨u, v, h1, h2⟩ := ht.from hr'
    obtain ⟨r, hr, h3⟩ := List.mem_map.mp (hp.mem_iff.mp h1)
    exact ⟨r, hr, u, v, h3.symm, h2⟩
  have hb : ∀ e, e < 2 * m → beh rows' (ν e) = ν (beh rows e) := fun e he => by
    have := ring_beh (nx := fun y => ν (beh rows (μ y))) D'.nd (fun r' hr' => by
      obtain ⟨r, hr, u, v, h1, rfl⟩ := from1 r' hr'
      obtain ⟨a, ha⟩ := P.seg r hr
      have h2 := ha.mapf (ny := fun y => ν (beh rows (μ y))) (g := ν) fun e he => by
        show ν (beh rows (μ (ν e))) = ν (beh rows e)
        rw [hμ e (P.lt hr he)]
      rw [← h1] at h2
      exact h2.rot) (ν e) ((D'.mem _).mpr (hl e he))
    rw [this]
    show ν (beh rows (μ (ν e))) = ν (beh rows e)
    rw [hμ e he]
  have hs : ∀ e, e < 2 * m → stp rows' (ν e) = ν (stp rows e) := fun e he => by
    unfold stp
    rw [← hm e he, hb _ (mate_lt he)]
  have hlen : rows'.length = rows.length := by
    rw [ht.1, hp.length_eq, List.length_map]
  refine ⟨D', fun r' hr' => ?_, R.pos, fun S hb' hm' e e' he he' h => ?_, ?_⟩
  · obtain ⟨r, hr, u, v, h1, rfl⟩ := from1 r' hr'
    intro hz
    have : u ++ v = [] := by
      rw [List.append_eq_nil_iff] at hz ⊢
      exact hz.symm
    rw [this] at h1
    exact R.ne r hr (List.map_eq_nil_iff.mp h1.symm)
  · obtain ⟨x, hx, rfl⟩ := onto e he
    obtain ⟨y, hy, rfl⟩ := onto e' he'
    exact R.conn (fun z => S (ν z)) (fun z hz h => by
      have := hb' (ν z) (hl z hz) h
      rw [hb z hz] at this
      exact this) (fun z hz h => by
      show S (ν (mate z))
      rw [hm z hz]
      exact hm' (ν z) (hl z hz) h) x y hx hy h
  · obtain ⟨F, ⟨L, h1, h2, h3, h4⟩, hF⟩ := R.euler
    have hLp : L.flatten.Perm (List.range (2 * m)) := (List.perm_ext_iff_of_nodup h1 List.nodup_range).mpr fun e => by rw [h2, List.mem_range]
    refine ⟨(L.map (List.map ν)).length, rings_mk ?_ fun l hl' => ?_, by rw [List.length_map, h4, hlen]; exact hF⟩
    · rw [map_flatten]
      exact (hLp.map ν).trans pν
    · obtain ⟨r, hr, rfl⟩ := List.mem_map.mp hl'
      obtain ⟨hne, a, ha⟩ := h3 r hr
      refine ⟨fun z => hne (List.map_eq_nil_iff.mp z), ν a, ha.mapf fun e he => hs e ((h2 e).mp (List.mem_flatten.mpr ⟨r, hr, he⟩))⟩
theorem Ring.turned {rows rows' : List (List Nat)} {m : Nat} (R : Ring rows m) (ht : Turned rows rows') : Ring rows' m :=
  R.renamed (rows1 := rows) id (fun _ h => h) (fun _ _ _ _ h => h) (fun _ _ => rfl) (by simp) ht
end Rf
end
section
set_option autoImplicit false
set_option linter.all false
/-! Ml: the drawings of fours and of threes. -/
namespace Rf
/-- places in rows and columns, closed both ways -/
structure Tor (n : Nat) (rt lf up bl : Nat → Nat) : Prop where
  pos : 0 < n
  lt : ∀ p, p < n → rt p < n ∧ lf p < n ∧ up p < n ∧ bl p < n
  rl : ∀ p, p < n → rt (lf p) = p
  lr : ∀ p, p < n → lf (rt p) = p
  ub : ∀ p, p < n → up (bl p) = p
  bu : ∀ p, p < n → bl (up p) = p
  com : ∀ p, p < n → up (rt p) = rt (up p)
  conn : ∀ S : Nat → Prop, (∀ p, p < n → S p → S (rt p) ∧ S (lf p) ∧ S (up p) ∧ S (bl p)) → ∀ p q, p < n → q < n → S p → S q
theorem Perm_of_cover {l : List Nat} {n : Nat} (hz : l.length = n) (h : ∀ x, x < n → x ∈ l) : l.Perm (List.range n) := by
  have key : ∀ (k l : List Nat), k.Nodup → (∀ x ∈ k, x ∈ l) → l.length = k.length → l.Perm k := by
    intro k
    induction k with
    | nil => intro l _ _ h; rw [List.eq_nil_of_length_eq_zero h]
    | cons a k ih =>
      intro l hn hs hz
      rw [List.nodup_cons] at hn
      have ha := hs a (by simp)
      have p := List.perm_cons_erase ha
      have := ih (l.erase a) hn.2 (fun x hx => (List.mem_erase_of_ne fun z => hn.1 (by rw [← z]; exact hx)).mpr (hs x (by simp [hx]))) (by rw [List.length_erase_of_mem ha, hz]; simp)
      exact p.trans (this.cons a)
  exact key (List.range n) l List.nodup_range (fun x hx => h x (List.mem_range.mp hx)) (by rw [hz, List.length_range])
theorem flat_len {n c : Nat} {g : Nat → List Nat} (h : ∀ p, (g p).length = c) : ((List.range n).map g).flatten.length = c * n := by
  induction n with
  | zero => rfl
  | succ n ih => rw [List.range_succ, List.map_append, List.flatten_append, List.length_append, ih]; simp [h]; rw [Nat.mul_succ]
section
variable {n : Nat} {rt lf up bl : Nat → Nat}
/-! ### fours -/
def row4 (lf bl : Nat → Nat) (p : Nat) : List Nat := [4 * p + 2, 4 * p, 4 * bl p + 3, 4 * lf p + 1]
def rows4 (n : Nat) (lf bl : Nat → Nat) : List (List Nat) := (List.range n).map (row4 lf bl)
def nx4 (rt lf up bl : Nat → Nat) (e : Nat) : Nat :=
  if e % 4 = 2 then e - 2 else if e % 4 = 0 then 4 * bl (e / 4) + 3 else if e % 4 = 3 then 4 * lf (up (e / 4)) + 1 else 4 * rt (e / 4) + 2
theorem nx4_2 (p : Nat) : nx4 rt lf up bl (4 * p + 2) = 4 * p := by unfold nx4; rw [if_pos (by omega)]; omega
theorem nx4_0 (p : Nat) : nx4 rt lf up bl (4 * p) = 4 * bl p + 3 := by
  unfold nx4; rw [if_neg (by omega), if_pos (by omega), show 4 * p / 4 = p by omega]
theorem nx4_3 (p : Nat) : nx4 rt lf up bl (4 * p + 3) = 4 * lf (up p) + 1 := by
  unfold nx4; rw [if_neg (by omega), if_neg (by omega), if_pos (by omega), show (4 * p + 3) / 4 = p by omega]
theorem nx4_1 (p : Nat) : nx4 rt lf up bl (4 * p + 1) = 4 * rt p + 2 := by
  unfold nx4; rw [if_neg (by omega), if_neg (by omega), if_neg (by omega), show (4 * p + 1) / 4 = p by omega]
theorem mod4 (e : Nat) : ∃ p, e = 4 * p ∨ e = 4 * p + 1 ∨ e = 4 * p + 2 ∨ e = 4 * p + 3 := ⟨e / 4, by omega⟩
theorem Tor.fours (t : Tor n rt lf up bl) : Ring (rows4 n lf bl) (2 * n) := by
  have mem : ∀ p x, p < n → x ∈ row4 lf bl p → x ∈ (rows4 n lf bl).flatten := fun p x hp hx => List.mem_flatten.mpr ⟨_, List.mem_map.mpr ⟨p, List.mem_range.mpr hp, rfl⟩, hx⟩
  have pf : (rows4 n lf bl).flatten.Perm (List.range (2 * (2 * n))) := by
    refine Perm_of_cover (by unfold rows4; rw [flat_len (c := 4) fun p => rfl]; omega) fun e he => ?_
    obtain ⟨p, h⟩ := mod4 e
    have hp : p < n := by omega
    obtain ⟨h1, h2, h3, h4⟩ := t.lt p hp
    rcases h with h | h | h | h
    · exact mem p e hp (by simp [row4, h])
    · exact mem (rt p) e h1 (by simp [row4, h, t.lr p hp])
    · exact mem p e hp (by simp [row4, h])
    · exact mem (up p) e h3 (by simp [row4, h, t.bu p hp])
  have D := dr_of pf
  have hb : ∀ e, e < 4 * n → beh (rows4 n lf bl) e = nx4 rt lf up bl e := fun e he => by
    refine ring_beh D.nd (fun l hl => ?_) e ((D.mem e).mpr (by omega))
    obtain ⟨p, hp, rfl⟩ := List.mem_map.mp hl
    rw [List.mem_range] at hp
    refine ⟨4 * p + 2, rfl, nx4_2 p, nx4_0 p, ?_, ?_⟩
    · rw [nx4_3, t.ub p hp]
    · rw [nx4_1, t.rl p hp]; rfl
  have ne : ∀ r ∈ rows4 n lf bl, r ≠ [] := fun r hr => by
    obtain ⟨p, _, rfl⟩ := List.mem_map.mp hr
    simp [row4]
  have hlen : (rows4 n lf bl).length = n := by unfold rows4; simp
  have k4 : ∀ e, e < 2 * (2 * n) → e < 4 * n := fun e h => by omega
  have tp := t.pos
  refine ⟨D, ne, by omega, fun S hS hm e e' he he' h => ?_, n, ?_, by rw [hlen]; omega⟩
  · have nxS : ∀ e, e < 4 * n → S e → S (nx4 rt lf up bl e) := fun e he h => by
      have := hS e (by omega) h
      rw [hb e he] at this; exact this
    -- all ends at p
    have c0 : ∀ p, p < n → S (4 * p) → S (4 * bl p + 3) := fun p hp h => by have := nxS _ (by omega) h; rwa [nx4_0] at this
    have c3 : ∀ p, p < n → S (4 * bl p + 3) → S (4 * lf p + 1) := fun p hp h => by
      have := nxS _ (by have := (t.lt p hp).2.2.2; omega) h; rwa [nx4_3, t.ub p hp] at this
    have c1 : ∀ p, p < n → S (4 * lf p + 1) → S (4 * p + 2) := fun p hp h => by
      have := nxS _ (by have := (t.lt p hp).2.1; omega) h; rwa [nx4_1, t.rl p hp] at this
    have c2 : ∀ p, p < n → S (4 * p + 2) → S (4 * p) := fun p hp h => by have := nxS _ (by omega) h; rwa [nx4_2] at this
    have m0 : ∀ p, p < n → S (4 * p) → S (4 * p + 1) := fun p hp h => by
      have := hm _ (by omega) h; rw [show 4 * p = 2 * (2 * p) by omega, mate_even] at this; rwa [show 4 * p + 1 = 2 * (2 * p) + 1 by omega]
    have m1 : ∀ p, p < n → S (4 * p + 1) → S (4 * p) := fun p hp h => by
      have := hm _ (by omega) h; rw [show 4 * p + 1 = 2 * (2 * p) + 1 by omega, mate_odd] at this; rwa [show 4 * p = 2 * (2 * p) by omega]
    have m2 : ∀ p, p < n → S (4 * p + 2) → S (4 * p + 3) := fun p hp h => by
      have := hm _ (by omega) h; rw [show 4 * p + 2 = 2 * (2 * p + 1) by omega, mate_even] at this; rwa [show 4 * p + 3 = 2 * (2 * p + 1) + 1 by omega]
    have m3 : ∀ p, p < n → S (4 * p + 3) → S (4 * p + 2) := fun p hp h => by
      have := hm _ (by omega) h; rw [show 4 * p + 3 = 2 * (2 * p + 1) + 1 by omega, mate_odd] at this; rwa [show 4 * p + 2 = 2 * (2 * p + 1) by omega]
    have f1 : ∀ p, p < n → S (4 * p + 1) → S (4 * rt p) := fun p hp h => c2 _ (t.lt p hp).1 (by have := nxS _ (by omega) h; rwa [nx4_1] at this)
    have f3 : ∀ p, p < n → S (4 * p + 3) → S (4 * up p) := fun p hp h => by
      have hu := (t.lt p hp).2.2.1
      refine c2 _ hu (c1 _ hu (c3 _ hu ?_))
      rw [t.bu p hp]; exact h
    have close : ∀ p, p < n → S (4 * p) → S (4 * rt p) ∧ S (4 * lf p) ∧ S (4 * up p) ∧ S (4 * bl p) := fun p hp h => by
      obtain ⟨l1, l2, l3, l4⟩ := t.lt p hp
      have a3 := c0 p hp h
      have a1 := c3 p hp a3
      have a2 := c1 p hp a1
      exact ⟨f1 p hp (m0 p hp h), m1 _ l2 a1, f3 p hp (m2 p hp a2), c2 _ l4 (m3 _ l4 a3)⟩
    have start : ∃ p, p < n ∧ S (4 * p) := by
      obtain ⟨p, hc⟩ := mod4 e
      have hp : p < n := by omega
      rcases hc with z | z | z | z <;> rw [z] at h
      · exact ⟨p, hp, h⟩
      · exact ⟨rt p, (t.lt p hp).1, f1 p hp h⟩
      · exact ⟨p, hp, c2 p hp h⟩
      · exact ⟨up p, (t.lt p hp).2.2.1, f3 p hp h⟩
    obtain ⟨p, hp, hpS⟩ := start
    obtain ⟨q, hc⟩ := mod4 e'
    have hq : q < n := by omega
    have all := fun q hq => t.conn (fun p => S (4 * p)) close p q hp hq hpS
    have h0 := all q hq
    rcases hc with z | z | z | z <;> rw [z]
    · exact h0
    · exact m0 q hq h0
    · exact c1 q hq (c3 q hq (c0 q hq h0))
    · exact m2 q hq (c1 q hq (c3 q hq (c0 q hq h0)))
  · have key := rings_mk (m := 2 * n) (nx := stp (rows4 n lf bl)) (L := (List.range n).map fun p => [4 * p, 4 * rt p + 2, 4 * up p + 1, 4 * p + 3]) ?_ ?_
    · simpa using key
    · refine Perm_of_cover (by rw [flat_len (c := 4) fun p => rfl]; omega) fun e he => ?_
      have mem2 : ∀ p x, p < n → x ∈ [4 * p, 4 * rt p + 2, 4 * up p + 1, 4 * p + 3] → x ∈ ((List.range n).map fun p => [4 * p, 4 * rt p + 2, 4 * up p + 1, 4 * p + 3]).flatten := fun p x hp hx => List.mem_flatten.mpr ⟨_, List.mem_map.mpr ⟨p, List.mem_range.mpr hp, rfl⟩, hx⟩
      obtain ⟨p, h⟩ := mod4 e
      have hp : p < n := by omega
      obtain ⟨h1, h2, h3, h4⟩ := t.lt p hp
      rcases h with h | h | h | h
      · exact mem2 p e hp (by simp [h])
      · exact mem2 (bl p) e h4 (by simp [h, t.ub p hp])
      · exact mem2 (lf p) e h2 (by simp [h, t.rl p hp])
      · exact mem2 p e hp (by simp [h])
    · intro l hl
      obtain ⟨p, hp, rfl⟩ := List.mem_map.mp hl
      rw [List.mem_range] at hp
      obtain ⟨h1, h2, h3, h4⟩ := t.lt p hp
      have s0 : ∀ q, q < n → stp (rows4 n lf bl) (4 * q) = 4 * rt q + 2 := fun q hq => by
        unfold stp; rw [show 4 * q = 2 * (2 * q) by omega, mate_even, show 2 * (2 * q) + 1 = 4 * q + 1 by omega, hb _ (by omega), nx4_1]
      have s1 : ∀ q, q < n → stp (rows4 n lf bl) (4 * q + 1) = 4 * bl q + 3 := fun q hq => by
        unfold stp; rw [show 4 * q + 1 = 2 * (2 * q) + 1 by omega, mate_odd, show 2 * (2 * q) = 4 * q by omega, hb _ (by omega), nx4_0]
      have s2 : ∀ q, q < n → stp (rows4 n lf bl) (4 * q + 2) = 4 * lf (up q) + 1 := fun q hq => by
        unfold stp; rw [show 4 * q + 2 = 2 * (2 * q + 1) by omega, mate_even, show 2 * (2 * q + 1) + 1 = 4 * q + 3 by omega, hb _ (by omega), nx4_3]
      have s3 : ∀ q, q < n → stp (rows4 n lf bl) (4 * q + 3) = 4 * q := fun q hq => by
        unfold stp; rw [show 4 * q + 3 = 2 * (2 * q + 1) + 1 by omega, mate_odd, show 2 * (2 * q + 1) = 4 * q + 2 by omega, hb _ (by omega), nx4_2]
      refine ⟨by simp, 4 * p, rfl, s0 p hp, ?_, ?_, ?_⟩
      · rw [s2 _ h1, t.com p hp, t.lr _ h3]
      · rw [s1 _ h3, t.bu p hp]
      · rw [s3 p hp]; rfl

/-! ### threes -/
def row6 (lf bl : Nat → Nat) (p : Nat) : List Nat := [6 * p + 2, 6 * p + 4, 6 * p, 6 * bl p + 3, 6 * bl (lf p) + 5, 6 * lf p + 1]
def rows6 (n : Nat) (lf bl : Nat → Nat) : List (List Nat) := (List.range n).map (row6 lf bl)
def nx6 (rt lf up bl : Nat → Nat) (e : Nat) : Nat :=
  if e % 6 = 2 then e + 2 else if e % 6 = 4 then e - 4 else if e % 6 = 0 then 6 * bl (e / 6) + 3 else if e % 6 = 3 then 6 * lf (e / 6) + 5 else if e % 6 = 5 then 6 * up (e / 6) + 1 else 6 * rt (e / 6) + 2
theorem nx6_2 (p : Nat) : nx6 rt lf up bl (6 * p + 2) = 6 * p + 4 := by unfold nx6; rw [if_pos (by omega)]
theorem nx6_4 (p : Nat) : nx6 rt lf up bl (6 * p + 4) = 6 * p := by unfold nx6; rw [if_neg (by omega), if_pos (by omega)]; omega
theorem nx6_0 (p : Nat) : nx6 rt lf up bl (6 * p) = 6 * bl p + 3 := by
  unfold nx6; rw [if_neg (by omega), if_neg (by omega), if_pos (by omega), show 6 * p / 6 = p by omega]
theorem nx6_3 (p : Nat) : nx6 rt lf up bl (6 * p + 3) = 6 * lf p + 5 := by
  unfold nx6; rw [if_neg (by omega), if_neg (by omega), if_neg (by omega), if_pos (by omega), show (6 * p + 3) / 6 = p by omega]
theorem nx6_5 (p : Nat) : nx6 rt lf up bl (6 * p + 5) = 6 * up p + 1 := by
  unfold nx6; rw [if_neg (by omega), if_neg (by omega), if_neg (by omega), if_neg (by omega), if_pos (by omega), show (6 * p + 5) / 6 = p by omega]
theorem nx6_1 (p : Nat) : nx6 rt lf up bl (6 * p + 1) = 6 * rt p + 2 := by
  unfold nx6; rw [if_neg (by omega), if_neg (by omega), if_neg (by omega), if_neg (by omega), if_neg (by omega), show (6 * p + 1) / 6 = p by omega]
theorem mod6 (e : Nat) : ∃ p, e = 6 * p ∨ e = 6 * p + 1 ∨ e = 6 * p + 2 ∨ e = 6 * p + 3 ∨ e = 6 * p + 4 ∨ e = 6 * p + 5 := ⟨e / 6, by omega⟩
theorem Tor.com2 (t : Tor n rt lf up bl) (p : Nat) (hp : p < n) : bl (lf p) = lf (bl p) := by
  obtain ⟨h1, h2, h3, h4⟩ := t.lt p hp
  have hlb := (t.lt _ h4).2.1
  -- up of both
  have e1 : up (lf (bl p)) = lf p := by
    have := t.com _ hlb
    rw [t.rl _ h4, t.ub p hp] at this
    have h5 := (t.lt _ hlb).2.2.1
    rw [← t.lr _ h5, ← this]
  rw [← e1, t.bu _ hlb]
theorem Tor.threes (t : Tor n rt lf up bl) : Ring (rows6 n lf bl) (3 * n) := by
  have mem : ∀ p x, p < n → x ∈ row6 lf bl p → x ∈ (rows6 n lf bl).flatten := fun p x hp hx => List.mem_flatten.mpr ⟨_, List.mem_map.mpr ⟨p, List.mem_range.mpr hp, rfl⟩, hx⟩
  have pf : (rows6 n lf bl).flatten.Perm (List.range (2 * (3 * n))) := by
    refine Perm_of_cover (by unfold rows6; rw [flat_len (c := 6) fun p => rfl]; omega) fun e he => ?_
    obtain ⟨p, h⟩ := mod6 e
    have hp : p < n := by omega
    obtain ⟨h1, h2, h3, h4⟩ := t.lt p hp
    rcases h with h | h | h | h | h | h
    · exact mem p e hp (by simp [row6, h])
    · exact mem (rt p) e h1 (by simp [row6, h, t.lr p hp])
    · exact mem p e hp (by simp [row6, h])
    · exact mem (up p) e h3 (by simp [row6, h, t.bu p hp])
    · exact mem p e hp (by simp [row6, h])
    · exact mem (rt (up p)) e (t.lt _ h3).1 (by simp [row6, h, t.lr _ h3, t.bu p hp])
  have D := dr_of pf
  have hb : ∀ e, e < 6 * n → beh (rows6 n lf bl) e = nx6 rt lf up bl e := fun e he => by
    refine ring_beh D.nd (fun l hl => ?_) e ((D.mem e).mpr (by omega))
    obtain ⟨p, hp, rfl⟩ := List.mem_map.mp hl
    rw [List.mem_range] at hp
    refine ⟨6 * p + 2, rfl, nx6_2 p, nx6_4 p, nx6_0 p, ?_, ?_, ?_⟩
    · rw [nx6_3, t.com2 p hp]
    · rw [nx6_5, t.ub _ (t.lt p hp).2.1]
    · rw [nx6_1, t.rl p hp]; rfl
  have ne : ∀ r ∈ rows6 n lf bl, r ≠ [] := fun r hr => by
    obtain ⟨p, _, rfl⟩ := List.mem_map.mp hr
    simp [row6]
  have hlen : (rows6 n lf bl).length = n := by unfold rows6; simp
  have tp := t.pos
  refine ⟨D, ne, by omega, fun S hS hm e e' he he' h => ?_, 2 * n, ?_, by rw [hlen]; omega⟩
  · have nxS : ∀ e, e < 6 * n → S e → S (nx6 rt lf up bl e) := fun e he h => by
      have := hS e (by omega) h
      rw [hb e he] at this; exact this
    have c0 : ∀ p, p < n → S (6 * p) → S (6 * bl p + 3) := fun p hp h => by have := nxS _ (by omega) h; rwa [nx6_0] at this
    have c3 : ∀ p, p < n → S (6 * bl p + 3) → S (6 * bl (lf p) + 5) := fun p hp h => by
      have := nxS _ (by have := (t.lt p hp).2.2.2; omega) h; rwa [nx6_3, ← t.com2 p hp] at this
    have c5 : ∀ p, p < n → S (6 * bl (lf p) + 5) → S (6 * lf p + 1) := fun p hp h => by
      have h2 := (t.lt p hp).2.1
      have := nxS _ (by have := (t.lt _ h2).2.2.2; omega) h; rwa [nx6_5, t.ub _ h2] at this
    have c1 : ∀ p, p < n → S (6 * lf p + 1) → S (6 * p + 2) := fun p hp h => by
      have := nxS _ (by have := (t.lt p hp).2.1; omega) h; rwa [nx6_1, t.rl p hp] at this
    have c2 : ∀ p, p < n → S (6 * p + 2) → S (6 * p + 4) := fun p hp h => by have := nxS _ (by omega) h; rwa [nx6_2] at this
    have c4 : ∀ p, p < n → S (6 * p + 4) → S (6 * p) := fun p hp h => by have := nxS _ (by omega) h; rwa [nx6_4] at this
    have m0 : ∀ p, p < n → S (6 * p) → S (6 * p + 1) := fun p hp h => by
      have := hm _ (by omega) h; rw [show 6 * p = 2 * (3 * p) by omega, mate_even] at this; rwa [show 6 * p + 1 = 2 * (3 * p) + 1 by omega]
    have m1 : ∀ p, p < n → S (6 * p + 1) → S (6 * p) := fun p hp h => by
      have := hm _ (by omega) h; rw [show 6 * p + 1 = 2 * (3 * p) + 1 by omega, mate_odd] at this; rwa [show 6 * p = 2 * (3 * p) by omega]
    have m2 : ∀ p, p < n → S (6 * p + 2) → S (6 * p + 3) := fun p hp h => by
      have := hm _ (by omega) h; rw [show 6 * p + 2 = 2 * (3 * p + 1) by omega, mate_even] at this; rwa [show 6 * p + 3 = 2 * (3 * p + 1) + 1 by omega]
    have m3 : ∀ p, p < n → S (6 * p + 3) → S (6 * p + 2) := fun p hp h => by
      have := hm _ (by omega) h; rw [show 6 * p + 3 = 2 * (3 * p + 1) + 1 by omega, mate_odd] at this; rwa [show 6 * p + 2 = 2 * (3 * p + 1) by omega]
    have m4 : ∀ p, p < n → S (6 * p + 4) → S (6 * p + 5) := fun p hp h => by
      have := hm _ (by omega) h; rw [show 6 * p + 4 = 2 * (3 * p + 2) by omega, mate_even] at this; rwa [show 6 * p + 5 = 2 * (3 * p + 2) + 1 by omega]
    have r2 : ∀ p, p < n → S (6 * p) → S (6 * p + 2) := fun p hp h => c1 p hp (c5 p hp (c3 p hp (c0 p hp h)))
    have f1 : ∀ p, p < n → S (6 * p + 1) → S (6 * rt p) := fun p hp h => by
      have h1 := (t.lt p hp).1
      exact c4 _ h1 (c2 _ h1 (by have := nxS _ (by omega) h; rwa [nx6_1] at this))
    have f3 : ∀ p, p < n → S (6 * p + 3) → S (6 * up p) := fun p hp h => by
      have hu := (t.lt p hp).2.2.1
      refine c4 _ hu (c2 _ hu (c1 _ hu (c5 _ hu (c3 _ hu ?_))))
      rw [t.bu p hp]; exact h
    have f5 : ∀ p, p < n → S (6 * p + 5) → S (6 * rt (up p)) := fun p hp h => by
      have hu := (t.lt p hp).2.2.1
      refine f1 _ hu ?_
      have := nxS _ (by omega) h
      rwa [nx6_5] at this
    have close : ∀ p, p < n → S (6 * p) → S (6 * rt p) ∧ S (6 * lf p) ∧ S (6 * up p) ∧ S (6 * bl p) := fun p hp h => by
      obtain ⟨l1, l2, l3, l4⟩ := t.lt p hp
      have a3 := c0 p hp h
      have a1 := c5 p hp (c3 p hp a3)
      have a2 := c1 p hp a1
      exact ⟨f1 p hp (m0 p hp h), m1 _ l2 a1, f3 p hp (m2 p hp a2), c4 _ l4 (c2 _ l4 (m3 _ l4 a3))⟩
    have start : ∃ p, p < n ∧ S (6 * p) := by
      obtain ⟨p, hc⟩ := mod6 e
      have hp : p < n := by omega
      rcases hc with z | z | z | z | z | z <;> rw [z] at h
      · exact ⟨p, hp, h⟩
      · exact ⟨rt p, (t.lt p hp).1, f1 p hp h⟩
      · exact ⟨p, hp, c4 p hp (c2 p hp h)⟩
      · exact ⟨up p, (t.lt p hp).2.2.1, f3 p hp h⟩
      · exact ⟨p, hp, c4 p hp h⟩
      · exact ⟨rt (up p), (t.lt _ (t.lt p hp).2.2.1).1, f5 p hp h⟩
    obtain ⟨p, hp, hpS⟩ := start
    obtain ⟨q, hc⟩ := mod6 e'
    have hq : q < n := by omega
    have h0 := t.conn (fun p => S (6 * p)) close p q hp hq hpS
    rcases hc with z | z | z | z | z | z <;> rw [z]
    · exact h0
    · exact m0 q hq h0
    · exact r2 q hq h0
    · exact m2 q hq (r2 q hq h0)
    · exact c2 q hq (r2 q hq h0)
    · exact m4 q hq (c2 q hq (r2 q hq h0))
  · have s0 : ∀ q, q < n → stp (rows6 n lf bl) (6 * q) = 6 * rt q + 2 := fun q hq => by
      unfold stp; rw [show 6 * q = 2 * (3 * q) by omega, mate_even, show 2 * (3 * q) + 1 = 6 * q + 1 by omega, hb _ (by omega), nx6_1]
    have s1 : ∀ q, q < n → stp (rows6 n lf bl) (6 * q + 1) = 6 * bl q + 3 := fun q hq => by
      unfold stp; rw [show 6 * q + 1 = 2 * (3 * q) + 1 by omega, mate_odd, show 2 * (3 * q) = 6 * q by omega, hb _ (by omega), nx6_0]
    have s2 : ∀ q, q < n → stp (rows6 n lf bl) (6 * q + 2) = 6 * lf q + 5 := fun q hq => by
      unfold stp; rw [show 6 * q + 2 = 2 * (3 * q + 1) by omega, mate_even, show 2 * (3 * q + 1) + 1 = 6 * q + 3 by omega, hb _ (by omega), nx6_3]
    have s3 : ∀ q, q < n → stp (rows6 n lf bl) (6 * q + 3) = 6 * q + 4 := fun q hq => by
      unfold stp; rw [show 6 * q + 3 = 2 * (3 * q + 1) + 1 by omega, mate_odd, show 2 * (3 * q + 1) = 6 * q + 2 by omega, hb _ (by omega), nx6_2]
    have s4 : ∀ q, q < n → stp (rows6 n lf bl) (6 * q + 4) = 6 * up q + 1 := fun q hq => by
      unfold stp; rw [show 6 * q + 4 = 2 * (3 * q + 2) by omega, mate_even, show 2 * (3 * q + 2) + 1 = 6 * q + 5 by omega, hb _ (by omega), nx6_5]
    have s5 : ∀ q, q < n → stp (rows6 n lf bl) (6 * q + 5) = 6 * q := fun q hq => by
      unfold stp; rw [show 6 * q + 5 = 2 * (3 * q + 2) + 1 by omega, mate_odd, show 2 * (3 * q + 2) = 6 * q + 4 by omega, hb _ (by omega), nx6_4]
    have key := rings_mk (m := 3 * n) (nx := stp (rows6 n lf bl)) (L := ((List.range n).map fun p => [6 * p, 6 * rt p + 2, 6 * p + 5]) ++ (List.range n).map fun p => [6 * p + 4, 6 * up p + 1, 6 * p + 3]) ?_ ?_
    · rw [show 2 * n = (((List.range n).map fun p => [6 * p, 6 * rt p + 2, 6 * p + 5]) ++ (List.range n).map fun p => [6 * p + 4, 6 * up p + 1, 6 * p + 3]).length by simp; omega]
      exact key
    · refine Perm_of_cover (by rw [List.flatten_append, List.length_append, flat_len (c := 3) fun p => rfl, flat_len (c := 3) fun p => rfl]; omega) fun e he => ?_
      have in1 : ∀ p x, p < n → x ∈ [6 * p, 6 * rt p + 2, 6 * p + 5] → x ∈ (((List.range n).map fun p => [6 * p, 6 * rt p + 2, 6 * p + 5]) ++ (List.range n).map fun p => [6 * p + 4, 6 * up p + 1, 6 * p + 3]).flatten := fun p x hp hx => List.mem_flatten.mpr ⟨_, List.mem_append.mpr (.inl (List.mem_map.mpr ⟨p, List.mem_range.mpr hp, rfl⟩)), hx⟩
      have in2 : ∀ p x, p < n → x ∈ [6 * p + 4, 6 * up p + 1, 6 * p + 3] → x ∈ (((List.range n).map fun p => [6 * p, 6 * rt p + 2, 6 * p + 5]) ++ (List.range n).map fun p => [6 * p + 4, 6 * up p + 1, 6 * p + 3]).flatten := fun p x hp hx => List.mem_flatten.mpr ⟨_, List.mem_append.mpr (.inr (List.mem_map.mpr ⟨p, List.mem_range.mpr hp, rfl⟩)), hx⟩
      obtain ⟨p, h⟩ := mod6 e
      have hp : p < n := by omega
      obtain ⟨h1, h2, h3, h4⟩ := t.lt p hp
      rcases h with h | h | h | h | h | h
      · exact in1 p e hp (by simp [h])
      · exact in2 (bl p) e h4 (by simp [h, t.ub p hp])
      · exact in1 (lf p) e h2 (by simp [h, t.rl p hp])
      · exact in2 p e hp (by simp [h])
      · exact in2 p e hp (by simp [h])
      · exact in1 p e hp (by simp [h])
    · intro l hl
      rcases List.mem_append.mp hl with hl | hl
      · obtain ⟨p, hp, rfl⟩ := List.mem_map.mp hl
        rw [List.mem_range] at hp
        refine ⟨by simp, 6 * p, rfl, s0 p hp, ?_, ?_⟩
        · rw [s2 _ (t.lt p hp).1, t.lr p hp]
        · rw [s5 p hp]; rfl
      · obtain ⟨p, hp, rfl⟩ := List.mem_map.mp hl
        rw [List.mem_range] at hp
        refine ⟨by simp, 6 * p + 4, rfl, s4 p hp, ?_, ?_⟩
        · rw [s1 _ (t.lt p hp).2.2.1, t.bu p hp]
        · rw [s3 p hp]; rfl
end

/-! ### rows, columns, shift -/
section
variable (R C S : Nat)
def at2 (i j : Nat) : Nat := i * C + j
def cr (j : Nat) : Nat := if j + 1 = C then 0 else j + 1
def cl (j : Nat) : Nat := if j = 0 then C - 1 else j - 1
def su (j : Nat) : Nat := if j + S < C then j + S else j + S - C
def sd (j : Nat) : Nat := if S ≤ j then j - S else j + C - S
def tRt (p : Nat) : Nat := at2 C (p / C) (cr C (p % C))
def tLf (p : Nat) : Nat := at2 C (p / C) (cl C (p % C))
def tUp (p : Nat) : Nat := if p / C + 1 = R then at2 C 0 (su C S (p % C)) else at2 C (p / C + 1) (p % C)
def tBl (p : Nat) : Nat := if p / C = 0 then at2 C (R - 1) (sd C S (p % C)) else at2 C (p / C - 1) (p % C)
end
section
variable {R C S : Nat}
theorem at_div {i j : Nat} (h : j < C) : at2 C i j / C = i := by
  unfold at2
  rw [Nat.mul_comm, Nat.mul_add_div (by omega), Nat.div_eq_of_lt h, Nat.add_zero]
theorem at_mod {i j : Nat} (h : j < C) : at2 C i j % C = j := by
  unfold at2
  rw [Nat.mul_comm, Nat.mul_add_mod, Nat.mod_eq_of_lt h]
theorem at_lt {i j : Nat} (hi : i < R) (h : j < C) : at2 C i j < R * C := by
  unfold at2
  have := Nat.mul_le_mul_right C (by omega : i + 1 ≤ R)
  rw [Nat.succ_mul] at this
  omega
theorem at_of {p : Nat} (h : p < R * C) : ∃ i j, i < R ∧ j < C ∧ p = at2 C i j := by
  have hC : 0 < C := by
    rcases Nat.eq_zero_or_pos C with z | z
    · rw [z, Nat.mul_zero] at h; omega
    · exact z
  refine ⟨p / C, p % C, (Nat.div_lt_iff_lt_mul hC).mpr h, Nat.mod_lt _ hC, ?_⟩
  unfold at2
  rw [Nat.mul_comm]
  exact (Nat.div_add_mod p C).symm
theorem tor_of (hS : S < C) (hR : 0 < R) : Tor (R * C) (tRt C) (tLf C) (tUp R C S) (tBl R C S) := by
  have hC : 0 < C := by omega
  have vr : ∀ i j, i < R → j < C → tRt C (at2 C i j) = at2 C i (cr C j) := fun i j hi hj => by unfold tRt; rw [at_div hj, at_mod hj]
  have vl : ∀ i j, i < R → j < C → tLf C (at2 C i j) = at2 C i (cl C j) := fun i j hi hj => by unfold tLf; rw [at_div hj, at_mod hj]
  have vu : ∀ i j, i < R → j < C → tUp R C S (at2 C i j) = if i + 1 = R then at2 C 0 (su C S j) else at2 C (i + 1) j := fun i j hi hj => by unfold tUp; rw [at_div hj, at_mod hj]
  have vb : ∀ i j, i < R → j < C → tBl R C S (at2 C i j) = if i = 0 then at2 C (R - 1) (sd C S j) else at2 C (i - 1) j := fun i j hi hj => by unfold tBl; rw [at_div hj, at_mod hj]
  have lr : ∀ j, j < C → cr C j < C := fun j hj => by unfold cr; split <;> omega
  have ll : ∀ j, j < C → cl C j < C := fun j hj => by unfold cl; split <;> omega
  have lu : ∀ j, j < C → su C S j < C := fun j hj => by unfold su; split <;> omega
  have lb : ∀ j, j < C → sd C S j < C := fun j hj => by unfold sd; split <;> omega
  refine ⟨Nat.mul_pos hR hC, fun p hp => ?_, fun p hp => ?_, fun p hp => ?_, fun p hp => ?_, fun p hp => ?_, fun p hp => ?_, fun T hT p q hp hq h => ?_⟩
  · obtain ⟨i, j, hi, hj, rfl⟩ := at_of hp
    rw [vr i j hi hj, vl i j hi hj, vu i j hi hj, vb i j hi hj]
    refine ⟨at_lt hi (lr j hj), at_lt hi (ll j hj), ?_, ?_⟩
    · split
      · exact at_lt hR (lu j hj)
      · exact at_lt (by omega) hj
    · split
      · exact at_lt (by omega) (lb j hj)
      · exact at_lt (by omega) hj
  · obtain ⟨i, j, hi, hj, rfl⟩ := at_of hp
    rw [vl i j hi hj, vr i _ hi (ll j hj)]
    congr 1
    unfold cr cl
    split <;> split <;> omega
  · obtain ⟨i, j, hi, hj, rfl⟩ := at_of hp
    rw [vr i j hi hj, vl i _ hi (lr j hj)]
    congr 1
    unfold cr cl
    split <;> split <;> omega
  · obtain ⟨i, j, hi, hj, rfl⟩ := at_of hp
    rw [vb i j hi hj]
    split
    · rw [vu _ _ (by omega) (lb j hj), if_pos (by omega)]
      have : su C S (sd C S j) = j := by unfold su sd; split <;> split <;> omega
      rw [this]
      congr 1; omega
    · rw [vu _ _ (by omega) hj, if_neg (by omega)]
      congr 1; omega
  · obtain ⟨i, j, hi, hj, rfl⟩ := at_of hp
    rw [vu i j hi hj]
    split
    · rw [vb _ _ hR (lu j hj), if_pos rfl]
      have : sd C S (su C S j) = j := by unfold su sd; split <;> split <;> omega
      rw [this]
      congr 1; omega
    · rw [vb _ _ (by omega) hj, if_neg (by omega)]
      congr 1
  · obtain ⟨i, j, hi, hj, rfl⟩ := at_of hp
    rw [vr i j hi hj, vu i j hi hj, vu i _ hi (lr j hj)]
    split
    · rw [vr _ _ hR (lu j hj)]
      congr 1
      unfold su cr
      repeat' split
      all_goals omega
    · rw [vr _ _ (by omega) hj]
  · obtain ⟨i, j, hi, hj, rfl⟩ := at_of hp
    obtain ⟨i', j', hi', hj', rfl⟩ := at_of hq
    have toCol : ∀ i, i < R → ∀ j, j < C → T (at2 C i j) → T (at2 C i 0) := fun i hi j => by
      induction j with
      | zero => exact fun _ h => h
      | succ j ih =>
        intro hj h
        have := (hT _ (at_lt hi hj) h).2.1
        rw [vl i _ hi hj] at this
        have e : cl C (j + 1) = j := by unfold cl; rw [if_neg (by omega)]; omega
        rw [e] at this
        exact ih (by omega) this
    have toRow : ∀ i, i < R → T (at2 C i 0) → T (at2 C 0 0) := fun i => by
      induction i with
      | zero => exact fun _ h => h
      | succ i ih =>
        intro hi h
        have := (hT _ (at_lt hi hC) h).2.2.2
        rw [vb _ _ hi hC, if_neg (by omega)] at this
        exact ih (by omega) this
    have up : ∀ i, i < R → T (at2 C 0 0) → T (at2 C i 0) := fun i => by
      induction i with
      | zero => exact fun _ h => h
      | succ i ih =>
        intro hi h
        have := (hT _ (at_lt (by omega) hC) (ih (by omega) h)).2.2.1
        rw [vu _ _ (by omega) hC, if_neg (by omega)] at this
        exact this
    have across : ∀ i, i < R → ∀ j, j < C → T (at2 C i 0) → T (at2 C i j) := fun i hi j => by
      induction j with
      | zero => exact fun _ h => h
      | succ j ih =>
        intro hj h
        have := (hT _ (at_lt hi (by omega)) (ih (by omega) h)).1
        rw [vr i _ hi (by omega)] at this
        have e : cr C j = j + 1 := by unfold cr; rw [if_neg (by omega)]
        rw [e] at this
        exact this
    exact across i' hi' j' hj' (up i' hi' (toRow i hi (toCol i hi j hj h)))
end
end Rf
end
section
set_option linter.all false
set_option autoImplicit false
set_option maxRecDepth 100000
set_option maxHeartbeats 1000000
/-! P24: _law_settled. -/
namespace Rf
open PySem L2
section
variable {K : PySem.W.Frag} {σ : St} {B H : Hp} {ta tb tc te tl tn : TE} {g : TG} {D : Ends}
theorem eqV_nat (a b : Nat) : eqV (nv a) (nv b) = decide (a = b) := by
  show ((a : Int) == (b : Int)) = decide (a = b)
  by_cases h : a = b
  · subst h; simp
  · simp [h]; omega
theorem idx_split {ns : List Nat} {n : Nat} (h : n ∈ ns) : ∃ a b, ns = a ++ n :: b ∧ n ∉ a ∧ ns.idxOf n = a.length := by
  obtain ⟨a, b, rfl, hn⟩ := List.eq_append_cons_of_mem h
  exact ⟨a, b, rfl, hn, by rw [List.idxOf_append, if_neg hn]; simp⟩
/-- l.index(n) -/
theorem n_index {P P' : V → Hp → Prop} {a : V} {ns : List Nat} (ha : Val ta σ H a) (hs : LN K H a ns) (h : VH te σ H P) (k : ∀ w H', P w H' → H' = H ∧ ∃ n, w = nv n ∧ n ∈ ns ∧ P' (nv (ns.idxOf n)) H) : VH (tBM K "list" (rIndex K) ta (tCons te tNil)) σ H P' := fun Q q => by
  obtain ⟨p, rfl, hp⟩ := hs
  refine ha _ ⟨tyL hp, h _ fun w H' hw => ?_⟩
  obtain ⟨rfl, n, rfl, hn, r⟩ := k w H' hw
  obtain ⟨x, y, rfl, hx, hi⟩ := idx_split hn
  rw [hi] at r
  refine ⟨p, _, nv n, x.length, nv n, rfl, rfl, hp, rfl, flat_nat _, ?_, ?_, fun m z hm hz => ?_, q _ _ r⟩
  · rw [List.map_append, List.getElem?_append_right (by simp)]; simp
  · rw [eqV_nat]; simp
  · rw [List.map_append, List.getElem?_append_left (by rw [List.length_map]; exact hm), List.getElem?_map] at hz
    obtain ⟨u, hu, rfl⟩ := Option.map_eq_some_iff.mp hz
    rw [eqV_nat]
    exact decide_eq_false fun e => hx (by rw [← e]; exact List.mem_of_getElem? hu)
theorem v_index {a : V} {ns : List Nat} {n : Nat} (ha : Val ta σ H a) (hs : LN K H a ns) (h : Val te σ H (nv n)) (hn : n ∈ ns) : Val (tBM K "list" (rIndex K) ta (tCons te tNil)) σ H (nv (ns.idxOf n)) := fun Q q =>
  n_index (P' := fun v H' => v = nv (ns.idxOf n) ∧ H' = H) ha hs (val_vh h) (fun w H' ⟨e1, e2⟩ => ⟨e2, n, e1, hn, rfl, rfl⟩) Q (fun v H' ⟨e1, e2⟩ => by rw [e1, e2]; exact q)
/-- min(l) -/
theorem n_min {a : V} {ns : List Nat} (ha : Val te σ H a) (hs : LN K H a ns) (hp : 0 < ns.length) : VH (tCB (rMin K) (tCons te tNil)) σ H fun w H' => H' = H ∧ ∃ n, w = nv n ∧ n ∈ ns := fun Q q => by
  obtain ⟨p, rfl, hp'⟩ := hs
  refine ha _ ⟨p, ns.map fun (n : Nat) => (n : Int), rfl, by rw [List.map_map]; exact hp', by rw [List.length_map]; exact hp, fun m hm _ => ?_⟩
  obtain ⟨n, hn, rfl⟩ := List.mem_map.mp hm
  exact q _ _ ⟨rfl, n, rfl, hn⟩
theorem cut_to {xs : List V} {j : Nat} (h : j ≤ xs.length) : cutV xs none (some (j : Int)) = xs.take j := by
  unfold cutV
  rw [HT.sIx_nat xs.length xs.length j, HT.sIx_none, Nat.min_eq_left h]
  rfl
/-- xs[:j] -/
theorem n_to {p : Addr} {xs : List V} {j : Nat} (ha : Val ta σ H (.ref p)) (hb : Val tb σ H (nv j)) (hs : SqL K H p xs) (hj : j ≤ xs.length) : VH (tSl (rSlL K) ta tNoPart (tPart tb)) σ H fun w H' => ∃ q, H q = none ∧ w = .ref q ∧ H' = upd H q (.lst (xs.take j)) := fun Q q =>
  ha _ (hb _ ⟨(j : Int), rfl, p, xs, rfl, hs, fun r hr => by
    rw [cut_to hj]
    exact q _ _ ⟨r, hr, rfl, rfl⟩⟩)
theorem Turned.snoc {L M : List (List Nat)} (h : Turned L M) (u v : List Nat) : Turned (L ++ [u ++ v]) (M ++ [v ++ u]) := by
  refine ⟨by simp [h.1], fun i r r' h1 h2 => ?_⟩
  by_cases hi : i < L.length
  · rw [List.getElem?_append_left hi] at h1
    rw [List.getElem?_append_left (by rw [h.1]; exact hi)] at h2
    exact h.2 i r r' h1 h2
  · have hb := (List.getElem?_eq_some_iff.mp h1).1
    simp at hb
    have : i = L.length := by omega
    subst this
    simp at h1
    rw [← h.1] at h2
    simp at h2
    exact ⟨u, v, h1.symm, h2.symm⟩
def sp_settled (K : PySem.W.Frag) : Sp := fun vs H Q _ => ∃ B v rows, vs = [v] ∧ Le B H ∧ LL K B v rows ∧ rows.length ≤ 500 ∧ (∀ r ∈ rows, r.length ≤ 1000) ∧ Ret B H (fun w B' => ∃ rows', LL K B' w rows' ∧ Turned rows rows') Q
theorem call_settled {P : V → Hp → Prop} {rows : List (List Nat)} (h : VH te σ H P) (k : ∀ v H1, P v H1 → ∃ B1, Ext B H B1 H1 ∧ LL K B1 v rows) (hz : rows.length ≤ 500) (hr : ∀ r ∈ rows, r.length ≤ 1000) : VH (tCall (sp_settled K) [] E0 (tCons te tNil)) σ H fun w H' => ∃ B' rows', Ext B H B' H' ∧ LL K B' w rows' ∧ Turned rows rows' := fun Q q =>
  h _ fun v H1 p => by
    obtain ⟨B1, e1, hv⟩ := k v H1 p
    exact ⟨B1, v, rows, rfl, e1.le, hv, hz, hr, fun w B' H' e ⟨rows', h1, h2⟩ => q w H' ⟨B', rows', e1.trans e, h1, h2⟩⟩
theorem r__law_settled (vs : List V) (H : Hp) (Q : VK) (E : XK) (h : sp_settled K vs H Q E) : t__law_settled K { nx := fun _ H' => Q .non H', rt := Q } (L2.start N__law_settled vs) H := by
  obtain ⟨B, v, rows, rfl, hl, hv, hz, hr, k⟩ := h
  refine q_set (n_lst g_nil (by simp)) ?_
  rintro w1 H1 ⟨p, hp, rfl, rfl⟩
  have e1 := (Ext.refl hl).own hp (o := .lst [])
  have o1 : Own H B _ p (.lst []) := Own.of_new (.refl H) hl hp
  refine q_seq (f_LL (B := B) (v_var rfl) hv
    (fun i σ H' => ∃ (x2 x3 : Option V) (B' : Hp) (ys : List V) (rows' : List (List Nat)), σ = [some v, some (.ref p), x2, x3] ∧ Ext B H B' H' ∧ Own H B' H' p (.lst ys) ∧ Each (LN K B') ys rows' ∧ Turned (rows.take i) rows')
    ⟨none, none, B, [], [], rfl, e1, o1, Each.nil, by simp [Turned]⟩ (fun i σ' H' ⟨_, _, _, _, _, _, e, _⟩ => e.bb.le.trans e.le) ?_ ?_)
  · rintro i w r σ2 H2 hir hwl ⟨x2, x3, B2, ys, rows', rfl, e2, o2, hys, ht⟩
    have hrl := hr r (List.mem_of_getElem? hir)
    have hi := (List.getElem?_eq_some_iff.mp hir).1
    have hw2 := hwl.le (e2.bb.le.trans e2.le)
    refine q_setV v_c ?_
    refine q_join (fun σ' H' => ∃ j, j ≤ r.length ∧ σ' = [some v, some (.ref p), some w, some (nv j)] ∧ H' = H2) (a_t (v_gt (v_lenN (v_var rfl) hw2) v_c)) ?_ (fun hb nx hk => ?_) (fun hb nx hk => hk _ _ ⟨0, Nat.zero_le _, rfl, rfl⟩)
    · rintro σ3 H2 ⟨j, hj, rfl, rfl⟩
      obtain ⟨a, rfl, ha⟩ := id hw2
      refine s_appH (P := fun w H' => ∃ c, w = .ref c ∧ Ext B2 H2 (upd B2 c (.lst ((r.drop j ++ r.take j).map nv))) H') (v_var rfl) (.of o2.h) (n_cat2 (P2 := fun u w H' => ∃ c d, u = .ref c ∧ w = .ref d ∧ Ext B2 H2 B2 H' ∧ H' c = some (.lst ((r.drop j).map nv)) ∧ H' d = some (.lst ((r.take j).map nv))) (n_from (K := K) (j := j) (v_var rfl) (v_var rfl) ha (by rw [List.length_map]; exact hj)) ?_ ?_) ?_
      · rintro u H3 ⟨c, hc, rfl, rfl⟩
        have e3 := (Ext.refl e2.le).own hc (o := .lst ((r.map nv).drop j))
        refine (n_to (K := K) (j := j) (v_var rfl) (v_var rfl) (sqL_le ha (Ex.new hc).le) (by rw [List.length_map]; exact hj)).mono ?_
        rintro w H4 ⟨d, hd, rfl, rfl⟩
        refine ⟨c, d, rfl, rfl, e3.own hd, ?_, ?_⟩
        · rw [upd_ne (ne_of_none upd_same hd), upd_same, List.map_drop]
        · rw [upd_same, List.map_take]
      · rintro u w H3 ⟨c, d, rfl, rfl, e3, h1, h2⟩
        refine ⟨c, d, _, _, rfl, rfl, h1, h2, by simp; omega, fun x hx => ⟨x, rfl, ?_⟩⟩
        rw [List.map_append]
        exact e3.trans (Ext.new e3.le hx)
      · rintro w H3 ⟨c, rfl, e3⟩
        have o3 := o2.ext e3
        have hyl : ys.length = i := by rw [hys.1, ht.1, List.length_take]; omega
        refine ⟨ys, o3.h, by omega, _, _, _, ys ++ [.ref c], rows' ++ [r.drop j ++ r.take j], rfl, (e2.trans e3).put o3 _, o3.put _, (hys.mono fun v x h => LN.le h e3.bb.le).snoc (.of upd_same), ?_⟩
        rw [take_snoc hir]
        have := ht.snoc (r.take j) (r.drop j)
        rw [List.take_append_drop] at this
        exact this
    · have hpos : 0 < r.length := by have := of_decide_eq_true hb; omega
      refine s_set (n_index (P' := fun w H' => H' = H2 ∧ ∃ n, n ∈ r ∧ w = nv (r.idxOf n)) (v_var rfl) hw2 (n_min (v_var rfl) hw2 hpos) ?_) ?_
      · rintro u H' ⟨rfl, n, rfl, hn⟩
        exact ⟨rfl, n, rfl, hn, rfl, n, hn, rfl⟩
      · rintro u H' ⟨rfl, n, hn, rfl⟩
        exact hk _ _ ⟨r.idxOf n, Nat.le_of_lt (List.idxOf_lt_length_iff.mpr hn), rfl, rfl⟩
  · rintro σ2 H2 ⟨x2, x3, B2, ys, rows', rfl, e2, o2, hys, ht⟩
    rw [List.take_length] at ht
    refine s_retV (v_var rfl) (k _ _ _ (e2.freeze o2) ⟨rows', .of upd_same (hys.mono fun v x h => LN.le h (Ex.new o2.b).le), ht⟩)
end
end Rf
end
section
set_option linter.all false
set_option autoImplicit false
set_option maxRecDepth 100000
set_option maxHeartbeats 1000000
/-! P25: _law_renamed. -/
namespace Rf
open PySem L2
section
variable {K : PySem.W.Frag} {σ : St} {B H : Hp} {ta tb tc te tl tn : TE} {g : TG} {D : Ends}
/-- [e for k in range(n)] -/
theorem n_lcRg {n : Nat} {j : Nat} {vs : List Nat} (g : Nat → V) (hl : Val ta σ H (nv n)) (hz : n < 100000) (hw : ∀ x, wipe ((wipe σ vs).set j (some x)) vs = wipe σ vs)
    (he : ∀ i H', i < n → Ex H H' → Val te ((wipe σ vs).set j (some (nv i))) H' (g i)) :
    VH (tLc (iRng1 (tCons ta tNil)) (gName j) tYes te vs) σ H fun w H' => ∃ D, H D = none ∧ w = .ref D ∧ H' = upd H D (.lst ((List.range n).map g)) := by
  refine (n_lcR (fun _ => true) (fun x => match x with | .int z => g z.toNat | _ => .non) hl hz hw (fun i H' hi e => a_yes) (fun i H' hi e _ => ?_)).mono ?_
  · exact vas (he i H' hi e) (by show g i = g (i : Int).toNat; rw [Int.toNat_natCast])
  · rintro w H' ⟨d, h1, h2, h3⟩
    refine ⟨d, h1, h2, ?_⟩
    rw [h3]
    congr 2
    rw [List.filter_eq_self.mpr fun _ _ => rfl, List.map_map]
    refine List.map_congr_left fun i _ => ?_
    show g (i : Int).toNat = g i
    rw [Int.toNat_natCast]
/-- l.pop(j) of a list of natural numbers -/
theorem map_erase {α β : Type} (f : α → β) : ∀ (l : List α) (j : Nat), (l.map f).eraseIdx j = (l.eraseIdx j).map f
  | [], _ => rfl
  | _ :: _, 0 => rfl
  | x :: l, j + 1 => by simp [List.eraseIdx_cons_succ, map_erase f l j]
theorem erase_perm {α : Type} : ∀ {l : List α} {j : Nat} {x : α}, l[j]? = some x → l.Perm (x :: l.eraseIdx j)
  | [], _, _, h => by simp at h
  | y :: l, 0, x, h => by
    have : y = x := by simpa using h
    subst this
    exact .refl _
  | y :: l, j + 1, x, h => by
    rw [List.eraseIdx_cons_succ]
    exact ((erase_perm (l := l) (j := j) (by simpa using h)).cons y).trans (.swap x y _)
theorem erase_each {R : V → List Nat → Prop} : ∀ {vs : List V} {xs : List (List Nat)} {j : Nat}, Each R vs xs → Each R (vs.eraseIdx j) (xs.eraseIdx j) := by
  intro vs xs j h
  refine ⟨by rw [List.length_eraseIdx, List.length_eraseIdx, h.1], fun i v x a b => ?_⟩
  rw [List.getElem?_eraseIdx] at a b
  split at a
  · rename_i hi
    rw [if_pos hi] at b
    exact h.2 i v x a b
  · rename_i hi
    rw [if_neg hi] at b
    exact h.2 (i + 1) v x a b
/-- names for the first t ties, ls those left -/
structure Nm (m t : Nat) (ls : List Nat) (ν : Nat → Nat) : Prop where
  nd : ls.Nodup
  lt : ∀ x ∈ ls, x < m
  len : ls.length + t = m
  ok : ∀ e, e < 2 * t → ν e < 2 * m ∧ ν e / 2 ∉ ls ∧ ν (mate e) = mate (ν e)
  inj : ∀ e e', e < 2 * t → e' < 2 * t → ν e = ν e' → e = e'
def nmx (t x b : Nat) (ν : Nat → Nat) (e : Nat) : Nat := if e = 2 * t + 1 then 2 * x + 1 - b else if e = 2 * t then 2 * x + b else ν e
theorem Nm.step {m t d x b : Nat} {ls : List Nat} {ν : Nat → Nat} (N : Nm m t ls ν) (hx : ls[d]? = some x) (hb : b < 2) : Nm m (t + 1) (ls.eraseIdx d) (nmx t x b ν) := by
  have p := erase_perm hx
  have hn := p.nodup_iff.mp N.nd
  rw [List.nodup_cons] at hn
  have hxl := N.lt x (List.mem_of_getElem? hx)
  have hxm := List.mem_of_getElem? hx
  have v1 : nmx t x b ν (2 * t + 1) = 2 * x + 1 - b := if_pos rfl
  have v0 : nmx t x b ν (2 * t) = 2 * x + b := by unfold nmx; rw [if_neg (by omega), if_pos rfl]
  have v : ∀ e, e < 2 * t → nmx t x b ν e = ν e := fun e he => by unfold nmx; rw [if_neg (by omega), if_neg (by omega)]
  have old : ∀ e, e < 2 * t → ν e / 2 ≠ x := fun e he z => (N.ok e he).2.1 (by rw [z]; exact hxm)
  refine ⟨hn.2, fun y hy => N.lt y (List.mem_of_mem_eraseIdx hy), ?_, fun e he => ?_, fun e e' he he' h => ?_⟩
  · have := p.length_eq
    have := N.len
    simp at *; omega
  · rcases (by omega : e < 2 * t ∨ e = 2 * t ∨ e = 2 * t + 1) with z | z | z
    · obtain ⟨h1, h2, h3⟩ := N.ok e z
      refine ⟨by rw [v e z]; exact h1, by rw [v e z]; exact fun w => h2 (List.mem_of_mem_eraseIdx w), ?_⟩
      rw [v e z, v _ (mate_lt z)]; exact h3
    · subst z
      refine ⟨by rw [v0]; omega, by rw [v0, show (2 * x + b) / 2 = x by omega]; exact hn.1, ?_⟩
      rw [v0, mate_even, v1]
      rcases (by omega : b = 0 ∨ b = 1) with w | w <;> subst w
      · show 2 * x + 1 = mate (2 * x)
        rw [mate_even]
      · rw [mate_odd]; omega
    · subst z
      refine ⟨by rw [v1]; omega, by rw [v1, show (2 * x + 1 - b) / 2 = x by omega]; exact hn.1, ?_⟩
      rw [v1, mate_odd, v0]
      rcases (by omega : b = 0 ∨ b = 1) with w | w <;> subst w
      · show 2 * x + 0 = mate (2 * x + 1)
        rw [mate_odd]; rfl
      · rw [show 2 * x + 1 - 1 = 2 * x by omega, mate_even]
  · have nw : ∀ e, e < 2 * (t + 1) → ¬ e < 2 * t → nmx t x b ν e / 2 = x := fun e he hn => by
      rcases (by omega : e = 2 * t ∨ e = 2 * t + 1) with z | z
      · rw [z, v0]; omega
      · rw [z, v1]; omega
    by_cases a : e < 2 * t <;> by_cases c : e' < 2 * t
    · rw [v e a, v e' c] at h; exact N.inj e e' a c h
    · have := nw e' he' c
      rw [← h, v e a] at this
      exact absurd this (old e a)
    · have := nw e he a
      rw [h, v e' c] at this
      exact absurd this (old e' c)
    · rcases (by omega : e = 2 * t ∨ e = 2 * t + 1) with z | z <;> rcases (by omega : e' = 2 * t ∨ e' = 2 * t + 1) with w | w
      · omega
      · rw [z, w, v0, v1] at h; omega
      · rw [z, w, v0, v1] at h; omega
      · omega
theorem dkv_range (t : Nat) (f : Nat → V) (v0 v1 : V) : putK (putK (dkv (List.range (2 * t)) f) (ki (2 * t)) v0) (ki (2 * t + 1)) v1 = dkv (List.range (2 * (t + 1))) fun n => if n = 2 * t + 1 then v1 else if n = 2 * t then v0 else f n := by
  rw [dkv_newV (by simp), dkv_newV (by simp)]
  rw [show 2 * (t + 1) = 2 * t + 1 + 1 by omega, List.range_succ, List.range_succ]
def sp_renamed (K : PySem.W.Frag) : Sp := fun vs H Q _ => ∃ B v c rows m, vs = [v, nv m, .int c] ∧ Le B H ∧ LL K B v rows ∧ Ring rows m ∧ m ≤ 200 ∧ rows.length ≤ 200 ∧ Ret B H (fun w B' => ∃ rows', LL K B' w rows' ∧ Ring rows' m ∧ rows'.length = rows.length) Q
theorem call_renamed {v : V} {P : V → Hp → Prop} {rows : List (List Nat)} {m : Nat} (h1 : Val ta σ H v) (h2 : Val tb σ H (nv m)) (h3 : VH tc σ H P) (hP : ∀ w H', P w H' → (∃ c, w = .int c) ∧ H' = H) (l : Le B H) (hv : LL K B v rows) (R : Ring rows m) (hm : m ≤ 200) (hz : rows.length ≤ 200) :
    VH (tCall (sp_renamed K) [] E0 (tCons ta (tCons tb (tCons tc tNil)))) σ H fun w H' => ∃ B' rows', Ext B H B' H' ∧ LL K B' w rows' ∧ Ring rows' m ∧ rows'.length = rows.length := fun Q q =>
  h1 _ (h2 _ (h3 _ fun w H' p => by
    obtain ⟨⟨c, rfl⟩, rfl⟩ := hP w H' p
    exact ⟨B, v, c, rows, m, rfl, l, hv, R, hm, hz, fun w B' H' e ⟨rows', k1, k2, k3⟩ => q w H' ⟨B', rows', e, k1, k2, k3⟩⟩))
theorem r__law_renamed (vs : List V) (H : Hp) (Q : VK) (E : XK) (h : sp_renamed K vs H Q E) : t__law_renamed K (sp_settled K) (sp_draws K) { nx := fun _ H' => Q .non H', rt := Q } (L2.start N__law_renamed vs) H := by
  obtain ⟨B, v, c, rows, m, rfl, hl, hv, R, hm, hz, k⟩ := h
  have D := R.dr
  have hrow : ∀ r ∈ rows, r.length ≤ 400 := fun r hr => by
    have := nodup_le (D.part.rnd hr) (n := 2 * m) fun x hx => D.part.lt hr hx
    omega
  -- picks
  refine q_set (call_draws (B := B) (ns := ((List.range m).map fun k => m - k) ++ List.replicate m 2 ++ (List.range rows.length).map fun k => rows.length - k) (val_vh (v_var rfl)) ?_ (by simp; omega) (fun n hn => ?_)) ?_
  · rintro w H ⟨rfl, rfl⟩
    have hlen : ∀ (σ' : St) (H' : Hp), Ex H H' → σ'[0]? = some (some v) → Val (tCB (rLenS K) (tCons (tVar 0) tNil)) σ' H' (nv rows.length) := fun σ' H' e h0 => v_lenL (v_var h0) (hv.le (hl.trans e.le))
    refine ⟨⟨c, rfl⟩, n_cat2 (P1 := fun u H' => ∃ a, u = .ref a ∧ Ext B H B H' ∧ H' a = some (.lst (((List.range m).map fun k => nv (m - k)) ++ List.replicate m (nv 2))))
      (P2 := fun u w H' => ∃ a b, u = .ref a ∧ w = .ref b ∧ Ext B H B H' ∧ H' a = some (.lst (((List.range m).map fun k => nv (m - k)) ++ List.replicate m (nv 2))) ∧ H' b = some (.lst ((List.range rows.length).map fun k => nv (rows.length - k)))) ?_ ?_ ?_⟩
    · refine n_cat2 (P2 := fun u w H' => ∃ a b, u = .ref a ∧ w = .ref b ∧ Ext B H B H' ∧ H' a = some (.lst ((List.range m).map fun k => nv (m - k))) ∧ H' b = some (.lst (List.replicate m (nv 2)))) (n_lcRg (n := m) (fun k => nv (m - k)) (v_var rfl) (by omega) (fun _ => rfl) (fun i H' hi e => vnat (v_sub (v_var rfl) (v_var rfl)) (by omega))) ?_ ?_
      · rintro u H1 ⟨a, ha, rfl, rfl⟩
        have e1 := (Ext.refl hl).own ha (o := .lst ((List.range m).map fun k => nv (m - k)))
        refine (n_rep (n := m) (v := nv 2) v_c (fun H' e => v_var rfl) (by omega)).mono ?_
        rintro w H' ⟨p, q, hp, hq, npq, rfl, rfl⟩
        have e2 := e1.own hq (o := .lst [nv 2])
        have nap : a ≠ p := ne_of_none upd_same hp
        have naq : a ≠ q := ne_of_none upd_same hq
        exact ⟨a, p, rfl, rfl, e2.own (by rw [upd_ne npq]; exact hp), by rw [upd_ne nap, upd_ne naq, upd_same], upd_same⟩
      · rintro u w H1 ⟨a, b, rfl, rfl, e1, ha, hb⟩
        exact ⟨a, b, _, _, rfl, rfl, ha, hb, by simp; omega, fun d hd => ⟨d, rfl, e1.own hd, upd_same⟩⟩
    · rintro u H1 ⟨a, rfl, e1, ha⟩
      refine (n_lcRg (n := rows.length) (fun k => nv (rows.length - k)) (hlen _ _ e1.hh rfl) (by omega) (fun _ => rfl) (fun i H' hi e => vnat (v_sub (hlen _ _ (e1.hh.trans e) rfl) (v_var rfl)) (by omega))).mono ?_
      rintro w H' ⟨d, hd, rfl, rfl⟩
      exact ⟨a, d, rfl, rfl, e1.own hd, by rw [upd_ne (ne_of_none ha hd)]; exact ha, upd_same⟩
    · rintro u w H1 ⟨a, b, rfl, rfl, e1, ha, hb⟩
      refine ⟨a, b, _, _, rfl, rfl, ha, hb, by simp; omega, fun d hd => ⟨_, e1.trans (Ext.new e1.le hd), .of ?_⟩⟩
      rw [upd_same, List.map_append, List.map_append, List.map_map, List.map_map, List.map_replicate]; rfl
  · rcases List.mem_append.mp hn with q | q
    · rcases List.mem_append.mp q with q | q
      · obtain ⟨i, hi, rfl⟩ := List.mem_map.mp q
        rw [List.mem_range] at hi
        omega
      · rw [List.eq_of_mem_replicate q]; omega
    · obtain ⟨i, hi, rfl⟩ := List.mem_map.mp q
      rw [List.mem_range] at hi
      omega
  rintro pk H1 ⟨B1, ds, e1, hpk, hds⟩
  have pick1 : ∀ t, t < m → ∃ d, ds[t]? = some d ∧ d < m - t := fun t ht => hds.at (by
    rw [List.getElem?_append_left (by simp; omega), List.getElem?_append_left (by simpa using ht), List.getElem?_map, List.getElem?_range ht]; rfl)
  have pick2 : ∀ t, t < m → ∃ d, ds[m + t]? = some d ∧ d < 2 := fun t ht => hds.at (by
    rw [List.getElem?_append_left (by simp; omega), List.getElem?_append_right (by simp)]
    simp [ht])
  have pick3 : ∀ t, t < rows.length → ∃ d, ds[2 * m + t]? = some d ∧ d < rows.length - t := fun t ht => hds.at (by
    rw [List.getElem?_append_right (by simp; omega)]
    simp only [List.length_append, List.length_map, List.length_range, List.length_replicate]
    rw [show 2 * m + t - (m + m) = t by omega, List.getElem?_map, List.getElem?_range ht]; rfl)
  have hv1 := hv.le e1.bb.le
  -- left = list(range(ties)); names = {}
  refine q_set (P := fun w H' => ∃ q, H1 q = none ∧ w = .ref q ∧ H' = upd H1 q (.lst ((List.range m).map nv))) (fun Q q => ?_) ?_
  · unfold tLstRg tRg1
    refine v_var rfl _ ⟨(m : Int), rfl, RgOk.of_le (by omega) (by omega) (by omega) (by omega), fun r hr => q _ _ ⟨r, hr, rfl, ?_⟩⟩
    have : rgV 0 (m : Int) = (List.range m).map nv := by
      unfold rgV
      rw [show ((m : Int) - 0).toNat = m by omega]
      refine List.map_congr_left fun i _ => ?_
      show V.int (0 + (i : Nat)) = V.int (i : Int)
      rw [Int.zero_add]
    rw [this]
  rintro w2 H2 ⟨q, hq, rfl, rfl⟩
  have e2 := e1.own hq (o := .lst ((List.range m).map nv))
  have oq2 : Own H B1 _ q (.lst ((List.range m).map nv)) := Own.of_new e1.hh e1.le hq
  refine q_set n_dict ?_
  rintro w3 H3 ⟨p, hp, rfl, rfl⟩
  have e3 := e2.own hp (o := .dK [])
  have op3 : Own H B1 _ p (.dK []) := Own.of_new e2.hh e2.le hp
  have nqp : q ≠ p := ne_of_none oq2.h hp
  have oq3 := oq2.other nqp (u := .dK [])
  refine q_seq (f_rng (n := m) (v_var rfl) (by omega)
    (fun t σ H' => ∃ (x7 x8 : Option V) (ls : List Nat) (ν : Nat → Nat), σ = [some v, some (nv m), some (.int c), some pk, none, some (.ref q), some (.ref p), x7, x8, none, none, none] ∧ Ext B H B1 H' ∧ Own H B1 H' q (.lst (ls.map nv)) ∧ Own H B1 H' p (.dK (dkv (List.range (2 * t)) fun e => nv (ν e))) ∧ Nm m t ls ν)
    ⟨none, none, List.range m, fun _ => 0, rfl, e3, oq3, op3, ⟨List.nodup_range, fun x hx => List.mem_range.mp hx, by simp, fun e he => by omega, fun e e' he => by omega⟩⟩ ?_ ?_)
  · rintro t σ4 H4 ht ⟨x7, x8, ls, ν, rfl, e4, oq4, op4, N⟩
    obtain ⟨d, hd, hdl⟩ := pick1 t ht
    obtain ⟨b, hb, hbl⟩ := pick2 t ht
    have hlen := N.len
    have hdl2 : d < ls.length := by omega
    have hx : ls[d]? = some ls[d] := List.getElem?_eq_getElem hdl2
    generalize ls[d] = x at hx
    refine q_set (n_popAt (K := K) (j := d) (v_var rfl) (v_ixN (v_var rfl) (hpk.le e4.le) (v_var rfl) hd) oq4.h (by rw [List.length_map]; omega) (by rw [List.getElem?_map, hx]; rfl)) ?_
    rintro w5 H5 ⟨rfl, rfl⟩
    rw [map_erase]
    have e5 := e4.put oq4 (.lst ((ls.eraseIdx d).map nv))
    have oq5 := oq4.put (.lst ((ls.eraseIdx d).map nv))
    have op5 := op4.other nqp.symm (u := .lst ((ls.eraseIdx d).map nv))
    have i2 : ∀ (σ' : St) (i : Nat) (x : Nat), σ'[i]? = some (some (nv x)) → ∀ H', Val (tOp rMulI (tC (.int 2)) (tVar i)) σ' H' (nv (2 * x)) := fun σ' i x h H' => vnat (v_mul v_c (v_var h) (.inl ⟨by decide, by decide⟩)) (by omega)
    refine q_seq (s_dput (k := ki (2 * t)) (v := nv (2 * x + b)) (vnat (v_add (i2 _ 8 x rfl _) (v_ixN (j := m + t) (v_var rfl) (hpk.le e5.le) (vnat (v_add (v_var rfl) (v_var rfl)) (by omega)) hb)) (by omega)) (v_var rfl) (i2 _ 7 t rfl _) op5.h (by rw [dkv_len]; simp; omega) ?_)
    have e6 := e5.put op5 (.dK (putK (dkv (List.range (2 * t)) fun e => nv (ν e)) (ki (2 * t)) (nv (2 * x + b))))
    have op6 := op5.put (.dK (putK (dkv (List.range (2 * t)) fun e => nv (ν e)) (ki (2 * t)) (nv (2 * x + b))))
    have oq6 := oq5.other nqp (u := .dK (putK (dkv (List.range (2 * t)) fun e => nv (ν e)) (ki (2 * t)) (nv (2 * x + b))))
    refine s_dput (k := ki (2 * t + 1)) (v := nv (2 * x + 1 - b)) (vnat (v_sub (v_add (i2 _ 8 x rfl _) v_c) (v_ixN (j := m + t) (v_var rfl) (hpk.le e6.le) (vnat (v_add (v_var rfl) (v_var rfl)) (by omega)) hb)) (by omega)) (v_var rfl) (vnat (v_add (i2 _ 7 t rfl _) v_c) (by omega)) op6.h (by rw [dkv_newV (by simp), dkv_len]; simp; omega) ?_
    rw [dkv_range]
    have heq : (dkv (List.range (2 * (t + 1))) fun n => if n = 2 * t + 1 then nv (2 * x + 1 - b) else if n = 2 * t then nv (2 * x + b) else nv (ν n)) = dkv (List.range (2 * (t + 1))) fun e => nv (nmx t x b ν e) := dkv_congr fun n _ => by
      unfold nmx
      split
      · rfl
      · split <;> rfl
    rw [heq]
    exact ⟨_, _, ls.eraseIdx d, nmx t x b ν, rfl, e6.put op6 _, oq6.other nqp, op6.put _, N.step hx hbl⟩
  · rintro σ4 H4 ⟨x7, x8, ls, ν, rfl, e4, oq4, op4, N⟩
    -- left = [[names[end] for end in row] for row in rows]
    obtain ⟨a, us, rfl, ha, hus⟩ := id hv1
    refine q_set (n_lcB (B := B1) (fun B' y i => ∃ r, rows[i]? = some r ∧ LN K B' y (r.map ν)) (fun B2 B3 y i e ⟨r, h1, h2⟩ => ⟨r, h1, h2.le e.le⟩) e4.le (v_var rfl) ha (by rw [hus.1]; omega) (fun _ => rfl) ?_) ?_
    · intro i x B5 H5 hi e5
      obtain ⟨r, hr, hxr⟩ := hus.getV hi
      have hrm := List.mem_of_getElem? hr
      refine (n_lcN (B := B5) (fun _ => true) (fun n => nv (ν n)) e5.le (v_var rfl) (hxr.le e5.bb.le) (by have := hrow r hrm; omega) (fun _ => rfl) (fun _ _ _ _ => a_yes) (fun n H' hn e _ => v_get (n := n) (f := fun e => nv (ν e)) (v_var rfl) (DK.of (e p _ (e5.hh p _ op4.h))) (v_var rfl) (List.mem_range.mpr (D.part.lt hrm hn)))).mono ?_
      rintro w H6 ⟨d, hd, rfl, rfl⟩
      refine ⟨_, Ext.new e5.le hd, r, hr, .of ?_⟩
      rw [upd_same, show r.filter (fun _ => true) = r from List.filter_eq_self.mpr fun _ _ => rfl, List.map_map]; rfl
    rintro w5 H5 ⟨q2, B5, ys, rfl, e5', oq5', hyl, hys⟩
    have e5 := e4.trans e5'
    have oq5 : Own H B5 H5 q2 (.lst ys) := ⟨e4.hh.free oq5'.h0, oq5'.b, oq5'.h⟩
    have hys : Each (LN K B5) ys (rows.map (List.map ν)) := ⟨by rw [hyl, hus.1, List.length_map], fun i y x h1 h2 => by
      obtain ⟨r, hr, h3⟩ := hys i y h1
      rw [List.getElem?_map, hr] at h2
      cases h2
      exact h3⟩
    -- found
    refine q_set (n_lst g_nil (by simp)) ?_
    rintro w6 H6 ⟨p2, hp2, rfl, rfl⟩
    have e6 := e5.own hp2 (o := .lst [])
    have op6 : Own H B5 _ p2 (.lst []) := Own.of_new e5.hh e5.le hp2
    have nqp2 : q2 ≠ p2 := ne_of_none oq5.h hp2
    have oq6 := oq5.other nqp2 (u := .lst [])
    refine q_seq (f_rng (n := rows.length) (v_lenL (v_var rfl) (hv1.le (e5'.bb.le.trans e6.le))) (by omega)
      (fun i σ H' => ∃ (x4 : Option V) (ys zs : List V) (ls fs : List (List Nat)), σ = [some (.ref a), some (nv m), some (.int c), some pk, x4, some (.ref q2), some (.ref p), x7, x8, none, none, some (.ref p2)] ∧ Ext B H B5 H' ∧ Own H B5 H' q2 (.lst ys) ∧ Own H B5 H' p2 (.lst zs) ∧ Each (LN K B5) ys ls ∧ Each (LN K B5) zs fs ∧ (fs ++ ls).Perm (rows.map (List.map ν)) ∧ ls.length + i = rows.length ∧ fs.length = i)
      ⟨none, ys, [], rows.map (List.map ν), [], rfl, e6, oq6, op6, hys, Each.nil, .refl _, by simp, rfl⟩ ?_ ?_)
    · rintro i σ7 H7 hi ⟨x4, ys, zs, ls, fs, rfl, e7, oq7, op7, hys, hzs, hpm, hll, hfl⟩
      obtain ⟨d, hd, hdl⟩ := pick3 i hi
      have hx : ls[d]? = some (ls[d]'(by omega)) := List.getElem?_eq_getElem (by omega)
      generalize (ls[d]'(by omega)) = x at hx
      obtain ⟨y, hy, hyx⟩ := hys.get hx
      have hyl : ys.length ≤ 200 := by rw [hys.1]; omega
      refine s_appH (v_var rfl) (.of op7.h) (n_popAt (K := K) (j := d) (v_var rfl) (v_ixN (j := 2 * m + i) (v_var rfl) (hpk.le (e5'.bb.le.trans e7.le)) (vnat (v_add (v_mul v_c (v_var rfl) (.inl ⟨by decide, by decide⟩)) (v_var rfl)) (by omega)) hd) oq7.h (by omega) hy) ?_
      rintro w8 H8 ⟨rfl, rfl⟩
      have e8 := e7.put oq7 (.lst (ys.eraseIdx d))
      have oq8 := oq7.put (.lst (ys.eraseIdx d))
      have op8 := op7.other nqp2.symm (u := .lst (ys.eraseIdx d))
      refine ⟨zs, op8.h, by rw [hzs.1]; omega, _, ys.eraseIdx d, zs ++ [w8], ls.eraseIdx d, fs ++ [x], rfl, e8.put op8 _, oq8.other nqp2, op8.put _, erase_each hys, hzs.snoc hyx, ?_, ?_, by simp [hfl]⟩
      · have p1 := erase_perm hx
        have : (fs ++ [x] ++ ls.eraseIdx d).Perm (fs ++ ls) := by
          rw [List.append_assoc]
          exact p1.symm.append_left fs
        exact this.trans hpm
      · rw [List.length_eraseIdx, if_pos (by omega)]; omega
    · rintro σ7 H7 ⟨x4, ys, zs, ls, fs, rfl, e7, oq7, op7, hys, hzs, hpm, hll, hfl⟩
      have hl0 : ls = [] := List.eq_nil_of_length_eq_zero (by omega)
      subst hl0
      rw [List.append_nil] at hpm
      have e8 := e7.freeze op7
      have hf8 : LL K (upd B5 p2 (.lst zs)) (.ref p2) fs := .of upd_same (hzs.mono fun v x h => LN.le h (Ex.new op7.b).le)
      refine s_ret (call_settled (B := upd B5 p2 (.lst zs)) (rows := fs) (val_vh (v_var rfl)) ?_ (by omega) (fun r hr => ?_)) ?_
      · rintro v' H7 ⟨rfl, rfl⟩
        exact ⟨_, Ext.refl e8.le, hf8⟩
      · obtain ⟨r0, hr0, rfl⟩ := List.mem_map.mp (hpm.mem_iff.mp hr)
        rw [List.length_map]
        have := hrow r0 hr0
        omega
      · rintro w H9 ⟨B9, rows', e9, hw, ht⟩
        refine k _ _ _ (e8.trans e9) ⟨rows', hw, R.renamed ν (fun e he => (N.ok e he).1) N.inj (fun e he => (N.ok e he).2.2) hpm ht, ?_⟩
        rw [ht.1, hpm.length_eq, List.length_map]
end
end Rf
end
section
set_option linter.all false
set_option autoImplicit false
set_option maxRecDepth 100000
set_option maxHeartbeats 1000000
/-! P26: _law_numbers, _law_kind. -/
namespace Rf
open PySem L2
section
variable {K : PySem.W.Frag} {σ : St} {B H : Hp} {ta tb tc te tl tn : TE} {g : TG} {D : Ends}
/-- a, b, .. = a list -/
theorem q_unl2 {t2 : TS} {i j : Nat} {P : V → Hp → Prop} (h : VH te σ H P) (k : ∀ w H', P w H' → ∃ a b, LN K H' w [a, b] ∧ t2 D ((σ.set i (some (nv a))).set j (some (nv b))) H') : tSeq (tAsg te (gUnl K 2 (gCons (gName i) (gCons (gName j) gNil)))) t2 D σ H := h _ fun w H' p => by
  obtain ⟨a, b, ⟨r, rfl, hr⟩, q⟩ := k w H' p
  exact ⟨r, _, rfl, hr, rfl, _, _, rfl, _, _, rfl, rfl, q⟩
theorem q_unl3 {t2 : TS} {i j l : Nat} {P : V → Hp → Prop} (h : VH te σ H P) (k : ∀ w H', P w H' → ∃ a b c, LN K H' w [a, b, c] ∧ t2 D (((σ.set i (some (nv a))).set j (some (nv b))).set l (some (nv c))) H') : tSeq (tAsg te (gUnl K 3 (gCons (gName i) (gCons (gName j) (gCons (gName l) gNil))))) t2 D σ H := h _ fun w H' p => by
  obtain ⟨a, b, c, ⟨r, rfl, hr⟩, q⟩ := k w H' p
  exact ⟨r, _, rfl, hr, rfl, _, _, rfl, _, _, rfl, _, _, rfl, rfl, q⟩
theorem q_unl4 {t2 : TS} {i j l o : Nat} {P : V → Hp → Prop} (h : VH te σ H P) (k : ∀ w H', P w H' → ∃ a b c d, LN K H' w [a, b, c, d] ∧ t2 D ((((σ.set i (some (nv a))).set j (some (nv b))).set l (some (nv c))).set o (some (nv d))) H') : tSeq (tAsg te (gUnl K 4 (gCons (gName i) (gCons (gName j) (gCons (gName l) (gCons (gName o) gNil)))))) t2 D σ H := h _ fun w H' p => by
  obtain ⟨a, b, c, d, ⟨r, rfl, hr⟩, q⟩ := k w H' p
  exact ⟨r, _, rfl, hr, rfl, _, _, rfl, _, _, rfl, _, _, rfl, _, _, rfl, rfl, q⟩
theorem len2 {l : List Nat} (h : l.length = 2) : ∃ a b, l = [a, b] := by
  match l, h with
  | [a, b], _ => exact ⟨a, b, rfl⟩
theorem len3 {l : List Nat} (h : l.length = 3) : ∃ a b c, l = [a, b, c] := by
  match l, h with
  | [a, b, c], _ => exact ⟨a, b, c, rfl⟩
theorem len4 {l : List Nat} (h : l.length = 4) : ∃ a b c d, l = [a, b, c, d] := by
  match l, h with
  | [a, b, c, d], _ => exact ⟨a, b, c, d, rfl⟩
/-- a new list of written numbers -/
theorem n_lstN {ta : TA} {ns : List Nat} (l : Le B H) (h : Arg ta σ H (ns.map nv)) (hz : ns.length ≤ 1000) : VH (tLst ta) σ H fun w H' => ∃ B', Ext B H B' H' ∧ LN K B' w ns :=
  (n_lst h (by rw [List.length_map]; omega)).mono (by
    rintro w H' ⟨p, hp, rfl, rfl⟩
    exact ⟨_, Ext.new l hp, .of upd_same⟩)

/-! ### _law_numbers -/
structure Rcs (R C S : Nat) : Prop where
  r : 0 < R
  s : S < C
  m : R * C ≤ 40
theorem Rcs.rl {R C S : Nat} (h : Rcs R C S) : R ≤ 40 := Nat.le_trans (Nat.le_mul_of_pos_right R (by have := h.s; omega)) h.m
theorem Rcs.cl {R C S : Nat} (h : Rcs R C S) : C ≤ 40 := Nat.le_trans (Nat.le_mul_of_pos_left C h.r) h.m
def sp_numbers (K : PySem.W.Frag) : Sp := fun vs H Q _ => ∃ B c, vs = [.int c, nv 40] ∧ Le B H ∧ Ret B H (fun w B' => ∃ p R C S, w = .ref p ∧ SqT K B' p [nv R, nv C, nv S] ∧ Rcs R C S) Q
theorem call_numbers {P : V → Hp → Prop} (h : VH ta σ H P) (hP : ∀ w H', P w H' → (∃ c, w = .int c) ∧ H' = H) (h2 : Val tb σ H (nv 40)) (l : Le B H) : VH (tCall (sp_numbers K) [] E0 (tCons ta (tCons tb tNil))) σ H fun w H' => ∃ B' p R C S, Ext B H B' H' ∧ w = .ref p ∧ SqT K B' p [nv R, nv C, nv S] ∧ Rcs R C S := fun Q q =>
  h _ fun w H' p => by
    obtain ⟨⟨c, rfl⟩, rfl⟩ := hP w H' p
    exact h2 _ ⟨B, c, rfl, l, fun w B' H' e ⟨p, R, C, S, k1, k2, k3⟩ => q w H' ⟨B', p, R, C, S, e, k1, k2, k3⟩⟩
theorem r__law_numbers (vs : List V) (H : Hp) (Q : VK) (E : XK) (h : sp_numbers K vs H Q E) : t__law_numbers K (sp_draws K) { nx := fun _ H' => Q .non H', rt := Q } (L2.start N__law_numbers vs) H := by
  obtain ⟨B, c, rfl, hl, k⟩ := h
  refine q_unl4 (call_draws (B := B) (ns := [7, 40, 5040, 5040]) (val_vh (v_var rfl)) ?_ (by simp) (by simp)) ?_
  · rintro w H ⟨rfl, rfl⟩
    exact ⟨⟨c, rfl⟩, n_lstN (ns := [7, 40, 5040, 5040]) hl (g_cons v_c (g_cons v_c (g_cons v_c (g_cons v_c g_nil)))) (by simp)⟩
  rintro w H1 ⟨B1, ds, e1, hw, hds⟩
  obtain ⟨a, b, d, e, rfl⟩ := len4 (l := ds) hds.1
  refine ⟨a, b, d, e, hw.le e1.le, ?_⟩
  have ha : a < 7 := hds.2 0 a 7 rfl rfl
  have hb : b < 40 := hds.2 1 b 40 rfl rfl
  refine q_setV (v := nv (1 + a)) (vnat (v_add v_c (v_var rfl)) (by omega)) ?_
  refine q_join (fun σ' H' => ∃ R, 0 < R ∧ R ≤ 40 ∧ σ' = [some (.int c), some (nv 40), some (nv a), some (nv b), some (nv d), some (nv e), some (nv R), none] ∧ H' = H1) (a_t (v_eqI (v_var rfl) v_c)) ?_ (fun _ nx hk => s_setV (v := nv (1 + b % 40)) (vnat (v_add v_c (v_mod (v_var rfl) (v_var rfl) (by decide))) (by omega)) (hk _ _ ⟨1 + b % 40, by omega, by omega, rfl, rfl⟩)) (fun _ nx hk => hk _ _ ⟨1 + a, by omega, by omega, rfl, rfl⟩)
  rintro σ2 H1 ⟨R, hR0, hR1, rfl, rfl⟩
  have hq : 0 < 40 / R := Nat.div_pos hR1 hR0
  refine q_setV (v := nv (1 + d % (40 / R))) (vnat (v_add v_c (v_mod (v_var rfl) (vint (j := ((40 / R : Nat) : Int)) (v_max v_c (v_div (j := R) (v_var rfl) (v_var rfl) ⟨by omega, by omega⟩)) ?_) (by omega))) (by omega)) ?_
  · have : ((40 : Nat) : Int) / (R : Int) = ((40 / R : Nat) : Int) := (Int.natCast_ediv 40 R).symm
    rw [this]
    split <;> omega
  have hm := Nat.mod_lt d hq
  have hC : 0 < 1 + d % (40 / R) := by omega
  have hle : R * (1 + d % (40 / R)) ≤ 40 := Nat.le_trans (Nat.mul_le_mul_left R (by omega : 1 + d % (40 / R) ≤ 40 / R)) (by rw [Nat.mul_comm]; exact Nat.div_mul_le_self 40 R)
  generalize 1 + d % (40 / R) = C at hC hle
  refine s_ret (n_tup (vs := [nv R, nv C, nv (e % C)]) (g_cons (v_var rfl) (g_cons (v_var rfl) (g_cons (vnat (v_mod (v_var rfl) (v_var rfl) (by omega)) (Int.natCast_emod e C).symm) g_nil))) (by simp)) ?_
  rintro w H2 ⟨p, hp, rfl, rfl⟩
  exact k _ _ _ (e1.trans (Ext.new e1.le hp)) ⟨p, R, C, e % C, rfl, .of upd_same, hR0, Nat.mod_lt _ hC, hle⟩

/-! ### _law_kind -/
def sortV (b : Bool) : V := if b then .str "fours" else .str "threes"
theorem mod_near {a : Int} {C : Nat} (h1 : -(C : Int) ≤ a) (h2 : a < C) (hC : 0 < C) : a % (C : Int) = if a < 0 then a + C else a := by
  by_cases h : a < 0
  · rw [if_pos h, ← Int.add_emod_right a (C : Int)]
    exact Int.emod_eq_of_lt (by omega) (by omega)
  · rw [if_neg h]
    exact Int.emod_eq_of_lt (by omega) h2
theorem tLf_at {C i j : Nat} (h : j < C) : tLf C (at2 C i j) = at2 C i (cl C j) := by unfold tLf; rw [at_div h, at_mod h]
theorem tBl_at {R C S i j : Nat} (h : j < C) : tBl R C S (at2 C i j) = if i = 0 then at2 C (R - 1) (sd C S j) else at2 C (i - 1) j := by unfold tBl; rw [at_div h, at_mod h]
theorem at_int (C i j : Nat) : ((at2 C i j : Nat) : Int) = (i : Int) * (C : Int) + (j : Int) := by unfold at2; simp
def kindRow (b : Bool) (R C S p : Nat) : List Nat := if b then row4 (tLf C) (tBl R C S) p else row6 (tLf C) (tBl R C S) p
def sp_kind (K : PySem.W.Frag) : Sp := fun vs H Q _ => ∃ B b R C S, vs = [sortV b, nv R, nv C, nv S] ∧ Le B H ∧ Rcs R C S ∧ Ret B H (fun w B' => ∃ rows, LL K B' w rows ∧ Ring rows ((if b then 2 else 3) * rows.length) ∧ rows.length ≤ 40) Q
theorem r__law_kind (vs : List V) (H : Hp) (Q : VK) (E : XK) (h : sp_kind K vs H Q E) : t__law_kind K (sp_settled K) { nx := fun _ H' => Q .non H', rt := Q } (L2.start N__law_kind vs) H := by
  obtain ⟨B, b, R, C, S, rfl, hl, hc, k⟩ := h
  have hRl := hc.rl
  have hCl := hc.cl
  have hS := hc.s
  have hR := hc.r
  have hm := hc.m
  refine q_set (n_lst g_nil (by simp)) ?_
  rintro w1 H1 ⟨p, hp, rfl, rfl⟩
  have e1 := (Ext.refl hl).own hp (o := .lst [])
  have o1 : Own H B _ p (.lst []) := Own.of_new (.refl H) hl hp
  refine q_seq (f_rng (n := R) (v_var rfl) (by omega)
    (fun i σ H' => ∃ (x5 x6 x7 x8 x9 x10 x11 : Option V) (B' : Hp) (ys : List V), σ = [some (sortV b), some (nv R), some (nv C), some (nv S), some (.ref p), x5, x6, x7, x8, x9, x10, x11] ∧ Ext B H B' H' ∧ Own H B' H' p (.lst ys) ∧ Each (LN K B') ys ((List.range (i * C)).map (kindRow b R C S)))
    ⟨none, none, none, none, none, none, none, B, [], rfl, e1, o1, by rw [Nat.zero_mul]; exact Each.nil⟩ ?_ ?_)
  · rintro i σ2 H2 hi ⟨x5, x6, x7, x8, x9, x10, x11, B2, ys, rfl, e2, o2, hys⟩
    refine f_rng (n := C) (v_var rfl) (by omega)
      (fun j σ H' => ∃ (x6 x7 x8 x9 x10 x11 : Option V) (B' : Hp) (ys : List V), σ = [some (sortV b), some (nv R), some (nv C), some (nv S), some (.ref p), some (nv i), x6, x7, x8, x9, x10, x11] ∧ Ext B H B' H' ∧ Own H B' H' p (.lst ys) ∧ Each (LN K B') ys ((List.range (i * C + j)).map (kindRow b R C S)))
      ⟨x6, x7, x8, x9, x10, x11, B2, ys, rfl, e2, o2, hys⟩ ?_ ?_
    · rintro j σ3 H3 hj ⟨x6, x7, x8, x9, x10, x11, B3, ys, rfl, e3, o3, hys⟩
      have hlt : at2 C i j < R * C := at_lt hi hj
      have hij : at2 C i j = i * C + j := rfl
      have hclj : cl C j < C := by unfold cl; split <;> omega
      have hcl : ((j : Int) - 1) % (C : Int) = (cl C j : Int) := by
        rw [mod_near (by omega) (by omega) (by omega)]
        unfold cl
        split <;> split <;> omega
      have hsd : ((j : Int) - (S : Int)) % (C : Int) = (sd C S j : Int) := by
        rw [mod_near (by omega) (by omega) (by omega)]
        unfold sd
        split <;> split <;> omega
      have hsc : ((j : Int) - 1 - (S : Int)) % (C : Int) = (sd C S (cl C j) : Int) := by
        rw [mod_near (by omega) (by omega) (by omega)]
        unfold sd cl
        repeat' split
        all_goals omega
      -- here, left, below, slanted
      refine q_setV (v := nv (at2 C i j)) (vnat (v_add (v_mul (v_var rfl) (v_var rfl) (.inr ⟨by omega, by omega⟩)) (v_var rfl)) (at_int C i j).symm) ?_
      refine q_setV (v := nv (at2 C i (cl C j))) (vnat (v_add (v_mul (v_var rfl) (v_var rfl) (.inr ⟨by omega, by omega⟩)) (v_mod (v_sub (v_var rfl) v_c) (v_var rfl) (by omega))) (by rw [hcl]; exact (at_int C i _).symm)) ?_
      refine q_setV (v_sub (v_var rfl) (v_var rfl)) (q_setV (v_sub (v_var rfl) (v_var rfl)) ?_)
      refine q_join (fun σ' H' => σ' = [some (sortV b), some (nv R), some (nv C), some (nv S), some (.ref p), some (nv i), some (nv j), some (nv (at2 C i j)), some (nv (tLf C (at2 C i j))), some (nv (tBl R C S (at2 C i j))), some (nv (tBl R C S (tLf C (at2 C i j)))), x11] ∧ H' = H3) (a_t (v_eqI (v_var rfl) v_c)) ?_ (fun hb nx hk => ?_) (fun hb nx hk => ?_)
      · rintro σ4 H3 ⟨rfl, rfl⟩
        generalize hh : at2 C i j = h at hlt hij
        have hl0 : tLf C h < R * C := by rw [← hh, tLf_at hj]; exact at_lt hi hclj
        have hb0 : ∀ x, x < R * C → tBl R C S x < R * C := fun x hx => ((tor_of hS hR).lt x hx).2.2.2
        have hb1 := hb0 h hlt
        have hb2 := hb0 _ hl0
        have hyl : ys.length ≤ 40 := by
          have := hys.1
          simp at this
          omega
        have lin : ∀ (σ' : St) (H' : Hp) (c i x : Nat), c ≤ 6 → σ'[i]? = some (some (nv x)) → Val (tOp rMulI (tC (.int (c : Int))) (tVar i)) σ' H' (nv (c * x)) := fun σ' H' c i x hc6 hx => vnat (v_mul v_c (v_var hx) (.inl ⟨by omega, by omega⟩)) (by rw [Int.natCast_mul])
        have lina : ∀ (σ' : St) (H' : Hp) (c i x d : Nat), c ≤ 6 → σ'[i]? = some (some (nv x)) → Val (tOp rAddI (tOp rMulI (tC (.int (c : Int))) (tVar i)) (tC (.int (d : Int)))) σ' H' (nv (c * x + d)) := fun σ' H' c i x d hc6 hx => vnat (v_add (lin σ' H' c i x hc6 hx) v_c) (by rw [Int.natCast_add])
        have fin : ∀ (x11 : Option V) (B4 H4 : Hp) (w : V), Ext B3 H3 B4 H4 → LN K B4 w (kindRow b R C S h) → ∃ xs, H4 p = some (.lst xs) ∧ xs.length < 100000 ∧ ∃ (x6 x7 x8 x9 x10 x11' : Option V) (B' : Hp) (ys : List V), [some (sortV b), some (nv R), some (nv C), some (nv S), some (.ref p), some (nv i), some (nv j), some (nv h), some (nv (tLf C h)), some (nv (tBl R C S h)), some (nv (tBl R C S (tLf C h))), x11] = [some (sortV b), some (nv R), some (nv C), some (nv S), some (.ref p), some (nv i), x6, x7, x8, x9, x10, x11'] ∧ Ext B H B' (upd H4 p (.lst (xs ++ [w]))) ∧ Own H B' (upd H4 p (.lst (xs ++ [w]))) p (.lst ys) ∧ Each (LN K B') ys ((List.range (i * C + (j + 1))).map (kindRow b R C S)) := fun x11 B4 H4 w e4 hw => by
          have o4 := o3.ext e4
          refine ⟨ys, o4.h, by omega, _, _, _, _, _, _, B4, ys ++ [w], rfl, (e3.trans e4).put o4 _, o4.put _, ?_⟩
          rw [show i * C + (j + 1) = (i * C + j) + 1 by omega, List.range_succ, List.map_append]
          exact (hys.mono fun v x h => LN.le h e4.bb.le).snoc (by rw [← hij]; exact hw)
        cases b with
        | true =>
          refine s_if (b := true) (a_t (vas (v_eq (v_var rfl) v_c rfl) rfl)) (fun _ => ?_) (fun h => by cases h)
          refine s_appH (v_var rfl) (.of o3.h) (n_lstN (K := K) (B := B3) (ns := row4 (tLf C) (tBl R C S) h) e3.le (g_cons (lina _ _ 4 7 h 2 (by decide) rfl) (g_cons (lin _ _ 4 7 h (by decide) rfl) (g_cons (lina _ _ 4 9 _ 3 (by decide) rfl) (g_cons (lina _ _ 4 8 _ 1 (by decide) rfl) g_nil)))) (by simp [row4])) ?_
          rintro w H4 ⟨B4, e4, hw⟩
          exact fin x11 B4 H4 w e4 hw
        | false =>
          refine s_if (b := false) (a_t (vas (v_eq (v_var rfl) v_c rfl) (by decide))) (fun h => by cases h) (fun _ => ?_)
          refine q_set (n_lst (vs := [6 * h + 2, 6 * h + 4, 6 * h].map nv) (g_cons (lina _ _ 6 7 h 2 (by decide) rfl) (g_cons (lina _ _ 6 7 h 4 (by decide) rfl) (g_cons (lin _ _ 6 7 h (by decide) rfl) g_nil))) (by simp)) ?_
          rintro w4 H4 ⟨q, hq, rfl, rfl⟩
          have e4 := (Ext.refl e3.le).own hq (o := .lst ([6 * h + 2, 6 * h + 4, 6 * h].map nv))
          refine s_appH (P := fun w H' => ∃ B', Ext B3 H3 B' H' ∧ LN K B' w (kindRow false R C S h)) (ys := ys) (v_var rfl) (sqL_le (K := K) (B := upd H3 q (.lst ([6 * h + 2, 6 * h + 4, 6 * h].map nv))) (.of (Ex.new hq p _ o3.h)) (.refl _)) (n_cat (v_var rfl) (n_lst (vs := [6 * tBl R C S h + 3, 6 * tBl R C S (tLf C h) + 5, 6 * tLf C h + 1].map nv) (g_cons (lina _ _ 6 9 _ 3 (by decide) rfl) (g_cons (lina _ _ 6 10 _ 5 (by decide) rfl) (g_cons (lina _ _ 6 8 _ 1 (by decide) rfl) g_nil))) (by simp)) ?_) ?_
          · rintro w5 H5 ⟨r, hr, rfl, rfl⟩
            have e5 := e4.own hr (o := .lst ([6 * tBl R C S h + 3, 6 * tBl R C S (tLf C h) + 5, 6 * tLf C h + 1].map nv))
            refine ⟨r, _, _, rfl, by rw [upd_ne (ne_of_none upd_same hr), upd_same], upd_same, by simp, fun d hd => ⟨_, e5.trans (Ext.new e5.le hd), .of ?_⟩⟩
            rw [upd_same]; rfl
          · rintro w H6 ⟨B6, e6, hw⟩
            exact fin _ B6 H6 w e6 hw
      · have hi0 : i = 0 := by have := of_decide_eq_true hb; omega
        subst hi0
        refine q_setV (v := nv (at2 C (R - 1) (sd C S j))) (vnat (v_add (v_mul (v_sub (v_var rfl) v_c) (v_var rfl) (.inr ⟨by omega, by omega⟩)) (v_mod (v_sub (v_var rfl) (v_var rfl)) (v_var rfl) (by omega))) (by rw [hsd, at_int, show ((R - 1 : Nat) : Int) = (R : Int) - 1 by omega])) ?_
        refine s_setV (v := nv (at2 C (R - 1) (sd C S (cl C j)))) (vnat (v_add (v_mul (v_sub (v_var rfl) v_c) (v_var rfl) (.inr ⟨by omega, by omega⟩)) (v_mod (v_sub (v_sub (v_var rfl) v_c) (v_var rfl)) (v_var rfl) (by omega))) (by rw [hsc, at_int, show ((R - 1 : Nat) : Int) = (R : Int) - 1 by omega])) ?_
        refine hk _ _ ⟨?_, rfl⟩
        rw [tLf_at hj, tBl_at hj, tBl_at hclj, if_pos rfl, if_pos rfl]
        rfl
      · have hi0 : i ≠ 0 := by have := of_decide_eq_false hb; omega
        have sub : ∀ j, ((at2 C i j : Nat) : Int) - (C : Int) = ((at2 C (i - 1) j : Nat) : Int) := fun j => by
          obtain ⟨i', rfl⟩ : ∃ i', i = i' + 1 := ⟨i - 1, by omega⟩
          unfold at2
          rw [Nat.add_sub_cancel, Nat.succ_mul]
          omega
        refine hk _ _ ⟨?_, rfl⟩
        rw [tLf_at hj, tBl_at hj, tBl_at hclj, if_neg hi0, if_neg hi0]
        show [some (sortV b), some (nv R), some (nv C), some (nv S), some (.ref p), some (nv i), some (nv j), some (nv (at2 C i j)), some (nv (at2 C i (cl C j))), some (V.int (((at2 C i j : Nat) : Int) - (C : Int))), some (V.int (((at2 C i (cl C j) : Nat) : Int) - (C : Int))), x11] = _
        rw [sub, sub]; rfl
    · rintro σ3 H3 ⟨x6, x7, x8, x9, x10, x11, B3, ys, rfl, e3, o3, hys⟩
      exact ⟨_, _, _, _, _, _, _, B3, ys, rfl, e3, o3, by rw [Nat.succ_mul]; exact hys⟩
  · rintro σ2 H2 ⟨x5, x6, x7, x8, x9, x10, x11, B2, ys, rfl, e2, o2, hys⟩
    have e3 := e2.freeze o2
    have hrows : LL K (upd B2 p (.lst ys)) (.ref p) ((List.range (R * C)).map (kindRow b R C S)) := .of upd_same (hys.mono fun v x h => LN.le h (Ex.new o2.b).le)
    have t := tor_of hS hR
    have hring : Ring ((List.range (R * C)).map (kindRow b R C S)) ((if b then 2 else 3) * (R * C)) := by
      cases b with
      | true => exact t.fours
      | false => exact t.threes
    refine s_ret (call_settled (B := upd B2 p (.lst ys)) (rows := (List.range (R * C)).map (kindRow b R C S)) (val_vh (v_var rfl)) ?_ (by simp; omega) (fun r hr => ?_)) ?_
    · rintro v' H2 ⟨rfl, rfl⟩
      exact ⟨_, Ext.refl e3.le, hrows⟩
    · obtain ⟨x, _, rfl⟩ := List.mem_map.mp hr
      unfold kindRow
      split <;> simp [row4, row6]
    · rintro w H3 ⟨B3, rows', e4, hw, ht⟩
      have hlen : rows'.length = R * C := by rw [ht.1]; simp
      exact k _ _ _ (e3.trans e4) ⟨rows', hw, by rw [hlen]; exact hring.turned ht, by omega⟩
end
end Rf
end
section
set_option linter.all false
set_option autoImplicit false
set_option maxRecDepth 100000
set_option maxHeartbeats 1000000
/-! P27: _law_tied: it changes the rows that it is handed. -/
namespace Rf
open PySem L2
section
variable {K : PySem.W.Frag} {σ : St} {B H : Hp} {ta tb tc te tl tn : TE} {g : TG} {D : Ends}
/-- a list of lists that may be changed -/
structure Rw (p : Addr) (as : List Addr) (rows : List (List Nat)) (H : Hp) : Prop where
  top : H p = some (.lst (as.map V.ref))
  len : as.length = rows.length
  row : ∀ (i : Nat) (a : Addr) (r : List Nat), as[i]? = some a → rows[i]? = some r → H a = some (.lst (r.map nv))
/-- nothing else was changed -/
def Chg (as : List Addr) (H H' : Hp) : Prop := ∀ a o, a ∉ as → H a = some o → H' a = some o
theorem Chg.refl (as : List Addr) (H : Hp) : Chg as H H := fun _ _ _ h => h
theorem Chg.trans {as : List Addr} {H H1 H2 : Hp} (a : Chg as H H1) (b : Chg as H1 H2) : Chg as H H2 := fun x o h k => b x o h (a x o h k)
theorem Ex.chg {as : List Addr} {H H' : Hp} (e : Ex H H') : Chg as H H' := fun a o _ h => e a o h
theorem Chg.put {as : List Addr} {H H' : Hp} (c : Chg as H H') {a : Addr} (h : a ∈ as) (o : HO) : Chg as H (upd H' a o) := fun x u hx k => by
  rw [upd_ne (fun z => hx (by rw [z]; exact h))]
  exact c x u hx k
theorem Rw.ex {p : Addr} {as : List Addr} {rows : List (List Nat)} {H' : Hp} (w : Rw p as rows H) (e : Ex H H') : Rw p as rows H' := ⟨e _ _ w.top, w.len, fun i a r h1 h2 => e _ _ (w.row i a r h1 h2)⟩
theorem Rw.ll {p : Addr} {as : List Addr} {rows : List (List Nat)} (w : Rw p as rows H) : LL K H (.ref p) rows := LL.of w.top ⟨by rw [List.length_map]; exact w.len, fun i v r h1 h2 => by
  rw [List.getElem?_map] at h1
  obtain ⟨a, ha, rfl⟩ := Option.map_eq_some_iff.mp h1
  exact .of (w.row i a r ha h2)⟩
theorem Rw.put {p : Addr} {as : List Addr} {rows : List (List Nat)} (w : Rw p as rows H) (hn : as.Nodup) (hp : p ∉ as) {j : Nat} {a : Addr} {r' : List Nat} (ha : as[j]? = some a) : Rw p as (rows.set j r') (upd H a (.lst (r'.map nv))) := by
  refine ⟨?_, by rw [List.length_set]; exact w.len, fun i b r h1 h2 => ?_⟩
  · rw [upd_ne (fun z => hp (by rw [z]; exact List.mem_of_getElem? ha))]; exact w.top
  · by_cases hij : j = i
    · subst hij
      rw [ha] at h1
      cases h1
      have hlt := (List.getElem?_eq_some_iff.mp h2).1
      rw [List.length_set] at hlt
      rw [List.getElem?_set_self hlt] at h2
      cases h2
      rw [upd_same]
    · have hab : b ≠ a := fun z => by
        subst z
        obtain ⟨l1, e1⟩ := List.getElem?_eq_some_iff.mp ha
        obtain ⟨l2, e2⟩ := List.getElem?_eq_some_iff.mp h1
        exact hij ((List.getElem_inj hn).mp (e1.trans e2.symm))
      rw [List.getElem?_set_ne hij] at h2
      rw [upd_ne hab]; exact w.row i b r h1 h2
/-- rows half done -/
def half (f : List Nat → List Nat) (rows : List (List Nat)) (j : Nat) : List (List Nat) := (rows.take j).map f ++ rows.drop j
theorem half_zero (f : List Nat → List Nat) (rows : List (List Nat)) : half f rows 0 = rows := by simp [half]
theorem half_all (f : List Nat → List Nat) (rows : List (List Nat)) : half f rows rows.length = rows.map f := by simp [half]
theorem half_at {f : List Nat → List Nat} {rows : List (List Nat)} {j : Nat} {r : List Nat} (h : rows[j]? = some r) : (half f rows j)[j]? = some r := by
  have hl := (List.getElem?_eq_some_iff.mp h).1
  unfold half
  rw [List.getElem?_append_right (by simp; omega)]
  simp only [List.length_map, List.length_take, Nat.min_eq_left (Nat.le_of_lt hl), Nat.sub_self, List.getElem?_drop, Nat.add_zero]
  exact h
theorem half_succ {f : List Nat → List Nat} {rows : List (List Nat)} {j : Nat} {r : List Nat} (h : rows[j]? = some r) : half f rows (j + 1) = (half f rows j).set j (f r) := by
  have hl := (List.getElem?_eq_some_iff.mp h).1
  have hr := (List.getElem?_eq_some_iff.mp h).2
  unfold half
  rw [take_snoc h, List.map_append, List.set_append_right _ _ (by simp; omega)]
  simp only [List.length_map, List.length_take, Nat.min_eq_left (Nat.le_of_lt hl), Nat.sub_self]
  rw [List.drop_eq_getElem_cons hl, List.set_cons_zero, List.append_assoc]; rfl
theorem insB_len (e x : Nat) (r : List Nat) : (insB e x r).length ≤ r.length + 1 := by
  unfold insB
  split
  · simp; omega
  · omega
theorem insB_map {e x : Nat} {r : List Nat} (h : e ∈ r) : (insB e x r).map nv = (r.map nv).take (r.idxOf e) ++ [nv x] ++ (r.map nv).drop (r.idxOf e) := by
  unfold insB
  rw [if_pos h, List.map_append, List.map_append, List.map_take, List.map_drop]; rfl
/-- [k for k in range(n) if ..] -/
theorem n_lcRf {n : Nat} {j : Nat} {vs : List Nat} {tt : TT} (f : Nat → Bool) (hl : Val ta σ H (nv n)) (hz : n < 100000) (hw : ∀ x, wipe ((wipe σ vs).set j (some x)) vs = wipe σ vs)
    (ht : ∀ i H', i < n → Ex H H' → Ans tt ((wipe σ vs).set j (some (nv i))) H' (f i)) (he : ∀ i H', i < n → Ex H H' → Val te ((wipe σ vs).set j (some (nv i))) H' (nv i)) :
    VH (tLc (iRng1 (tCons ta tNil)) (gName j) tt te vs) σ H fun w H' => ∃ D, H D = none ∧ w = .ref D ∧ H' = upd H D (.lst (((List.range n).filter f).map nv)) := by
  refine (n_lcR (fun x => match x with | .int z => f z.toNat | _ => false) id hl hz hw (fun i H' hi e => ?_) (fun i H' hi e _ => he i H' hi e)).mono ?_
  · have : (match nv i with | .int z => f z.toNat | _ => false) = f i := by show f (i : Int).toNat = f i; rw [Int.toNat_natCast]
    rw [this]; exact ht i H' hi e
  · rintro w H' ⟨d, h1, h2, h3⟩
    refine ⟨d, h1, h2, ?_⟩
    rw [h3, List.map_id, List.filter_map]
    congr 3
/-- [(a, b), (c, d)] -/
theorem n_pairs {t1 t2 t3 t4 : TE} {a b c d : V} (h1 : ∀ H', Ex H H' → Val t1 σ H' a) (h2 : ∀ H', Ex H H' → Val t2 σ H' b) (h3 : ∀ H', Ex H H' → Val t3 σ H' c) (h4 : ∀ H', Ex H H' → Val t4 σ H' d) :
    VH (tLst (tCons (tTup (tCons t1 (tCons t2 tNil))) (tCons (tTup (tCons t3 (tCons t4 tNil))) tNil))) σ H fun w H' => ∃ L p q, w = .ref L ∧ Ex H H' ∧ H L = none ∧ H p = none ∧ H q = none ∧ H' L = some (.lst [.ref p, .ref q]) ∧ H' p = some (.tup [a, b]) ∧ H' q = some (.tup [c, d]) := fun Q k => by
  refine (fun (h : tTup (tCons t1 (tCons t2 tNil)) σ H (fun v H1 => tTup (tCons t3 (tCons t4 tNil)) σ H1 fun v2 H2 => ([v, v2] : List V).length ≤ sizeLine ∧ ∀ p, H2 p = none → Q (.ref p) (upd H2 p (.lst [v, v2])))) => h) ?_
  refine n_tup (g_cons (h1 _ (.refl H)) (g_cons (h2 _ (.refl H)) g_nil)) (by simp) _ ?_
  rintro w1 H1 ⟨p, hp, rfl, rfl⟩
  have e1 : Ex H (upd H p (.tup [a, b])) := .new hp
  refine n_tup (g_cons (h3 _ e1) (g_cons (h4 _ e1) g_nil)) (by simp) _ ?_
  rintro w2 H2 ⟨q, hq, rfl, rfl⟩
  have e2 : Ex (upd H p (.tup [a, b])) (upd (upd H p (.tup [a, b])) q (.tup [c, d])) := .new hq
  refine ⟨Nat.le_trans (by simp : _ ≤ 100000) (by decide), fun L hL => ?_⟩
  have e3 : Ex (upd (upd H p (.tup [a, b])) q (.tup [c, d])) (upd (upd (upd H p (.tup [a, b])) q (.tup [c, d])) L (.lst [.ref p, .ref q])) := .new hL
  exact k _ _ ⟨L, p, q, rfl, e1.trans (e2.trans e3), (e1.trans e2).free hL, hp, e1.free hq, upd_same, e3 _ _ (e2 _ _ upd_same), e3 _ _ upd_same⟩
def sp_tied (K : PySem.W.Frag) : Sp := fun vs H Q _ => ∃ p as rows m one two high, vs = [.ref p, nv m, nv one, nv two, .bl high] ∧ Rw p as rows H ∧ as.Nodup ∧ p ∉ as ∧
  ((m = 0 ∧ rows = [[]] ∧ ∀ H', Chg as H H' → Rw p as [[0, 1]] H' → Q .non H') ∨
   (0 < m ∧ Dw rows m ∧ (high = true → 2 ≤ (landsOf rows m).length) ∧ ∀ H' f s, f < 2 * m → s < 2 * m → (high = true ↔ seat (landsOf rows m) f ≠ seat (landsOf rows m) s) → Chg as H H' → Rw p as ((rows.map (insB f (2 * m))).map (insB s (2 * m + 1))) H' → Q .non H'))
theorem r__law_tied (vs : List V) (H : Hp) (Q : VK) (E : XK) (h : sp_tied K vs H Q E) : t__law_tied K (sp_lands K) { nx := fun _ H' => Q .non H', rt := Q } (L2.start N__law_tied vs) H := by
  obtain ⟨p, as, rows, m, one, two, high, rfl, hw, hn, hp, hcase⟩ := h
  rcases hcase with ⟨rfl, rfl, k⟩ | ⟨hm0, D, hhi, k⟩
  · refine q_if (b := true) (a_t (vas (v_eqI (v_var rfl) v_c) rfl)) (fun _ => ?_) (fun h => by cases h)
    obtain ⟨a0, rfl⟩ : ∃ a0, as = [a0] := by
      have := hw.len
      match as, this with
      | [a0], _ => exact ⟨a0, rfl⟩
    have h0 : H a0 = some (.lst []) := hw.row 0 a0 [] rfl rfl
    refine q_drop (P := fun w H' => ∃ b, H b = none ∧ H' = upd (upd H b (.lst [nv 0, nv 1])) a0 (.lst ([] ++ [nv 0, nv 1]))) (fun Q' q' => ?_) ?_
    · unfold tBM
      refine v_ixL (K := K) (p := p) (xs := [.ref a0]) (j := 0) (v_var rfl) v_c (.of hw.top) rfl _ ⟨tyL (K := K) (xs := []) (.of h0), ?_⟩
      unfold tCons
      refine n_lst (vs := [nv 0, nv 1]) (g_cons v_c (g_cons v_c g_nil)) (by simp) _ ?_
      rintro w H1 ⟨b, hb, rfl, rfl⟩
      exact ⟨a0, b, [], [nv 0, nv 1], rfl, rfl, by rw [upd_ne (ne_of_none h0 hb)]; exact h0, upd_same, Nat.le_trans (by simp : _ ≤ 100000) (by decide), q' _ _ ⟨b, hb, rfl⟩⟩
    · rintro w H1 ⟨b, hb, rfl⟩
      refine k _ ((Ex.new hb).chg.put (by simp) _) ?_
      have := (hw.ex (Ex.new hb (o := .lst [nv 0, nv 1]))).put hn hp (j := 0) (a := a0) (r' := [0, 1]) rfl
      exact this
  · refine q_if (b := false) (a_t (vas (v_eqI (v_var rfl) v_c) (by rw [decide_eq_false]; omega))) (fun h => by cases h) (fun _ => ?_)
    have P := D.dr.lands
    have F := D.lfew
    have hms := D.sm
    -- lands, home
    refine q_set (call_lands (B := H) (v_var rfl) (.refl H) hw.ll D) ?_
    rintro b H1 ⟨B1, e1, hb⟩
    refine q_set n_dict ?_
    rintro w2 H2 ⟨d, hd, rfl, rfl⟩
    have e2 := e1.own hd (o := .dK [])
    have o2 : Own H B1 _ d (.dK []) := Own.of_new e1.hh e1.le hd
    refine q_seq (f_home (B := B1) (by decide) (by decide) (by decide) (by decide) (by decide) (by show 7 < 14; decide) (by show 8 < 14; decide) rfl rfl e2.le hb upd_same o2.b F.nd F.sn F.sf fun y z => ?_)
    dsimp only
    have e3 := (e2.put o2 (.dK (dkv (landsOf rows m).flatten fun e => nv (seat (landsOf rows m) e)))).hh
    have hh3 : DK (upd (upd H1 d (.dK [])) d (.dK (dkv (landsOf rows m).flatten fun e => nv (seat (landsOf rows m) e)))) (.ref d) (landsOf rows m).flatten (fun e => nv (seat (landsOf rows m) e)) := .of upd_same
    clear e2 o2 hb
    generalize upd (upd H1 d (.dK [])) d (.dK (dkv (landsOf rows m).flatten fun e => nv (seat (landsOf rows m) e))) = H3 at e3 hh3 ⊢
    -- first
    have hf : one % (2 * m) < 2 * m := Nat.mod_lt _ (by omega)
    have two_m : ∀ (σ' : St) (H' : Hp), σ'[1]? = some (some (nv m)) → Val (tOp rMulI (tC (.int 2)) (tVar 1)) σ' H' (nv (2 * m)) := fun σ' H' h => vnat (v_mul v_c (v_var h) (.inl ⟨by decide, by decide⟩)) (by omega)
    refine q_setV (v := nv (one % (2 * m))) (vnat (v_mod (v_var rfl) (two_m _ _ rfl) (by omega)) (Int.natCast_emod _ _).symm) ?_
    generalize hf1 : one % (2 * m) = f at hf
    -- ends
    refine q_set (n_lcRf (n := 2 * m) (fun i => decide ((!decide (seat (landsOf rows m) i = seat (landsOf rows m) f)) = high)) (two_m _ _ rfl) (by omega) (fun _ => rfl) (fun i H' hi e => a_t (vas (v_eq (v_neI (v_get (n := i) (f := fun e => nv (seat (landsOf rows m) e)) (v_var rfl) (hh3.le e.le) (v_var rfl) ((P.mem _).mpr hi)) (v_get (n := f) (f := fun e => nv (seat (landsOf rows m) e)) (v_var rfl) (hh3.le e.le) (v_var rfl) ((P.mem _).mpr hf))) (v_var rfl) rfl) ?_)) (fun i H' _ _ => v_var rfl)) ?_
    · congr 1
      simp only [decide_eq_decide, V.bl.injEq]
      have : decide ((seat (landsOf rows m) i : Int) = (seat (landsOf rows m) f : Int)) = decide (seat (landsOf rows m) i = seat (landsOf rows m) f) := by
        simp only [decide_eq_decide]; omega
      rw [this]
    rintro w4 H4 ⟨ep, hep, rfl, rfl⟩
    have e4 := e3.trans (Ex.new hep (o := .lst (((List.range (2 * m)).filter fun i => decide ((!decide (seat (landsOf rows m) i = seat (landsOf rows m) f)) = high)).map nv)))
    have hen : LN K (upd H3 ep (.lst (((List.range (2 * m)).filter fun i => decide ((!decide (seat (landsOf rows m) i = seat (landsOf rows m) f)) = high)).map nv))) (.ref ep) ((List.range (2 * m)).filter fun i => decide ((!decide (seat (landsOf rows m) i = seat (landsOf rows m) f)) = high)) := .of upd_same
    have hsel : ∀ i, i ∈ ((List.range (2 * m)).filter fun i => decide ((!decide (seat (landsOf rows m) i = seat (landsOf rows m) f)) = high)) ↔ i < 2 * m ∧ (high = true ↔ seat (landsOf rows m) f ≠ seat (landsOf rows m) i) := fun i => by
      rw [List.mem_filter, List.mem_range, decide_eq_true_iff]
      refine and_congr_right fun _ => ?_
      by_cases hz : seat (landsOf rows m) i = seat (landsOf rows m) f
      · rw [decide_eq_true hz]
        cases high <;> simp [hz]
      · rw [decide_eq_false hz]
        have hz2 : seat (landsOf rows m) f ≠ seat (landsOf rows m) i := fun z => hz z.symm
        cases high <;> simp [hz2]
    have hpos : 0 < ((List.range (2 * m)).filter fun i => decide ((!decide (seat (landsOf rows m) i = seat (landsOf rows m) f)) = high)).length := by
      refine List.length_pos_iff.mpr fun hnil => ?_
      have hex : ∃ i, i < 2 * m ∧ (high = true ↔ seat (landsOf rows m) f ≠ seat (landsOf rows m) i) := by
        cases hh : high with
        | false => exact ⟨f, hf, by simp⟩
        | true =>
          have h2 := hhi hh
          obtain ⟨l, hl, hne⟩ : ∃ l, l < (landsOf rows m).length ∧ seat (landsOf rows m) f ≠ l := by
            by_cases z : seat (landsOf rows m) f = 0
            · exact ⟨1, by omega, by omega⟩
            · exact ⟨0, by omega, z⟩
          have hr := List.getElem?_eq_getElem hl
          have hrne := rings_ne D.dr.inj _ (List.getElem_mem hl)
          obtain ⟨x, hx⟩ := List.exists_mem_of_ne_nil _ hrne
          have hxl := P.lt (List.getElem_mem hl) hx
          have hsx := P.num _ _ _ hr hx
          exact ⟨x, hxl, by simp [hsx, hne]⟩
      obtain ⟨i, hi⟩ := hex
      have := (hsel i).mpr hi
      rw [hnil] at this
      cases this
    generalize ((List.range (2 * m)).filter fun i => decide ((!decide (seat (landsOf rows m) i = seat (landsOf rows m) f)) = high)) = en at hen hsel hpos e4
    generalize upd H3 ep (.lst (en.map nv)) = H4 at e4 hen ⊢
    -- second
    have hdl : two % en.length < en.length := Nat.mod_lt _ hpos
    have hsx := List.getElem?_eq_getElem hdl
    generalize en[two % en.length] = s at hsx
    obtain ⟨hs, hfs⟩ := (hsel s).mp (List.mem_of_getElem? hsx)
    refine q_setV (v_ixN (j := two % en.length) (v_var rfl) hen (vnat (v_mod (v_var rfl) (v_lenN (v_var rfl) hen) (by omega)) (Int.natCast_emod _ _).symm) hsx) ?_
    -- the loop
    refine f_listH (n_pairs (a := nv (2 * m)) (b := nv f) (c := nv (2 * m + 1)) (d := nv s) (fun H' _ => two_m _ _ rfl) (fun H' _ => v_var rfl) (fun H' _ => vnat (v_add (two_m _ _ rfl) v_c) (by omega)) (fun H' _ => v_var rfl)) ?_
    rintro w5 H5 ⟨L, t0, t1, rfl, e5', hL0, ht0, ht1, hL, hT0, hT1⟩
    have e5 := e4.trans e5'
    have nas : ∀ x, H4 x = none → x ∉ as := fun x hx hxm => by
      obtain ⟨i, hi⟩ := List.mem_iff_getElem?.mp hxm
      have hil : i < rows.length := by rw [← hw.len]; exact (List.getElem?_eq_some_iff.mp hi).1
      have := e4 _ _ (hw.row i x _ hi (List.getElem?_eq_getElem hil))
      rw [hx] at this
      cases this
    -- one pass over the rows
    have pass : ∀ (Rs : List (List Nat)) (e x : Nat) (σ' : St) (H' : Hp) (D' : Ends), (∀ r ∈ Rs, r.length ≤ 2000) → Rw p as Rs H' → Chg as H5 H' → σ'[0]? = some (some (.ref p)) → σ'[8]? = some (some (nv e)) → σ'[12]? = some (some (nv x)) → σ'.length = 14 →
        (∀ y H'', Chg as H5 H'' → Rw p as (Rs.map (insB e x)) H'' → D'.nx (σ'.set 13 y) H'') →
        tFor (iList K (tVar 0)) (gName 13) (tIfS (tTest (tOp (rIn K false) (tVar 8) (tVar 13))) (tDrop (tBM K "list" rInsert (tVar 13) (tCons (tBM K "list" (rIndex K) (tVar 13) (tCons (tVar 8) tNil)) (tCons (tVar 12) tNil)))) tNext) D' σ' H' := by
      intro Rs e x σ' H' D' hsz hR hc h0 h8 h12 hlen hk
      refine f_list (a := p) (xs := as.map V.ref) (v_var h0) (.of hR.top)
        (fun j σ'' H'' => ∃ y, σ'' = σ'.set 13 y ∧ Chg as H5 H'' ∧ Rw p as (half (insB e x) Rs j) H'')
        ⟨σ'[13], by simp, hc, by rw [half_zero]; exact hR⟩ (fun j σ'' H'' ⟨_, _, _, h⟩ => .of h.top) ?_ ?_
      · rintro j v σ'' H'' hv ⟨y, rfl, hc', hR'⟩
        rw [List.getElem?_map] at hv
        obtain ⟨a, ha, rfl⟩ := Option.map_eq_some_iff.mp hv
        have hjl : j < Rs.length := by rw [← hR.len]; exact (List.getElem?_eq_some_iff.mp ha).1
        have hr : Rs[j]? = some Rs[j] := List.getElem?_eq_getElem hjl
        have hrs := hsz _ (List.getElem_mem hjl)
        generalize Rs[j] = r at hr hrs
        have hHa := hR'.row j a r ha (half_at hr)
        have s8 : ((σ'.set 13 y).set 13 (some (.ref a)))[8]? = some (some (nv e)) := by rw [List.getElem?_set_ne (by decide), List.getElem?_set_ne (by decide)]; exact h8
        have s12 : ((σ'.set 13 y).set 13 (some (.ref a)))[12]? = some (some (nv x)) := by rw [List.getElem?_set_ne (by decide), List.getElem?_set_ne (by decide)]; exact h12
        have s13 : ((σ'.set 13 y).set 13 (some (.ref a)))[13]? = some (some (.ref a)) := by rw [List.getElem?_set_self (by rw [List.length_set]; omega)]
        refine s_if (a_t (v_inN (v_var s8) (v_var s13) (.of hHa))) (fun hb => ?_) (fun hb => ?_)
        · have hmem := of_decide_eq_true hb
          refine s_insert (v_var s13) (v_index (v_var s13) (.of hHa) (v_var s8) hmem) (v_var s12) hHa (by rw [List.length_map]; omega) (by have := List.idxOf_lt_length_iff.mpr hmem; omega) ?_
          refine ⟨some (.ref a), by rw [List.set_set], hc'.put (List.mem_of_getElem? ha) _, ?_⟩
          rw [half_succ hr, ← insB_map hmem]
          exact hR'.put hn hp ha
        · have hmem := of_decide_eq_false hb
          refine ⟨some (.ref a), by rw [List.set_set], hc', ?_⟩
          have : insB e x r = r := by unfold insB; rw [if_neg hmem]
          rw [half_succ hr, this]
          have hs : (half (insB e x) Rs j).set j r = half (insB e x) Rs j := by
            obtain ⟨h1, h2⟩ := List.getElem?_eq_some_iff.mp (half_at (f := insB e x) hr)
            rw [← h2, List.set_getElem_self]
          rw [hs]; exact hR'
      · rintro σ'' H'' ⟨y, rfl, hc', hR'⟩
        rw [List.length_map, hR.len, half_all] at hR'
        exact hk y H'' hc' hR'
    have hw5 := hw.ex e5
    have r1 : ∀ r ∈ rows, r.length ≤ 1000 := fun r hr => D.row_le hr
    refine f_list (a := L) (xs := [.ref t0, .ref t1]) v_c (.of hL)
      (fun i σ' H' => ∃ x8 x12 x13, σ' = [some (.ref p), some (nv m), some (nv one), some (nv two), some (.bl high), some b, some (.ref d), y, x8, some (nv f), some (.ref ep), some (nv s), x12, x13] ∧ Chg as H5 H' ∧ Rw p as (if i = 0 then rows else if i = 1 then rows.map (insB f (2 * m)) else (rows.map (insB f (2 * m))).map (insB s (2 * m + 1))) H')
      ⟨_, none, none, rfl, .refl _ _, hw5⟩ (fun i σ' H' ⟨_, _, _, _, hc, _⟩ => .of (hc _ _ (nas L hL0) hL)) ?_ ?_
    · rintro i v σ' H' hv ⟨x8, x12, x13, rfl, hc, hR⟩
      rcases (by have := (List.getElem?_eq_some_iff.mp hv).1; simp at this; omega : i = 0 ∨ i = 1) with z | z
      · subst z
        cases hv
        refine ⟨t0, _, rfl, .of (hc _ _ (nas t0 ht0) hT0), rfl, _, _, rfl, _, _, rfl, rfl, ?_⟩
        rw [if_pos rfl] at hR
        exact pass rows f (2 * m) _ H' _ (fun r hr => by have := r1 r hr; omega) hR hc rfl rfl rfl rfl fun y' H'' hc' hR' => ⟨_, _, _, rfl, hc', hR'⟩
      · subst z
        cases hv
        refine ⟨t1, _, rfl, .of (hc _ _ (nas t1 ht1) hT1), rfl, _, _, rfl, _, _, rfl, rfl, ?_⟩
        rw [if_neg (by decide), if_pos rfl] at hR
        exact pass (rows.map (insB f (2 * m))) s (2 * m + 1) _ H' _ (fun r hr => by
          obtain ⟨r0, hr0, rfl⟩ := List.mem_map.mp hr
          have := r1 r0 hr0
          have := insB_len f (2 * m) r0
          omega) hR hc rfl rfl rfl rfl fun y' H'' hc' hR' => ⟨_, _, _, rfl, hc', hR'⟩
    · rintro σ' H' ⟨x8, x12, x13, rfl, hc, hR⟩
      exact k H' f s hf hs hfs (e5.chg.trans hc) hR
end
end Rf
end
section
set_option linter.all false
set_option autoImplicit false
set_option maxRecDepth 100000
set_option maxHeartbeats 1000000
/-! P28: _law_grown. -/
namespace Rf
open PySem L2
section
variable {K : PySem.W.Frag} {σ : St} {B H : Hp} {ta tb tc te tl tn : TE} {g : TG} {D : Ends}
/-- a list of lists of the def's own -/
structure OwnR (H0 B : Hp) (p : Addr) (as : List Addr) : Prop where
  p0 : H0 p = none
  pb : B p = none
  a0 : ∀ a ∈ as, H0 a = none
  ab : ∀ a ∈ as, B a = none
  nd : as.Nodup
  np : p ∉ as
theorem Chg.ext {H0 B0 B H H' : Hp} {p : Addr} {as : List Addr} (e : Ext B0 H0 B H) (o : OwnR H0 B p as) (c : Chg as H H') : Ext B0 H0 B H' := by
  refine ⟨e.bb, fun a u ha => ?_, fun a u ha => ?_, e.fr⟩
  · have hn : a ∉ as := fun z => rd_some ha (o.ab a z)
    rcases e.le a u ha with h | ⟨ob, h⟩
    · exact .inl (c a _ hn h)
    · exact .inr ⟨ob, c a _ hn h⟩
  · have hn : a ∉ as := fun z => by have := o.a0 a z; rw [ha] at this; cases this
    exact c a _ hn (e.hh a u ha)
theorem Rw.freeze {H0 B0 B H : Hp} {p : Addr} {as : List Addr} {rows : List (List Nat)} (w : Rw p as rows H) (e : Ext B0 H0 B H) (o : OwnR H0 B p as) : ∃ B2, Ext B0 H0 B2 H ∧ Ex B B2 ∧ LL K B2 (.ref p) rows := by
  classical
  have hin : ∀ a, a ∈ p :: as → B a = none ∧ H0 a = none := fun a ha => by
    rcases List.mem_cons.mp ha with z | z
    · rw [z]; exact ⟨o.pb, o.p0⟩
    · exact ⟨o.ab a z, o.a0 a z⟩
  have ex : Ex B (fun a => if a ∈ p :: as then H a else B a) := fun a u h => by
    show (if a ∈ p :: as then H a else B a) = some u
    rw [if_neg fun z => by have := (hin a z).1; rw [h] at this; cases this]; exact h
  refine ⟨fun a => if a ∈ p :: as then H a else B a, ⟨e.bb.trans ex, fun a u h => ?_, e.hh, fun a h1 h2 => ?_⟩, ex, ?_⟩
  · by_cases z : a ∈ p :: as
    · rcases h with h | ⟨ob, h⟩
      · exact .inl (by have h : (if a ∈ p :: as then H a else B a) = some u := h; rwa [if_pos z] at h)
      · exact .inr ⟨ob, by have h : (if a ∈ p :: as then H a else B a) = some (.frz ob u) := h; rwa [if_pos z] at h⟩
    · refine e.le a u ?_
      rcases h with h | ⟨ob, h⟩
      · exact .inl (by have h : (if a ∈ p :: as then H a else B a) = some u := h; rwa [if_neg z] at h)
      · exact .inr ⟨ob, by have h : (if a ∈ p :: as then H a else B a) = some (.frz ob u) := h; rwa [if_neg z] at h⟩
  · show (if a ∈ p :: as then H a else B a) = none
    rw [if_neg fun z => h1 (hin a z).2]
    exact e.fr a h1 h2
  · have w2 : Rw p as rows (fun a => if a ∈ p :: as then H a else B a) := ⟨by
      show (if p ∈ p :: as then H p else B p) = _
      rw [if_pos (by simp)]; exact w.top, w.len, fun i a r h1 h2 => by
      show (if a ∈ p :: as then H a else B a) = _
      rw [if_pos (List.mem_cons.mpr (.inr (List.mem_of_getElem? h1)))]; exact w.row i a r h1 h2⟩
    exact w2.ll
theorem Rw.snoc {p c : Addr} {as : List Addr} {rows : List (List Nat)} {r : List Nat} (w : Rw p as rows H) (hp : p ∉ as) (hc : H c = none) : Rw p (as ++ [c]) (rows ++ [r]) (upd (upd H c (.lst (r.map nv))) p (.lst (as.map V.ref ++ [.ref c]))) := by
  have npc : p ≠ c := ne_of_none w.top hc
  refine ⟨by rw [upd_same, List.map_append]; rfl, by simp [w.len], fun i a q h1 h2 => ?_⟩
  by_cases hi : i < as.length
  · rw [List.getElem?_append_left hi] at h1
    rw [List.getElem?_append_left (by rw [← w.len]; exact hi)] at h2
    have hap : a ≠ p := fun z => hp (by rw [← z]; exact List.mem_of_getElem? h1)
    have hH := w.row i a q h1 h2
    rw [upd_ne hap, upd_ne (ne_of_none hH hc)]; exact hH
  · have hb := (List.getElem?_eq_some_iff.mp h1).1
    simp at hb
    have : i = as.length := by omega
    subst this
    simp at h1
    rw [w.len] at h2
    simp at h2
    subst h1 h2
    rw [upd_ne npc.symm, upd_same]
theorem OwnR.snoc {H0 B H : Hp} {p c : Addr} {as : List Addr} (o : OwnR H0 B p as) (h0 : H0 c = none) (hb : B c = none) (hc : c ∉ p :: as) : OwnR H0 B p (as ++ [c]) := by
  refine ⟨o.p0, o.pb, fun a ha => ?_, fun a ha => ?_, ?_, fun h => ?_⟩
  · rcases List.mem_append.mp ha with z | z
    · exact o.a0 a z
    · rw [List.mem_singleton.mp z]; exact h0
  · rcases List.mem_append.mp ha with z | z
    · exact o.ab a z
    · rw [List.mem_singleton.mp z]; exact hb
  · rw [List.nodup_append]
    exact ⟨o.nd, by simp, fun a ha b hb z => by simp at hb; subst hb z; exact hc (by simp [ha])⟩
  · rcases List.mem_append.mp h with z | z
    · exact o.np z
    · exact hc (by rw [← List.mem_singleton.mp z]; simp)
/-- [c, c] * n -/
theorem rep_two (c : V) : ∀ n : Nat, (List.replicate n [c, c]).flatten = List.replicate (2 * n) c
  | 0 => rfl
  | n + 1 => by rw [List.replicate_succ, List.flatten_cons, rep_two c n, show 2 * (n + 1) = 2 * n + 1 + 1 by omega, List.replicate_succ, List.replicate_succ]; rfl
theorem n_rep2 {c : Nat} {n : Nat} (l : Le B H) (hn : ∀ H', Ex H H' → Val tn σ H' (nv n)) (hz : n ≤ 1000) : VH (tOp rRep (tLst (tCons (tC (.int (c : Int))) (tCons (tC (.int (c : Int))) tNil))) tn) σ H fun w H' => ∃ B', Ext B H B' H' ∧ LN K B' w (List.replicate (2 * n) c) := fun Q q => by
  refine (n_lst (vs := [nv c, nv c]) (g_cons v_c (g_cons v_c g_nil)) (by simp)) _ ?_
  rintro w H1 ⟨l1, hl1, rfl, rfl⟩
  have e1 := (Ext.refl l).own hl1 (o := .lst [nv c, nv c])
  refine hn _ (.new hl1) _ ⟨l1, n, [nv c, nv c], rfl, rfl, upd_same, by omega, by omega, Nat.le_trans (by simp; omega : _ ≤ 100000) (by decide), fun p hp => ?_⟩
  refine q _ _ ⟨_, e1.trans (Ext.new e1.le hp), .of ?_⟩
  rw [upd_same, Int.toNat_natCast, rep_two, List.map_replicate]
/-- [[]] -/
theorem n_rows0 : VH (tLst (tCons (tLst tNil) tNil)) σ H fun w H' => ∃ p a, w = .ref p ∧ H a = none ∧ (upd H a (.lst [])) p = none ∧ H' = upd (upd H a (.lst [])) p (.lst [.ref a]) := fun Q q => by
  refine (fun (h : tLst tNil σ H (fun v H1 => ([v] : List V).length ≤ sizeLine ∧ ∀ p, H1 p = none → Q (.ref p) (upd H1 p (.lst [v])))) => h) ?_
  refine n_lst g_nil (by simp) _ ?_
  rintro w4 H4 ⟨a, ha, rfl, rfl⟩
  exact ⟨Nat.le_trans (by simp : _ ≤ 100000) (by decide), fun p hp => q _ _ ⟨p, a, rfl, ha, hp, rfl⟩⟩
def sp_grown (K : PySem.W.Frag) : Sp := fun vs H Q _ => ∃ B v xs, vs = [v, nv 1, nv 1] ∧ Le B H ∧ LI K B v xs ∧ Ret B H (fun w B' => ∃ rows m, LL K B' w rows ∧ Ring rows m ∧ m ≤ 200 ∧ rows.length ≤ 200) Q
theorem call_grown {v : V} {xs : List Int} (h1 : Val ta σ H v) (h2 : Val tb σ H (nv 1)) (h3 : Val tc σ H (nv 1)) (l : Le B H) (hv : LI K B v xs) : VH (tCall (sp_grown K) [] E0 (tCons ta (tCons tb (tCons tc tNil)))) σ H fun w H' => ∃ B' rows m, Ext B H B' H' ∧ LL K B' w rows ∧ Ring rows m ∧ m ≤ 200 ∧ rows.length ≤ 200 :=
  c_call (g_cons h1 (g_cons h2 (g_cons h3 g_nil))) fun Q q => ⟨B, v, xs, rfl, l, hv, fun w B' H' e ⟨rows, m, k1, k2, k3, k4⟩ => q w H' ⟨B', rows, m, e, k1, k2, k3, k4⟩⟩
theorem r__law_grown (vs : List V) (H : Hp) (Q : VK) (E : XK) (h : sp_grown K vs H Q E) : t__law_grown K (sp_renamed K) (sp_cell K) (sp_tied K) (sp_draws K) { nx := fun _ H' => Q .non H', rt := Q } (L2.start N__law_grown vs) H := by
  obtain ⟨B, v, xs, rfl, hl, hv, k⟩ := h
  -- seats, more, late
  refine q_unl3 (call_draws (B := B) (ns := [6, 5, 420]) (call_cell (B := B) (n := 1) (v_var rfl) (v_var rfl) hl hv (by decide)) ?_ (by simp) (by simp)) ?_
  · rintro w H ⟨hc, rfl⟩
    exact ⟨hc, n_lstN (ns := [6, 5, 420]) hl (g_cons v_c (g_cons v_c (g_cons v_c g_nil))) (by simp)⟩
  rintro w H1 ⟨B1, ds, e1, hw, hds⟩
  obtain ⟨s, more, late, rfl⟩ := len3 (l := ds) hds.1
  have hs : s < 6 := hds.2 0 s 6 rfl rfl
  have hmo : more < 5 := hds.2 1 more 5 rfl rfl
  refine ⟨s, more, late, hw.le e1.le, ?_⟩
  have hv1 := hv.le e1.bb.le
  -- tree
  refine q_set (call_draws (B := B1) (ns := List.replicate (2 * s) 60) (call_cell (B := B1) (n := 2) (v_var rfl) (vnat (v_add (v_var rfl) v_c) (by rfl)) e1.le hv1 (by decide)) ?_ (by simp; omega) (fun n hn => by rw [List.eq_of_mem_replicate hn]; omega)) ?_
  · rintro w H1 ⟨hc, rfl⟩
    exact ⟨hc, n_rep2 (c := 60) (n := s) e1.le (fun H' e => v_var rfl) (by omega)⟩
  rintro tr H2 ⟨B2, ts, e2', htr, hts⟩
  have e2 := e1.trans e2'
  have hv2 := hv1.le e2'.bb.le
  -- more
  refine q_setV (v := nv (more + 2)) (vnat (v_add (v_var rfl) (v_mul v_c (v_var rfl) (.inl ⟨by decide, by decide⟩))) (by show (more : Int) + 2 * ((1 : Nat) : Int) = _; omega)) ?_
  -- picks
  refine q_set (call_draws (B := B2) (ns := List.replicate (2 * (more + 2)) 5040) (call_cell (B := B2) (n := 3) (v_var rfl) (vnat (v_add (v_var rfl) v_c) (by rfl)) e2.le hv2 (by decide)) ?_ (by simp; omega) (fun n hn => by rw [List.eq_of_mem_replicate hn]; omega)) ?_
  · rintro w H2 ⟨hc, rfl⟩
    exact ⟨hc, n_rep2 (c := 5040) (n := more + 2) e2.le (fun H' e => v_var rfl) (by omega)⟩
  rintro pk H3 ⟨B3, ps, e3', hpk, hps⟩
  have e3 := e2.trans e3'
  have hv3 := hv2.le e3'.bb.le
  have htr3 := htr.le e3'.bb.le
  generalize hmm : more + 2 = mo at hps ⊢
  have hmo2 : 2 ≤ mo ∧ mo ≤ 6 := by omega
  have tat : ∀ i, i < 2 * s → ∃ d, ts[i]? = some d ∧ d < 60 := fun i hi => hts.at (by rw [List.getElem?_replicate, if_pos hi])
  have pat : ∀ i, i < 2 * mo → ∃ d, ps[i]? = some d ∧ d < 5040 := fun i hi => hps.at (by rw [List.getElem?_replicate, if_pos hi])
  -- rows = [[]]
  refine q_set n_rows0 ?_
  rintro w4 H4 ⟨p, a0, rfl, ha, hp, rfl⟩
  have e4' := e3.own ha (o := .lst [])
  have npa : a0 ≠ p := ne_of_none upd_same hp
  have hp3 : H3 p = none := by rw [upd_ne npa.symm] at hp; exact hp
  have e4 := e4'.own hp (o := .lst [.ref a0])
  have o4 : OwnR H B3 p [a0] := ⟨e3.hh.free hp3, e3.le.free hp3, fun x hx => by rw [List.mem_singleton.mp hx]; exact e3.hh.free ha, fun x hx => by rw [List.mem_singleton.mp hx]; exact e3.le.free ha, by simp, by simp [npa.symm]⟩
  have hR4 : Rw p [a0] [[]] (upd (upd H3 a0 (.lst [])) p (.lst [.ref a0])) := ⟨upd_same, rfl, fun i b r h1 h2 => by
    have hi : i = 0 := by have := (List.getElem?_eq_some_iff.mp h1).1; simp at this; omega
    subst hi
    cases h1
    cases h2
    rw [upd_ne npa, upd_same]; rfl⟩
  have two_k : ∀ (σ' : St) (H' : Hp) (i x : Nat), σ'[i]? = some (some (nv x)) → Val (tOp rMulI (tC (.int 2)) (tVar i)) σ' H' (nv (2 * x)) := fun σ' H' i x h => vnat (v_mul v_c (v_var h) (.inl ⟨by decide, by decide⟩)) (by omega)
  -- the tree
  refine q_seq (f_rng (n := s) (v_var rfl) (by omega)
    (fun t σ H' => ∃ (x9 x10 : Option V) (as : List Addr) (rows : List (List Nat)), σ = [some v, some (nv 1), some (nv 1), some (nv s), some (nv mo), some (nv late), some tr, some pk, some (.ref p), x9, x10, none] ∧ Ext B H B3 H' ∧ OwnR H B3 p as ∧ Rw p as rows H' ∧ rows.length = t + 1 ∧ (∀ r ∈ rows, r.length ≤ 2 * t) ∧ ((t = 0 ∧ rows = [[]]) ∨ (0 < t ∧ Grow rows t 1)))
    ⟨none, none, [a0], [[]], rfl, e4, o4, hR4, rfl, by simp, .inl ⟨rfl, rfl⟩⟩ ?_ ?_)
  · rintro t σ5 H5 ht ⟨x9, x10, as, rows, rfl, e5, o5, hR5, hlen, hrl, hcase⟩
    obtain ⟨d, hd, _⟩ := tat (2 * t) (by omega)
    obtain ⟨d', hd', _⟩ := tat (2 * t + 1) (by omega)
    have hi : d % rows.length < rows.length := Nat.mod_lt _ (by omega)
    generalize hiq : d % rows.length = i at hi
    have ha : as[i]? = some (as[i]'(by rw [hR5.len]; exact hi)) := List.getElem?_eq_getElem _
    generalize (as[i]'(by rw [hR5.len]; exact hi)) = a at ha
    have hr : rows[i]? = some rows[i] := List.getElem?_eq_getElem hi
    have hrle := hrl _ (List.getElem_mem hi)
    generalize rows[i] = r at hr hrle
    have hHa := hR5.row i a r ha hr
    have ham := List.mem_of_getElem? ha
    -- row = rows[..]
    refine q_setV (v_ixL (K := K) (j := i) (v_var rfl) (vnat (v_mod (v_ixN (j := 2 * t) (v_var rfl) (htr3.le e5.le) (two_k _ _ 9 t rfl) hd) (v_len (K := K) (v_var rfl) (.of hR5.top)) (by rw [List.length_map, hR5.len]; omega)) (by rw [List.length_map, hR5.len, ← hiq]; exact (Int.natCast_emod _ _).symm)) (.of hR5.top) (by rw [List.getElem?_map, ha]; rfl)) ?_
    -- row.insert(..)
    have hj : d' % (r.length + 1) ≤ r.length := by have := Nat.mod_lt d' (by omega : 0 < r.length + 1); omega
    generalize hjq : d' % (r.length + 1) = j at hj
    refine q_seq (s_insert (j := j) (v := nv (2 * t)) (v_var rfl) (vnat (v_mod (v_ixN (j := 2 * t + 1) (v_var rfl) (htr3.le e5.le) (vnat (v_add (two_k _ _ 9 t rfl) v_c) (by omega)) hd') (v_add (v_lenN (v_var rfl) (LN.of hHa)) v_c) (by omega)) (by rw [← hjq]; exact (Int.natCast_emod d' (r.length + 1)).symm)) (two_k _ _ 9 t rfl) hHa (by rw [List.length_map]; omega) (by omega) ?_)
    rw [← List.map_take, ← List.map_drop, show (r.take j).map nv ++ [nv (2 * t)] ++ (r.drop j).map nv = (r.take j ++ [2 * t] ++ r.drop j).map nv by simp]
    have oa : Own H B3 H5 a (.lst (r.map nv)) := ⟨o5.a0 a ham, o5.ab a ham, hHa⟩
    have e6 := e5.put oa (.lst ((r.take j ++ [2 * t] ++ r.drop j).map nv))
    have hR6 := hR5.put o5.nd o5.np (r' := r.take j ++ [2 * t] ++ r.drop j) ha
    -- rows.append([2 * k + 1])
    refine s_appH (v_var rfl) (.of hR6.top) (n_lst (vs := [nv (2 * t + 1)]) (g_cons (vnat (v_add (two_k _ _ 9 t rfl) v_c) (by omega)) g_nil) (by simp)) ?_
    rintro w7 H7 ⟨c, hc, rfl, rfl⟩
    have npc : p ≠ c := ne_of_none hR6.top hc
    have hc5 : c ∉ p :: as := fun z => by
      rcases List.mem_cons.mp z with z | z
      · exact npc z.symm
      · obtain ⟨i', hi'⟩ := List.mem_iff_getElem?.mp z
        have hil : i' < (rows.set i (r.take j ++ [2 * t] ++ r.drop j)).length := by rw [← hR6.len]; exact (List.getElem?_eq_some_iff.mp hi').1
        have := hR6.row i' c _ hi' (List.getElem?_eq_getElem hil)
        rw [hc] at this
        cases this
    have e7 := e6.own hc (o := .lst [nv (2 * t + 1)])
    have op7 : Own H B3 (upd (upd H5 a (.lst ((r.take j ++ [2 * t] ++ r.drop j).map nv))) c (.lst [nv (2 * t + 1)])) p (.lst (as.map V.ref)) := ⟨o5.p0, o5.pb, by rw [upd_ne npc]; exact hR6.top⟩
    have hR8 := hR6.snoc (r := [2 * t + 1]) o5.np hc
    have o8 := o5.snoc (H := H) (e6.hh.free hc) (e6.le.free hc) hc5
    refine ⟨as.map V.ref, op7.h, by rw [List.length_map, hR5.len]; omega, _, _, as ++ [c], rows.set i (r.take j ++ [2 * t] ++ r.drop j) ++ [[2 * t + 1]], rfl, e7.put op7 _, o8, hR8, by simp [hlen], fun q hq => ?_, .inr ⟨by omega, ?_⟩⟩
    · rcases List.mem_append.mp hq with z | z
      · rcases List.mem_or_eq_of_mem_set z with z | z
        · have := hrl q z; omega
        · rw [z]; simp; omega
      · rw [List.mem_singleton.mp z]; simp; omega
    · rcases hcase with ⟨rfl, rfl⟩ | ⟨ht0, G⟩
      · have hi0 : i = 0 := by simp at hi; omega
        subst hi0
        cases hr
        simp at hj
        subst hj
        exact base_pair
      · obtain ⟨f, hf⟩ := ins_row (x := 2 * t) hr (G.ne r (List.mem_of_getElem? hr)) hj
        exact G.leaf hf
  · rintro σ5 H5 ⟨x9, x10, as, rows, rfl, e5, o5, hR5, hlen, hrl, hcase⟩
    -- the other ties
    have hh : 1 ≤ 1 + late % (mo - 1) ∧ 1 + late % (mo - 1) < mo := by have := Nat.mod_lt late (by omega : 0 < mo - 1); omega
    generalize hhq : 1 + late % (mo - 1) = hk at hh
    refine q_seq (f_rng (n := mo) (v_var rfl) (by omega)
      (fun t σ H' => ∃ (x9 x11 : Option V) (rows : List (List Nat)), σ = [some v, some (nv 1), some (nv 1), some (nv s), some (nv mo), some (nv late), some tr, some pk, some (.ref p), x9, x10, x11] ∧ Ext B H B3 H' ∧ Rw p as rows H' ∧ rows.length = s + 1 ∧ ((s + t = 0 ∧ rows = [[]]) ∨ (0 < s + t ∧ ∃ F, Grow rows (s + t) F ∧ (t ≤ hk → F = 1 + t) ∧ (hk < t → rows.length + F = s + t))))
      ⟨x9, none, rows, rfl, e5, hR5, hlen, ?_⟩ ?_ ?_)
    · rcases hcase with ⟨rfl, hr⟩ | ⟨hs0, G⟩
      · exact .inl ⟨rfl, hr⟩
      · exact .inr ⟨by omega, 1, G, fun _ => rfl, fun h => by omega⟩
    · rintro t σ6 H6 ht ⟨x9, x11, rows, rfl, e6, hR6, hlen, hcase⟩
      obtain ⟨d, hd, _⟩ := pat (2 * t) (by omega)
      obtain ⟨d', hd', _⟩ := pat (2 * t + 1) (by omega)
      -- high
      have hmax : (if (mo : Int) - 1 > 1 then (mo : Int) - 1 else 1) = ((mo - 1 : Nat) : Int) := by split <;> omega
      refine q_setV (v := .bl (decide (t = hk))) (vas (v_andV (v_eqI (v_var rfl) v_c) fun _ => v_eqI (v_var rfl) (vint (v_add v_c (v_mod (v_var rfl) (vint (v_max v_c (v_sub (v_var rfl) v_c)) hmax) (by omega))) (j := (hk : Int)) (by rw [← Int.natCast_emod, ← hhq]; omega))) (by
        rw [show decide (((1 : Nat) : Int) = 1) = true from rfl, Bool.true_and]
        congr 1
        simp only [decide_eq_decide]
        omega)) ?_
      refine c_call (P := fun _ H' => ∃ rows', Ext B H B3 H' ∧ Rw p as rows' H' ∧ rows'.length = s + 1 ∧ 0 < s + (t + 1) ∧ ∃ F, Grow rows' (s + (t + 1)) F ∧ (t + 1 ≤ hk → F = 1 + (t + 1)) ∧ (hk < t + 1 → rows'.length + F = s + (t + 1)))
        (g_cons (v_var rfl) (g_cons (vnat (j := s + t) (v_add (v_var rfl) (v_var rfl)) (by omega)) (g_cons (v_ixN (j := 2 * t) (v_var rfl) (hpk.le e6.le) (two_k _ _ 9 t rfl) hd) (g_cons (v_ixN (j := 2 * t + 1) (v_var rfl) (hpk.le e6.le) (vnat (v_add (two_k _ _ 9 t rfl) v_c) (by omega)) hd') (g_cons (v_var rfl) g_nil))))) (fun Q' q' => ?_) _ ?_
      · refine ⟨p, as, rows, s + t, d, d', decide (t = hk), rfl, hR6, o5.nd, o5.np, ?_⟩
        rcases hcase with ⟨h0, rfl⟩ | ⟨h0, F, G, hF1, hF2⟩
        · refine .inl ⟨h0, rfl, fun H' hc hR' => q' _ _ ⟨[[0, 1]], hc.ext e6 o5, hR', by simp; omega, by omega, 2, ?_, fun _ => by omega, fun h => by omega⟩⟩
          rw [show s + (t + 1) = 1 by omega]
          exact base_loop
        · have hcount := G.rings.count G.dr.lands (rings_ne G.dr.inj)
          refine .inr ⟨h0, ⟨G.dr, G.ne, by omega, by omega⟩, fun hhi => ?_, fun H' f s' hf hs' hiff hc hR' => q' _ _ ?_⟩
          · have := of_decide_eq_true hhi
            rw [hcount, hF1 (by omega)]; omega
          · obtain ⟨F', G', same, diff⟩ := G.tie hf hs'
            refine ⟨_, hc.ext e6 o5, hR', by simp [hlen], by omega, F', G', fun h => ?_, fun h => ?_⟩
            · have hne : t ≠ hk := by omega
              have hsm : seat (landsOf rows (s + t)) f = seat (landsOf rows (s + t)) s' := Classical.byContradiction fun z => hne (of_decide_eq_true (hiff.mpr z))
              rw [same hsm, hF1 (by omega)]; omega
            · simp only [List.length_map]
              by_cases hth : t = hk
              · have hd := hiff.mp (decide_eq_true hth)
                have h1 := diff hd
                have h2 := hF1 (by omega)
                omega
              · have hsm : seat (landsOf rows (s + t)) f = seat (landsOf rows (s + t)) s' := Classical.byContradiction fun z => hth (of_decide_eq_true (hiff.mpr z))
                have h1 := same hsm
                have h2 := hF2 (by omega)
                omega
      · rintro w7 H7 ⟨rows', e7, hR7, hl7, h7⟩
        exact ⟨_, _, rows', rfl, e7, hR7, hl7, .inr h7⟩
    · rintro σ6 H6 ⟨x9, x11, rows, rfl, e6, hR6, hlen, hcase⟩
      rcases hcase with ⟨h0, _⟩ | ⟨h0, F, G, _, hF2⟩
      · omega
      · obtain ⟨B4, e7, eb4, hLL⟩ := hR6.freeze e6 o5
        have hv4 := hv3.le eb4.le
        refine s_ret (call_renamed (B := B4) (m := s + mo) (v_var rfl) (vnat (v_add (v_var rfl) (v_var rfl)) (by omega)) (call_cell (B := B4) (n := 4) (v_var rfl) (vnat (v_add (v_var rfl) v_c) (by rfl)) e7.le hv4 (by decide)) (fun w H' h => h) e7.le hLL (G.ring (by have := hF2 (by omega); omega)) (by omega) (by omega)) ?_
        rintro w H8 ⟨B8, rows', e8, hw8, hr8, hl8⟩
        exact k _ _ _ (e7.trans e8) ⟨rows', s + mo, hw8, hr8, by omega, by omega⟩
end
end Rf
end
section
set_option linter.all false
set_option autoImplicit false
set_option maxRecDepth 100000
set_option maxHeartbeats 1000000
/-! P29: _law_some, law. -/
namespace Rf
open PySem L2
section
variable {K : PySem.W.Frag} {σ : St} {B H : Hp} {ta tb tc te tl tn t1 t2 t3 t4 : TE} {g : TG} {D : Ends}
/-! ### _law_some -/
def sp_some (K : PySem.W.Frag) : Sp := fun vs H Q _ => ∃ B v xs c, vs = [v, nv c] ∧ 4 ≤ c ∧ c < 8 ∧ Le B H ∧ LI K B v xs ∧ Ret B H (fun w B' => ∃ rows m, LL K B' w rows ∧ Ring rows m ∧ m ≤ 200 ∧ rows.length ≤ 200) Q
theorem call_some {v : V} {xs : List Int} {c : Nat} (h1 : Val ta σ H v) (h2 : Val tb σ H (nv c)) (h4 : 4 ≤ c) (h8 : c < 8) (l : Le B H) (hv : LI K B v xs) : VH (tCall (sp_some K) [] E0 (tCons ta (tCons tb tNil))) σ H fun w H' => ∃ B' rows m, Ext B H B' H' ∧ LL K B' w rows ∧ Ring rows m ∧ m ≤ 200 ∧ rows.length ≤ 200 :=
  c_call (g_cons h1 (g_cons h2 g_nil)) fun Q q => ⟨B, v, xs, c, rfl, h4, h8, l, hv, fun w B' H' e ⟨rows, m, k1, k2, k3, k4⟩ => q w H' ⟨B', rows, m, e, k1, k2, k3, k4⟩⟩
theorem r__law_some (vs : List V) (H : Hp) (Q : VK) (E : XK) (h : sp_some K vs H Q E) : t__law_some K (sp_renamed K) (sp_cell K) (sp_kind K) (sp_numbers K) (sp_grown K) { nx := fun _ H' => Q .non H', rt := Q } (L2.start N__law_some vs) H := by
  obtain ⟨B, v, xs, c, rfl, h4, h8, hl, hv, k⟩ := h
  refine q_if (b := false) (a_t (vas (v_lt (v_var rfl) v_c) (by rw [decide_eq_false]; omega))) (fun h => by cases h) (fun _ => ?_)
  refine q_if (b := decide (c < 6)) (a_t (vas (v_lt (v_var rfl) v_c) (by congr 1; simp only [decide_eq_decide]; omega))) (fun hb => ?_) (fun hb => ?_)
  · have hc := of_decide_eq_true hb
    refine s_ret (call_grown (B := B) (v_var rfl) v_c (vnat (v_sub (v_div (v_var rfl) v_c ⟨by decide, by decide⟩) v_c) (by omega)) hl hv) ?_
    rintro w H1 ⟨B1, rows, m, e1, k1, k2, k3, k4⟩
    exact k _ _ _ e1 ⟨rows, m, k1, k2, k3, k4⟩
  · have hc : 6 ≤ c := by have := of_decide_eq_false hb; omega
    refine q_set (call_numbers (B := B) (call_cell (B := B) (n := 1) (v_var rfl) v_c hl hv (by decide)) (fun w H' h => h) v_c hl) ?_
    rintro w1 H1 ⟨B1, p, R, C, S, e1, rfl, hp, hrcs⟩
    have hp1 := sqT_le hp e1.le
    -- drawing
    refine q_set (P := fun w H' => ∃ B' rows, Ext B H B' H' ∧ LL K B' w rows ∧ Ring rows ((c - 4) * rows.length) ∧ rows.length ≤ 40) (fun Q' q' => ?_) ?_
    · unfold tCall tCons
      refine (fun (h : tOp (rIxL K) (tLst (tCons (tC (.str "fours")) (tCons (tC (.str "threes")) tNil))) (tOp rSubI (tVar 1) (tC (.int 6))) [some v, some (nv c), some (.ref p), none] H1 _) => h) ?_
      unfold tOp
      refine n_lst (vs := [.str "fours", .str "threes"]) (g_cons v_c (g_cons v_c g_nil)) (by simp) _ ?_
      rintro w2 H2 ⟨q, hq, rfl, rfl⟩
      have e2 := e1.own hq (o := .lst [.str "fours", .str "threes"])
      have hp2 := sqT_le (K := K) hp e2.le
      refine (vnat (j := c - 6) (v_sub (v_var rfl) v_c) (by omega) : Val (tOp rSubI (tVar 1) (tC (.int 6))) [some v, some (nv c), some (.ref p), none] _ (nv (c - 6))) _ ?_
      refine ⟨q, [.str "fours", .str "threes"], ((c - 6 : Nat) : Int), sortV (decide (c = 6)), rfl, rfl, .of upd_same, atI_nat ?_, ?_⟩
      · rcases (by omega : c = 6 ∨ c = 7) with z | z <;> subst z <;> rfl
      · refine v_ixT (K := K) (j := 0) (v_var rfl) v_c hp2 rfl _ (v_ixT (K := K) (j := 1) (v_var rfl) v_c hp2 rfl _ (v_ixT (K := K) (j := 2) (v_var rfl) v_c hp2 rfl _ ?_))
        refine ⟨B1, decide (c = 6), R, C, S, rfl, e2.le, hrcs, fun w B' H' e ⟨rows, k1, k2, k3⟩ => q' _ _ ⟨B', rows, e2.trans e, k1, ?_, k3⟩⟩
        rcases (by omega : c = 6 ∨ c = 7) with z | z <;> subst z <;> exact k2
    · rintro w3 H3 ⟨B3, rows, e3, hw3, hring, hlen⟩
      have hm : (c - 4) * rows.length ≤ 3 * 40 := Nat.mul_le_mul (by omega) hlen
      refine s_ret (call_renamed (B := B3) (m := (c - 4) * rows.length) (v_var rfl) (vnat (v_mul (v_sub (v_var rfl) v_c) (v_lenL (v_var rfl) (hw3.le e3.le)) (.inr ⟨by omega, by omega⟩)) (by rw [Int.natCast_mul, show ((c - 4 : Nat) : Int) = (c : Int) - 4 by omega])) (call_cell (B := B3) (n := 2) (v_var rfl) v_c e3.le (hv.le e3.bb.le) (by decide)) (fun w H' h => h) e3.le hw3 hring (by omega) (by omega)) ?_
      rintro w H4 ⟨B4, rows', e4, k1, k2, k3⟩
      exact k _ _ _ (e3.trans e4) ⟨rows', _, k1, k2, by omega, by omega⟩

/-! ### pairs compared -/
theorem pr_shaped (a b : Int) : SeqAt.shaped (.tuple [.int a, .int b]) = true := by
  have h : PyData.depth (.tuple [.int a, .int b]) ≤ 64 := by simp [PyData.depth, PyData.depthAll]
  show (PyData.canLay0 (.tuple [.int a, .int b]) && decide (PyData.depth (.tuple [.int a, .int b]) ≤ 64)) = true
  rw [Bool.and_eq_true]
  exact ⟨by simp [PyData.canLay0, PyData.canLayAll0], decide_eq_true h⟩
theorem pr_eqv (a b c d : Int) : PyData.eqv (.tuple [.int a, .int b]) (.tuple [.int c, .int d]) = decide (a = c ∧ b = d) := by
  simp only [PyData.eqv, PyData.eqvAll, Bool.and_true, Bool.decide_and]
  rfl
theorem n_eqT {a b c d : Int} (h1 : ∀ H', Val t1 σ H' (.int a)) (h2 : ∀ H', Val t2 σ H' (.int b)) (h3 : ∀ H', Val t3 σ H' (.int c)) (h4 : ∀ H', Val t4 σ H' (.int d)) :
    VH (tOp (rEqD K) (tTup (tCons t1 (tCons t2 tNil))) (tTup (tCons t3 (tCons t4 tNil)))) σ H fun w H' => Ex H H' ∧ w = .bl (decide (a = c ∧ b = d)) := fun Q q => by
  unfold tOp
  refine n_tup (g_cons (h1 _) (g_cons (h2 _) g_nil)) (by simp) _ ?_
  rintro w1 H1 ⟨p, hp, rfl, rfl⟩
  refine n_tup (g_cons (h3 _) (g_cons (h4 _) g_nil)) (by simp) _ ?_
  rintro w2 H2 ⟨r, hr, rfl, rfl⟩
  have npr : p ≠ r := ne_of_none upd_same hr
  refine ⟨.tuple [.int a, .int b], .tuple [.int c, .int d], .tup (.of (by rw [upd_ne npr, upd_same])) (.cons (.int a) (.cons (.int b) .nil)), .tup (.of upd_same) (.cons (.int c) (.cons (.int d) .nil)), pr_shaped a b, pr_shaped c d, ?_⟩
  rw [pr_eqv]
  exact q _ _ ⟨(Ex.new hp).trans (Ex.new hr), rfl⟩
theorem n_lenV {P P' : V → Hp → Prop} (h : VH te σ H P) (k : ∀ w H', P w H' → ∃ p ys, w = .ref p ∧ SqL K H' p ys ∧ P' (nv ys.length) H') : VH (tCB (rLenS K) (tCons te tNil)) σ H P' := fun Q q => h _ fun w H' p => by
  obtain ⟨r, ys, rfl, hs, p'⟩ := k w H' p
  exact ⟨r, ys, rfl, .inl hs, q _ _ p'⟩
/-- a round there is -/
theorem Ring.core {rows : List (List Nat)} {m : Nat} (R : Ring rows m) {st : Nat → Bool} (C : Core rows st) : ¬ ∀ e ∈ rows.flatten, st e = false := fun h => by
  obtain ⟨z, Z, e, he, hz⟩ := R.cyc
  have hm := (R.dr.mem e).mpr he
  have := C.keep z (fun x hx => Z.anti x ((R.dr.mem x).mp hx)) Z.row e hm hz
  rw [h e hm] at this
  cases this

/-! ### law -/
def sp_law (K : PySem.W.Frag) : Sp := fun vs H Q _ => ∃ v xs, vs = [v] ∧ LI K H v xs ∧ ∀ H', Q (.bl true) H'
theorem r_law (vs : List V) (H : Hp) (Q : VK) (E : XK) (h : sp_law K vs H Q E) : t_law K (sp_lnum K) (sp_added K) (sp_oner K) (sp_marks K) (sp_turn K) (sp_cell K) (sp_rest K) (sp_some K) (sp_draws K) { nx := fun _ H' => Q .non H', rt := Q } (L2.start N_law vs) H := by
  obtain ⟨v, xs, rfl, hv, k⟩ := h
  have hl : Le H H := .refl H
  -- choice, apart
  refine q_unl2 (call_draws (B := H) (ns := [4, 2]) (call_cell (B := H) (n := 0) (v_var rfl) v_c hl hv (by decide)) ?_ (by simp) (by simp)) ?_
  · rintro w H ⟨hc, rfl⟩
    exact ⟨hc, n_lstN (ns := [4, 2]) hl (g_cons v_c (g_cons v_c g_nil)) (by simp)⟩
  rintro w1 H1 ⟨B1, ds, e1, hw1, hds⟩
  obtain ⟨ch, ap, rfl⟩ := len2 (l := ds) hds.1
  have hch : ch < 4 := hds.2 0 ch 4 rfl rfl
  refine ⟨ch, ap, hw1.le e1.le, ?_⟩
  have hv1 := hv.le e1.bb.le
  -- drawing
  refine q_set (call_some (B := B1) (c := 4 + ch) (v_var rfl) (vnat (v_add v_c (v_var rfl)) (by omega)) (by omega) (by omega) e1.le hv1) ?_
  rintro dr H2 ⟨B2, rows, m, e2', hdr, R, hm, hz⟩
  have e2 := e1.trans e2'
  have hv2 := hv1.le e2'.bb.le
  have Dw0 : Dw rows m := ⟨R.dr, R.ne, by omega, by omega⟩
  have F := Dw0.few
  have hmt : ∀ e ∈ rows.flatten, mate e ∈ rows.flatten := fun e he => (R.dr.mem _).mpr (mate_lt ((R.dr.mem e).mp he))
  -- one
  refine q_set (call_turn (B := B2) (L := rows) (P2 := fun u w H' => u = dr ∧ (∃ c, w = .int c) ∧ H' = H2) (val_vh (v_var rfl)) (fun u H' hu => (call_cell (B := B2) (n := 5) (v_var rfl) v_c (by rw [hu.2]; exact e2.le) hv2 (by decide)).mono fun w H'' h => ⟨hu.1, h.1, h.2.trans hu.2⟩) (fun u w H' h => by
    obtain ⟨rfl, ⟨c, rfl⟩, rfl⟩ := h
    exact ⟨B2, c, Ext.refl e2.le, rfl, hdr⟩) F (by omega) hmt) ?_
  rintro o1 H3 ⟨B3, W1, e3', ho1, hc1⟩
  have e3 := e2.trans e3'
  have hdr3 := hdr.le e3'.bb.le
  have hv3 := hv2.le e3'.bb.le
  have R1 : Rnd m (seat rows) W1 := by
    rcases hc1 with ⟨_, st, C, hno⟩ | h
    · exact absurd hno (R.core C)
    · exact h.rnd Dw0
  -- two
  refine q_set (call_turn (B := B3) (L := rows) (P2 := fun u w H' => u = dr ∧ (∃ c, w = .int c) ∧ H' = H3) (val_vh (v_var rfl)) (fun u H' hu => (call_cell (B := B3) (n := 6) (v_var rfl) v_c (by rw [hu.2]; exact e3.le) hv3 (by decide)).mono fun w H'' h => ⟨hu.1, h.1, h.2.trans hu.2⟩) (fun u w H' h => by
    obtain ⟨rfl, ⟨c, rfl⟩, rfl⟩ := h
    exact ⟨B3, c, Ext.refl e3.le, rfl, hdr3⟩) F (by omega) hmt) ?_
  rintro o2 H4 ⟨B4, W2, e4', ho2, hc2⟩
  have e4 := e3.trans e4'
  have hdr4 := hdr3.le e4'.bb.le
  have hv4 := hv3.le e4'.bb.le
  have ho14 := ho1.le e4'.bb.le
  have R2 : Rnd m (seat rows) W2 := by
    rcases hc2 with ⟨_, st, C, hno⟩ | h
    · exact absurd hno (R.core C)
    · exact h.rnd Dw0
  have h1len := R1.len Dw0
  -- other
  refine q_set (call_turn (B := B4) (L := restOf rows (W1.map (seat rows))) (P2 := fun u w H' => (∃ c, w = .int c) ∧ ∃ B', Ext B4 H4 B' H' ∧ LL K B' u (restOf rows (W1.map (seat rows)))) (call_rest (B := B4) (v_var rfl) (v_var rfl) e4.le hdr4 ho14 Dw0 R1.lt (by omega)) (fun u H' ⟨B', e', hu⟩ => (call_cell (B := B') (n := 6) (v_var rfl) v_c e'.le (hv4.le e'.bb.le) (by decide)).mono fun w H'' h => ⟨h.1, B', by rw [h.2]; exact e', hu⟩) (fun u w H' h => by
    obtain ⟨⟨c, rfl⟩, B', e', hu⟩ := h
    exact ⟨B', c, e', rfl, hu⟩) (restOf_few Dw0) (by rw [restOf_len]; omega) (restOf_mate Dw0)) ?_
  rintro o3 H5 ⟨B5, W3, e5', ho3, hc3⟩
  have e5 := e4.trans e5'
  have hdr5 := hdr4.le e5'.bb.le
  have ho15 := ho14.le e5'.bb.le
  have ho25 := ho2.le e5'.bb.le
  -- if apart == 1 and len(other) > 0
  refine q_join (fun σ' H' => ∃ w W, σ' = [some v, some (nv ch), some (nv ap), some dr, some o1, some w, some o3, none, none, none, none, none, none, none, none, none, none] ∧ H' = H5 ∧ LN K B5 w W ∧ Rnd m (seat rows) W)
    (a_and (a_t (v_eqI (v_var rfl) v_c)) fun _ => a_t (v_gt (v_lenN (v_var rfl) (ho3.le e5.le)) v_c)) ?_ (fun hb nx hk => s_setV (v_var rfl) (hk _ _ ⟨o3, W3, rfl, rfl, ho3, ?_⟩)) (fun hb nx hk => hk _ _ ⟨o2, W2, rfl, rfl, ho25, R2⟩)
  rotate_left
  · rw [Bool.and_eq_true] at hb
    have hlen := of_decide_eq_true hb.2
    rcases hc3 with ⟨rfl, _⟩ | h
    · simp at hlen
    · exact restOf_rnd Dw0 h
  clear hc2 R2 ho2 ho25 hc1 hc3
  rintro _ H5 ⟨o2, W2, rfl, rfl, ho2, R2⟩
  have h2len := R2.len Dw0
  -- marks
  refine q_set (P := fun w H' => ∃ (B' : Hp) (fs : List (Int × Int)), Ext B5 H5 B' H' ∧ LT K B' w fs ∧ fs.length = m ∧ Low fs ∧ ∃ T C l0 l1, Floor m rows (landsOf rows m) (beh rows) (seat rows) (seat (landsOf rows m)) T C l0 l1 (mrk (fA fs)) (mrk (fB fs))) (fun Q' q' => ?_) ?_
  · unfold tCall tCons
    obtain ⟨a, us, rfl, ha, hus⟩ := id hdr5
    refine n_lcB (B := B5) (fun B' y i => ∃ r, rows[i]? = some r ∧ LN K B' y r) (fun B2 B3 y i e ⟨r, h1, h2⟩ => ⟨r, h1, h2.le e.le⟩) e5.le (v_var rfl) ha (by rw [hus.1]; omega) (fun _ => rfl) ?_ _ ?_
    · intro i x B6 H6 hi e6
      obtain ⟨r, hr, hxr⟩ := hus.getV hi
      refine (n_lstS (v_var rfl) (hxr.le (e6.bb.le.trans e6.le))).mono ?_
      rintro w H7 ⟨q, hq, rfl, rfl⟩
      exact ⟨_, Ext.new e6.le hq, r, hr, .of upd_same⟩
    · rintro w H6 ⟨d, B6, ys, rfl, e6, o6, hyl, hys⟩
      have e7 := e6.freeze o6
      refine ⟨upd B6 d (.lst ys), .ref d, rows, m, rfl, e7.le, .of upd_same ⟨by rw [hyl, hus.1], fun i y r h1 h2 => ?_⟩, Dw0, R, fun w B' H' e ⟨fs, h1⟩ => q' _ _ ⟨B', fs, e7.trans e, h1⟩⟩
      obtain ⟨r', hr', h3⟩ := hys i y h1
      rw [h2] at hr'
      cases hr'
      exact h3.le (Ex.new o6.b).le
  rintro mk H6 ⟨B6, fs, e6', hmk, hfl, hlow, T, C, l0, l1, FL⟩
  have e6 := e5.trans e6'
  have hdr6 := hdr5.le e6'.bb.le
  have ho16 := ho15.le e6'.bb.le
  have ho26 := ho2.le e6'.bb.le
  -- one round, the other round
  refine q_ifH (P := fun b H' => b = false ∧ ∃ B', Ext B6 H6 B' H') (fun Q' q' => ?_) ?_
  · unfold tOr tNot tB
    refine call_oner (B := B6) (v_var rfl) (v_var rfl) (v_var rfl) e6.le hdr6 ho16 hmk hfl Dw0 R R1 FL _ ?_
    rintro w7 H7 ⟨B7, e7, rfl⟩
    refine ⟨true, rfl, iteF ?_⟩
    refine call_oner (B := B7) (v_var rfl) (v_var rfl) (v_var rfl) e7.le (hdr6.le e7.bb.le) (ho26.le e7.bb.le) (hmk.le e7.bb.le) hfl Dw0 R R2 FL _ ?_
    rintro w8 H8 ⟨B8, e8, rfl⟩
    exact ⟨true, rfl, q' _ _ ⟨rfl, B8, e7.trans e8⟩⟩
  rintro b H7 ⟨rfl, B7, e7'⟩
  rw [if_neg (by decide)]
  have e7 := e6.trans e7'
  have hdr7 := hdr6.le e7'.bb.le
  have ho17 := ho16.le e7'.bb.le
  have ho27 := ho26.le e7'.bb.le
  have hmk7 := hmk.le e7'.bb.le
  dsimp only
  -- p, q, high, wide
  refine q_two (call_added (B := B7) (v_var rfl) (v_var rfl) e7.le hmk7 ho17 (fun e he => by have := R1.lt e he; omega) (by omega)) ?_
  rintro w8 H8 ⟨B8, e8', hw8⟩
  have e8 := e7.trans e8'
  refine ⟨_, _, hw8.le e8.le, ?_⟩
  refine q_two (call_added (B := B8) (v_var rfl) (v_var rfl) e8.le (hmk7.le e8'.bb.le) (ho27.le e8'.bb.le) (fun e he => by have := R2.lt e he; omega) (by omega)) ?_
  rintro w9 H9 ⟨B9, e9', hw9⟩
  have e9 := e8.trans e9'
  refine ⟨_, _, hw9.le e9.le, ?_⟩
  have hcom := FL.common R1 R2
  have lowS : ∀ W : List Nat, W.length ≤ 500 → (sm (mrk (fA fs)) W).natAbs < 2 ^ 20012 ∧ (sm (mrk (fB fs)) W).natAbs < 2 ^ 20012 := fun W hW => ⟨Nat.lt_trans (low_sum hlow.1 (by omega)) (Nat.pow_lt_pow_right (by decide) (by decide)), Nat.lt_trans (low_sum hlow.2 (by omega)) (Nat.pow_lt_pow_right (by decide) (by decide))⟩
  obtain ⟨lp, lq⟩ := lowS W1 h1len
  obtain ⟨lp2, lq2⟩ := lowS W2 h2len
  -- no common divisor
  have prim : ∀ W : List Nat, Rnd m (seat rows) W → ¬ (sm (mrk (fA fs)) W = 0 ∧ sm (mrk (fB fs)) W = 0) → ∀ d : Int, d ∣ sm (mrk (fA fs)) W → d ∣ sm (mrk (fB fs)) W → d ∣ 1 := fun W RW hne d h1 h2 => by
    cases W with
    | nil => exact absurd rfl RW.ne
    | cons w l =>
      refine FL.prim RW (w := w) (by simp) ?_ h1 h2
      exact Classical.byContradiction fun hc => hne (FL.part RW hc)
  have pr1 := prim W1 R1
  have pr2 := prim W2 R2
  generalize sm (mrk (fA fs)) W1 = p at *
  generalize sm (mrk (fB fs)) W1 = q at *
  generalize sm (mrk (fA fs)) W2 = p2 at *
  generalize sm (mrk (fB fs)) W2 = q2 at *
  -- seats, there
  have hdr9 := hdr7.le (e8'.bb.trans e9'.bb).le
  have ho19 := ho17.le (e8'.bb.trans e9'.bb).le
  have ho29 := ho27.le (e8'.bb.trans e9'.bb).le
  refine q_set (call_lnum (B := B9) (v_var rfl) e9.le hdr9 F) ?_
  rintro sd H10 ⟨B10, e10', hsd⟩
  have e10 := e9.trans e10'
  refine q_set (n_places (B := B10) (rows := rows) e10.le (v_var rfl) (ho19.le e10'.bb.le) (by omega) (fun _ => rfl) (fun _ => rfl) (fun _ => rfl) hsd Dw0 R1.lt) ?_
  rintro th H11 ⟨B11, e11', hth⟩
  have e11 := e10.trans e11'
  have hsd11 := hsd.le e11'.bb.le
  have ho211 := ho29.le (e10'.bb.trans e11'.bb).le
  -- common
  refine q_set (P := fun w H' => Ex H11 H' ∧ w = nv (W2.countP fun x => decide (seat rows x ∈ W1.map (seat rows)))) (n_lenV (K := K) (n_lcN (B := B11) (fun x => decide (seat rows x ∈ W1.map (seat rows))) nv e11.le (v_var rfl) ho211 (by omega) (fun _ => rfl) (fun n H' hn e => a_t (v_inN (n := seat rows n) (v_get (n := n) (f := fun e => nv (seat rows e)) (v_var rfl) (hsd11.le (e11.le.trans e.le)) (v_var rfl) ((R.dr.mem n).mpr (R2.lt n hn))) (v_var rfl) (hth.le (e11.le.trans e.le)))) (fun n H' _ _ _ => v_var rfl)) ?_) ?_
  · rintro w H' ⟨d, hd, rfl, rfl⟩
    refine ⟨d, _, rfl, .of upd_same, Ex.new hd, ?_⟩
    rw [List.length_map, List.countP_eq_length_filter]
  rintro w12 H12 ⟨x12, rfl⟩
  generalize W2.countP (fun x => decide (seat rows x ∈ W1.map (seat rows))) = co at hcom ⊢
  -- if common < abs(..)
  refine q_ifF (a_t (vas (v_lt (v_var rfl) (v_abs (v_sub (v_mulW (v_var rfl) (v_var rfl) (low_mul lp lq2)) (v_mulW (v_var rfl) (v_var rfl) (low_mul lq lp2))))) ?_)) ?_
  · rw [abs_nat]
    congr 1
    rw [decide_eq_false]
    omega
  unfold tNext
  dsimp only
  -- if common > 0 or ..
  refine q_ifH (P := fun b H' => b = decide (0 < co ∨ (p = 0 ∧ q = 0) ∨ (p2 = 0 ∧ q2 = 0)) ∧ True) (fun Q' q' => ?_) ?_
  · unfold tOr
    refine (a_t (v_gt (v_var rfl) v_c) : Ans (tTest (tOp rGtI (tVar 16) (tC (.int 0)))) _ _ _) _ ?_
    by_cases hco : 0 < co
    · rw [decide_eq_true (by omega : (0 : Int) < ((co : Nat) : Int))]
      exact iteT (q' _ _ ⟨by rw [decide_eq_true (.inl hco)], trivial⟩)
    · rw [decide_eq_false (by omega : ¬ (0 : Int) < ((co : Nat) : Int))]
      refine iteF ?_
      refine n_eqT (K := K) (a := p) (b := q) (c := 0) (d := 0) (fun _ => v_var rfl) (fun _ => v_var rfl) (fun _ => v_c) (fun _ => v_c) _ ?_
      rintro w13 H13 ⟨x13, rfl⟩
      refine ⟨_, rfl, ?_⟩
      by_cases hpq : p = 0 ∧ q = 0
      · rw [decide_eq_true hpq]
        exact iteT (q' _ _ ⟨by rw [decide_eq_true (.inr (.inl hpq))], trivial⟩)
      · rw [decide_eq_false hpq]
        refine iteF ?_
        refine n_eqT (K := K) (a := p2) (b := q2) (c := 0) (d := 0) (fun _ => v_var rfl) (fun _ => v_var rfl) (fun _ => v_c) (fun _ => v_c) _ ?_
        rintro w14 H14 ⟨x14, rfl⟩
        refine ⟨_, rfl, q' _ _ ⟨?_, trivial⟩⟩
        simp only [decide_eq_decide]
        constructor
        · exact fun h => .inr (.inr h)
        · rintro (h | h | h)
          · exact absurd h hco
          · exact absurd h hpq
          · exact h
  rintro b H13 ⟨rfl, _⟩
  by_cases hc : 0 < co ∨ (p = 0 ∧ q = 0) ∨ (p2 = 0 ∧ q2 = 0)
  · rw [if_pos (decide_eq_true hc)]
    exact s_retV v_c (k _)
  · rw [if_neg (by rw [decide_eq_false hc]; decide)]
    have hco : co = 0 := Nat.eq_zero_of_not_pos fun h => hc (.inl h)
    have h1 : ¬ (p = 0 ∧ q = 0) := fun h => hc (.inr (.inl h))
    have h2 : ¬ (p2 = 0 ∧ q2 = 0) := fun h => hc (.inr (.inr h))
    have hz : p * q2 - q * p2 = 0 := by
      have : (p * q2 - q * p2).natAbs = 0 := by omega
      exact Int.natAbs_eq_zero.mp this
    have hsame := same_pair hz (pr1 h1) (pr2 h2)
    dsimp only
    unfold tRet tOrV
    refine n_eqT (K := K) (a := p2) (b := q2) (c := p) (d := q) (fun _ => v_var rfl) (fun _ => v_var rfl) (fun _ => v_var rfl) (fun _ => v_var rfl) _ ?_
    rintro w14 H14 ⟨x14, rfl⟩
    refine ⟨_, rfl, ?_⟩
    by_cases hs : p2 = p ∧ q2 = q
    · rw [decide_eq_true hs]
      exact iteT (k _)
    · rw [decide_eq_false hs]
      refine iteF ?_
      refine n_eqT (K := K) (a := p2) (b := q2) (c := -p) (d := -q) (fun _ => v_var rfl) (fun _ => v_var rfl) (fun _ => v_neg (v_var rfl)) (fun _ => v_neg (v_var rfl)) _ ?_
      rintro w15 H15 ⟨x15, rfl⟩
      rcases hsame with h | h
      · exact absurd h hs
      · rw [decide_eq_true h]
        exact k _
end
end Rf
end
section
set_option linter.all false
set_option maxRecDepth 100000
set_option maxHeartbeats 4000000
/-! RfD: the rules by which the bodies have their readings (printed by gen.py). -/
namespace Rf
open PySem PyProof.Rows L2
def topS (i : Nat) : Stmt := PySem.Challenge.pw_ringfloor_k62_whole_rounds_by_marks.main.body.getD i (.Pass ⟨0, 0, 0, 0⟩)
section
variable {P : Program} {w : World} {K : PySem.W.Frag} {mg : Str → Option Value} {base : Heap}
abbrev s_mate_of : Stmt := topS 5
theorem sc_mate_of : FnScope N_mate_of ps_mate_of (defScope s_mate_of) := ⟨rfl, rfl, rfl, by decide +kernel, rfl, by decide +kernel, by decide +kernel⟩
theorem b_mate_of {f : Addr} {fd : FuncData} (F : Fun K "mate_of" "mate_of" s_mate_of f fd) : Binds K fd ps_mate_of [] := F.binds fun _ _ _ _ _ _ us hl => match us, hl with | [_], _ => rfl
theorem d_mate_of (T : Bl mg) : Der P w K mg base 0 N_mate_of "mate_of" s_mate_of (t_mate_of K) := by
  intro f cdv A outer s H E hr
  have S := sc_mate_of
  exact (pss_one (ps_ret (pe_op op_subI (pe_op op_addI (pv 0) pe_int) (pe_op op_mulI pe_int (pe_op op_modI (pv 0) pe_int)))))
abbrev s_count_ends : Stmt := topS 6
theorem sc_count_ends : FnScope N_count_ends ps_count_ends (defScope s_count_ends) := ⟨rfl, rfl, rfl, by decide +kernel, rfl, by decide +kernel, by decide +kernel⟩
theorem b_count_ends {f : Addr} {fd : FuncData} (F : Fun K "count_ends" "count_ends" s_count_ends f fd) : Binds K fd ps_count_ends [] := F.binds fun _ _ _ _ _ _ us hl => match us, hl with | [_], _ => rfl
theorem d_count_ends (T : Bl mg) : Der P w K mg base 0 N_count_ends "count_ends" s_count_ends (t_count_ends K) := by
  intro f cdv A outer s H E hr
  have S := sc_count_ends
  exact (pss_one (ps_ret (pe_callB (cr_sum (by rfl)) (by rfl) T.sum (by decide +kernel) (pa_cons (pe_lc (own := [("row", 1)]) (g := (gName 1)) (tt := tYes) (by rfl) S.nd (pi_list (pv 0)) (blkOk_by (N := N_count_ends) (sc := defScope s_count_ends) (by decide +kernel))  (fun _ _ _ _ _ => (pg_name (i := 1) S.nd rfl (by first | exact Or.inl rfl | exact Or.inr rfl))) (fun _ _ _ _ _ => pts_nil) (fun _ _ _ _ _ => (pe_callB cr_lenS (by rfl) T.len (by decide +kernel) (pa_cons (pv 1) pa_nil)))) pa_nil))))
abbrev s_seats_of : Stmt := topS 7
theorem sc_seats_of : FnScope N_seats_of ps_seats_of (defScope s_seats_of) := ⟨rfl, rfl, rfl, by decide +kernel, rfl, by decide +kernel, by decide +kernel⟩
theorem b_seats_of {f : Addr} {fd : FuncData} (F : Fun K "seats_of" "seats_of" s_seats_of f fd) : Binds K fd ps_seats_of [] := F.binds fun _ _ _ _ _ _ us hl => match us, hl with | [_], _ => rfl
theorem d_seats_of (T : Bl mg) {sp_count_ends : Sp} (c_count_ends : Callee P w K mg base "count_ends" 1 ps_count_ends sp_count_ends) : Der P w K mg base 1 N_seats_of "seats_of" s_seats_of (t_seats_of K sp_count_ends) := by
  intro f cdv A outer s H E hr
  have S := sc_seats_of
  exact (pss_cons (ps_set (i := 1) S.nd rfl (by first | exact Or.inl rfl | exact Or.inr rfl) (pe_op op_rep (pe_lst (pa_cons pe_int pa_nil)) (pe_callC c_count_ends hr (by decide) (by rfl) (pa_cons (pv 0) pa_nil))))
    (pss_cons (ps_for PassesOwn.never (by rfl) (pi_enum (by rfl) T.enumerate (pa_cons (pv 0) pa_nil)) (pg_tup (by rfl) (pgs_cons (pg_name (i := 2) S.nd rfl (by first | exact Or.inl rfl | exact Or.inr rfl)) (pgs_cons (pg_name (i := 3) S.nd rfl (by first | exact Or.inl rfl | exact Or.inr rfl)) pgs_nil))) (pss_one (ps_for PassesOwn.never (by rfl) (pi_list (pv 3)) (pg_name (i := 4) S.nd rfl (by first | exact Or.inl rfl | exact Or.inr rfl)) (pss_one (ps_asg (pv 2) (pg_sub (pv 1) (pv 4) set_list))))))
    (pss_one (ps_ret (pv 1)))))
abbrev s_behind_of : Stmt := topS 8
theorem sc_behind_of : FnScope N_behind_of ps_behind_of (defScope s_behind_of) := ⟨rfl, rfl, rfl, by decide +kernel, rfl, by decide +kernel, by decide +kernel⟩
theorem b_behind_of {f : Addr} {fd : FuncData} (F : Fun K "behind_of" "behind_of" s_behind_of f fd) : Binds K fd ps_behind_of [] := F.binds fun _ _ _ _ _ _ us hl => match us, hl with | [_], _ => rfl
theorem d_behind_of (T : Bl mg) {sp_count_ends : Sp} (c_count_ends : Callee P w K mg base "count_ends" 1 ps_count_ends sp_count_ends) : Der P w K mg base 1 N_behind_of "behind_of" s_behind_of (t_behind_of K sp_count_ends) := by
  intro f cdv A outer s H E hr
  have S := sc_behind_of
  exact (pss_cons (ps_set (i := 1) S.nd rfl (by first | exact Or.inl rfl | exact Or.inr rfl) (pe_op op_rep (pe_lst (pa_cons pe_int pa_nil)) (pe_callC c_count_ends hr (by decide) (by rfl) (pa_cons (pv 0) pa_nil))))
    (pss_cons (ps_for PassesOwn.never (by rfl) (pi_list (pv 0)) (pg_name (i := 2) S.nd rfl (by first | exact Or.inl rfl | exact Or.inr rfl)) (pss_one (ps_for PassesOwn.never (by rfl) (pi_enum (by rfl) T.enumerate (pa_cons (pv 2) pa_nil)) (pg_tup (by rfl) (pgs_cons (pg_name (i := 3) S.nd rfl (by first | exact Or.inl rfl | exact Or.inr rfl)) (pgs_cons (pg_name (i := 4) S.nd rfl (by first | exact Or.inl rfl | exact Or.inr rfl)) pgs_nil))) (pss_one (ps_asg (pe_ix ix_list (pv 2) (pe_op op_modI (pe_op op_addI (pv 3) pe_int) (pe_callB cr_lenS (by rfl) T.len (by decide +kernel) (pa_cons (pv 2) pa_nil))) (fun _ _ => rfl)) (pg_sub (pv 1) (pv 4) set_list))))))
    (pss_one (ps_ret (pv 1)))))
abbrev s_lands_of : Stmt := topS 10
theorem sc_lands_of : FnScope N_lands_of ps_lands_of (defScope s_lands_of) := ⟨rfl, rfl, rfl, by decide +kernel, rfl, by decide +kernel, by decide +kernel⟩
theorem b_lands_of {f : Addr} {fd : FuncData} (F : Fun K "lands_of" "lands_of" s_lands_of f fd) : Binds K fd ps_lands_of [] := F.binds fun _ _ _ _ _ _ us hl => match us, hl with | [_], _ => rfl
theorem d_lands_of (T : Bl mg) {sp_mate_of : Sp} {sp_behind_of : Sp} (c_mate_of : Callee P w K mg base "mate_of" 1 ps_mate_of sp_mate_of) (c_behind_of : Callee P w K mg base "behind_of" 2 ps_behind_of sp_behind_of) : Der P w K mg base 2 N_lands_of "lands_of" s_lands_of (t_lands_of K sp_mate_of sp_behind_of) := by
  intro f cdv A outer s H E hr
  have S := sc_lands_of
  exact (pss_cons (ps_set (i := 1) S.nd rfl (by first | exact Or.inl rfl | exact Or.inr rfl) (pe_callC c_behind_of hr (by decide) (by rfl) (pa_cons (pv 0) pa_nil)))
    (pss_cons (ps_set (i := 2) S.nd rfl (by first | exact Or.inl rfl | exact Or.inr rfl) (pe_op op_rep (pe_lst (pa_cons pe_bl pa_nil)) (pe_callB cr_lenS (by rfl) T.len (by decide +kernel) (pa_cons (pv 1) pa_nil))))
    (pss_cons (ps_set (i := 3) S.nd rfl (by first | exact Or.inl rfl | exact Or.inr rfl) (pe_lst pa_nil))
    (pss_cons (ps_for PassesOwn.never (by rfl) (pi_range1 (by rfl) T.range (pa_cons (pe_callB cr_lenS (by rfl) T.len (by decide +kernel) (pa_cons (pv 1) pa_nil)) pa_nil)) (pg_name (i := 4) S.nd rfl (by first | exact Or.inl rfl | exact Or.inr rfl)) (pss_cons (ps_if (pt_val (pe_ix ix_list (pv 2) (pv 4) (fun _ _ => rfl))) (pss_one ps_continue) pss_nil)
    (pss_cons (ps_set (i := 5) S.nd rfl (by first | exact Or.inl rfl | exact Or.inr rfl) (pe_lst pa_nil))
    (pss_cons (ps_set (i := 6) S.nd rfl (by first | exact Or.inl rfl | exact Or.inr rfl) (pv 4))
    (pss_cons (ps_while PassesOwn.never (pt_not (pt_val (pe_ix ix_list (pv 2) (pv 6) (fun _ _ => rfl)))) (pss_cons (ps_asg pe_bl (pg_sub (pv 2) (pv 6) set_list))
    (pss_cons (ps_expr (pe_bm PySem.F.plainAttrs_list PySem.F.slot_list_append PySem.F.type_list_append mt_append (pv 5) (pa_cons (pv 6) pa_nil)))
    (pss_one (ps_set (i := 6) S.nd rfl (by first | exact Or.inl rfl | exact Or.inr rfl) (pe_ix ix_list (pv 1) (pe_callC c_mate_of hr (by decide) (by rfl) (pa_cons (pv 6) pa_nil)) (fun _ _ => rfl)))))))
    (pss_one (ps_expr (pe_bm PySem.F.plainAttrs_list PySem.F.slot_list_append PySem.F.type_list_append mt_append (pv 3) (pa_cons (pv 5) pa_nil)))))))))
    (pss_cons (ps_for PassesOwn.never (by rfl) (pi_list (pv 0)) (pg_name (i := 7) S.nd rfl (by first | exact Or.inl rfl | exact Or.inr rfl)) (pss_one (ps_if (pt_cmpR op_eq (pe_callB cr_lenS (by rfl) T.len (by decide +kernel) (pa_cons (pv 7) pa_nil)) pe_int (nomark _)) (pss_one (ps_expr (pe_bm PySem.F.plainAttrs_list PySem.F.slot_list_append PySem.F.type_list_append mt_append (pv 3) (pa_cons (pe_lst pa_nil) pa_nil)))) pss_nil)))
    (pss_one (ps_ret (pv 3))))))))
abbrev s_part_about : Stmt := topS 11
theorem sc_part_about : FnScope N_part_about ps_part_about (defScope s_part_about) := ⟨rfl, rfl, rfl, by decide +kernel, rfl, by decide +kernel, by decide +kernel⟩
theorem b_part_about {f : Addr} {fd : FuncData} (F : Fun K "part_about" "part_about" s_part_about f fd) : Binds K fd ps_part_about [] := F.binds fun _ _ _ _ _ _ us hl => match us, hl with | [_, _, _], _ => rfl
theorem d_part_about (T : Bl mg) {sp_mate_of : Sp} (c_mate_of : Callee P w K mg base "mate_of" 1 ps_mate_of sp_mate_of) : Der P w K mg base 1 N_part_about "part_about" s_part_about (t_part_about K sp_mate_of) := by
  intro f cdv A outer s H E hr
  have S := sc_part_about
  exact (pss_cons (ps_set (i := 3) S.nd rfl (by first | exact Or.inl rfl | exact Or.inr rfl) (pe_disp (pps_cons (pv 2) pe_bl pps_nil) (by rfl) (by rfl) (fun z => by cases z) (by decide)))
    (pss_cons (ps_set (i := 4) S.nd rfl (by first | exact Or.inl rfl | exact Or.inr rfl) (pe_lst (pa_cons (pv 2) pa_nil)))
    (pss_cons (ps_while PassesOwn.never (pt_cmpR op_gtI (pe_callB cr_lenS (by rfl) T.len (by decide +kernel) (pa_cons (pv 4) pa_nil)) pe_int (nomark _)) (pss_cons (ps_set (i := 5) S.nd rfl (by first | exact Or.inl rfl | exact Or.inr rfl) (pe_bm0 PySem.F.plainAttrs_list PySem.F.slot_list_pop PySem.F.type_list_pop mt_pop (pv 4)))
    (pss_one (ps_for PassesOwn.never (by rfl) (pi_list (pe_ix ix_list (pv 0) (pv 5) (fun _ _ => rfl))) (pg_name (i := 6) S.nd rfl (by first | exact Or.inl rfl | exact Or.inr rfl)) (pss_cons (ps_set (i := 7) S.nd rfl (by first | exact Or.inl rfl | exact Or.inr rfl) (pe_ix ix_list (pv 1) (pe_callC c_mate_of hr (by decide) (by rfl) (pa_cons (pv 6) pa_nil)) (fun _ _ => rfl)))
    (pss_one (ps_if (pt_cmp (pc_dnotin (hu_of hr) (pv 7) (pv 3))) (pss_cons (ps_dput (hu_of hr) (pv 3) (pv 7) pe_bl rfl)
    (pss_one (ps_expr (pe_bm PySem.F.plainAttrs_list PySem.F.slot_list_append PySem.F.type_list_append mt_append (pv 4) (pa_cons (pv 7) pa_nil))))) pss_nil)))))))
    (pss_one (ps_ret (pe_callB (cr_sortD (by rfl)) (by rfl) T.sorted (by decide +kernel) (pa_cons (pv 3) pa_nil)))))))
abbrev s_parts_of : Stmt := topS 12
theorem sc_parts_of : FnScope N_parts_of ps_parts_of (defScope s_parts_of) := ⟨rfl, rfl, rfl, by decide +kernel, rfl, by decide +kernel, by decide +kernel⟩
theorem b_parts_of {f : Addr} {fd : FuncData} (F : Fun K "parts_of" "parts_of" s_parts_of f fd) : Binds K fd ps_parts_of [] := F.binds fun _ _ _ _ _ _ us hl => match us, hl with | [_], _ => rfl
theorem d_parts_of (T : Bl mg) {sp_part_about : Sp} {sp_seats_of : Sp} (c_part_about : Callee P w K mg base "part_about" 2 ps_part_about sp_part_about) (c_seats_of : Callee P w K mg base "seats_of" 2 ps_seats_of sp_seats_of) : Der P w K mg base 2 N_parts_of "parts_of" s_parts_of (t_parts_of K sp_part_about sp_seats_of) := by
  intro f cdv A outer s H E hr
  have S := sc_parts_of
  exact (pss_cons (ps_set (i := 1) S.nd rfl (by first | exact Or.inl rfl | exact Or.inr rfl) (pe_callC c_seats_of hr (by decide) (by rfl) (pa_cons (pv 0) pa_nil)))
    (pss_cons (ps_set (i := 2) S.nd rfl (by first | exact Or.inl rfl | exact Or.inr rfl) pe_dnewK)
    (pss_cons (ps_set (i := 3) S.nd rfl (by first | exact Or.inl rfl | exact Or.inr rfl) (pe_lst pa_nil))
    (pss_cons (ps_for PassesOwn.never (by rfl) (pi_range1 (by rfl) T.range (pa_cons (pe_callB cr_lenS (by rfl) T.len (by decide +kernel) (pa_cons (pv 0) pa_nil)) pa_nil)) (pg_name (i := 4) S.nd rfl (by first | exact Or.inl rfl | exact Or.inr rfl)) (pss_one (ps_if (pt_cmp (pc_dnotin (hu_of hr) (pv 4) (pv 2))) (pss_cons (ps_set (i := 5) S.nd rfl (by first | exact Or.inl rfl | exact Or.inr rfl) (pe_callC c_part_about hr (by decide) (by rfl) (pa_cons (pv 0) (pa_cons (pv 1) (pa_cons (pv 4) pa_nil)))))
    (pss_cons (ps_for PassesOwn.never (by rfl) (pi_list (pv 5)) (pg_name (i := 6) S.nd rfl (by first | exact Or.inl rfl | exact Or.inr rfl)) (pss_one (ps_dput (hu_of hr) (pv 2) (pv 6) pe_bl rfl)))
    (pss_one (ps_expr (pe_bm PySem.F.plainAttrs_list PySem.F.slot_list_append PySem.F.type_list_append mt_append (pv 3) (pa_cons (pv 5) pa_nil)))))) pss_nil)))
    (pss_one (ps_ret (pv 3)))))))
abbrev s_holes_of : Stmt := topS 13
theorem sc_holes_of : FnScope N_holes_of ps_holes_of (defScope s_holes_of) := ⟨rfl, rfl, rfl, by decide +kernel, rfl, by decide +kernel, by decide +kernel⟩
theorem b_holes_of {f : Addr} {fd : FuncData} (F : Fun K "holes_of" "holes_of" s_holes_of f fd) : Binds K fd ps_holes_of [] := F.binds fun _ _ _ _ _ _ us hl => match us, hl with | [_], _ => rfl
theorem d_holes_of (T : Bl mg) {sp_parts_of : Sp} {sp_lands_of : Sp} {sp_seats_of : Sp} (c_parts_of : Callee P w K mg base "parts_of" 3 ps_parts_of sp_parts_of) (c_lands_of : Callee P w K mg base "lands_of" 3 ps_lands_of sp_lands_of) (c_seats_of : Callee P w K mg base "seats_of" 2 ps_seats_of sp_seats_of) : Der P w K mg base 3 N_holes_of "holes_of" s_holes_of (t_holes_of K sp_parts_of sp_lands_of sp_seats_of) := by
  intro f cdv A outer s H E hr
  have S := sc_holes_of
  exact (pss_cons (ps_set (i := 1) S.nd rfl (by first | exact Or.inl rfl | exact Or.inr rfl) (pe_callC c_seats_of hr (by decide) (by rfl) (pa_cons (pv 0) pa_nil)))
    (pss_cons (ps_set (i := 2) S.nd rfl (by first | exact Or.inl rfl | exact Or.inr rfl) (pe_op op_rep (pe_lst (pa_cons pe_int pa_nil)) (pe_callB cr_lenS (by rfl) T.len (by decide +kernel) (pa_cons (pv 0) pa_nil))))
    (pss_cons (ps_for PassesOwn.never (by rfl) (pi_list (pe_callC c_lands_of hr (by decide) (by rfl) (pa_cons (pv 0) pa_nil))) (pg_name (i := 3) S.nd rfl (by first | exact Or.inl rfl | exact Or.inr rfl)) (pss_one (ps_if (pt_cmpR op_gtI (pe_callB cr_lenS (by rfl) T.len (by decide +kernel) (pa_cons (pv 3) pa_nil)) pe_int (nomark _)) (pss_one (ps_augS (pv 2) (pe_ix ix_list (pv 1) (pe_ix ix_list (pv 3) pe_int (fun _ _ => rfl)) (fun _ _ => rfl)) get_list pe_int ip_add set_list)) pss_nil)))
    (pss_cons (ps_set (i := 4) S.nd rfl (by first | exact Or.inl rfl | exact Or.inr rfl) (pe_lst pa_nil))
    (pss_cons (ps_for PassesOwn.never (by rfl) (pi_list (pe_callC c_parts_of hr (by decide) (by rfl) (pa_cons (pv 0) pa_nil))) (pg_name (i := 5) S.nd rfl (by first | exact Or.inl rfl | exact Or.inr rfl)) (pss_cons (ps_set (i := 6) S.nd rfl (by first | exact Or.inl rfl | exact Or.inr rfl) (pe_callB (cr_sum (by rfl)) (by rfl) T.sum (by decide +kernel) (pa_cons (pe_lc (own := [("place", 7)]) (g := (gName 7)) (tt := tYes) (by rfl) S.nd (pi_list (pv 5)) (blkOk_by (N := N_holes_of) (sc := defScope s_holes_of) (by decide +kernel))  (fun _ _ _ _ _ => (pg_name (i := 7) S.nd rfl (by first | exact Or.inl rfl | exact Or.inr rfl))) (fun _ _ _ _ _ => pts_nil) (fun _ _ _ _ _ => (pe_callB cr_lenS (by rfl) T.len (by decide +kernel) (pa_cons (pe_ix ix_list (pv 0) (pv 7) (fun _ _ => rfl)) pa_nil)))) pa_nil)))
    (pss_cons (ps_set (i := 8) S.nd rfl (by first | exact Or.inl rfl | exact Or.inr rfl) (pe_callB (cr_sum (by rfl)) (by rfl) T.sum (by decide +kernel) (pa_cons (pe_lc (own := [("place", 7)]) (g := (gName 7)) (tt := tYes) (by rfl) S.nd (pi_list (pv 5)) (blkOk_by (N := N_holes_of) (sc := defScope s_holes_of) (by decide +kernel))  (fun _ _ _ _ _ => (pg_name (i := 7) S.nd rfl (by first | exact Or.inl rfl | exact Or.inr rfl))) (fun _ _ _ _ _ => pts_nil) (fun _ _ _ _ _ => (pe_ix ix_list (pv 2) (pv 7) (fun _ _ => rfl)))) pa_nil)))
    (pss_cons (ps_if (pt_cmpR op_eq (pv 6) pe_int (nomark _)) (pss_one (ps_set (i := 8) S.nd rfl (by first | exact Or.inl rfl | exact Or.inr rfl) pe_int)) pss_nil)
    (pss_one (ps_expr (pe_bm PySem.F.plainAttrs_list PySem.F.slot_list_append PySem.F.type_list_append mt_append (pv 4) (pa_cons (pe_op op_divI (pe_op op_subI (pe_op op_addI (pe_op op_subI pe_int (pe_callB cr_lenS (by rfl) T.len (by decide +kernel) (pa_cons (pv 5) pa_nil))) (pe_op op_divI (pv 6) pe_int)) (pv 8)) pe_int) pa_nil))))))))
    (pss_one (ps_ret (pv 4))))))))
abbrev s_tree_from : Stmt := topS 15
theorem sc_tree_from : FnScope N_tree_from ps_tree_from (defScope s_tree_from) := ⟨rfl, rfl, rfl, by decide +kernel, rfl, by decide +kernel, by decide +kernel⟩
theorem b_tree_from {f : Addr} {fd : FuncData} (F : Fun K "tree_from" "tree_from" s_tree_from f fd) : Binds K fd ps_tree_from [] := F.binds fun _ _ _ _ _ _ us hl => match us, hl with | [_, _], _ => rfl
theorem d_tree_from (T : Bl mg) {sp_mate_of : Sp} {sp_seats_of : Sp} (c_mate_of : Callee P w K mg base "mate_of" 1 ps_mate_of sp_mate_of) (c_seats_of : Callee P w K mg base "seats_of" 2 ps_seats_of sp_seats_of) : Der P w K mg base 2 N_tree_from "tree_from" s_tree_from (t_tree_from K sp_mate_of sp_seats_of) := by
  intro f cdv A outer s H E hr
  have S := sc_tree_from
  exact (pss_cons (ps_set (i := 2) S.nd rfl (by first | exact Or.inl rfl | exact Or.inr rfl) (pe_callC c_seats_of hr (by decide) (by rfl) (pa_cons (pv 0) pa_nil)))
    (pss_cons (ps_set (i := 3) S.nd rfl (by first | exact Or.inl rfl | exact Or.inr rfl) (pe_disp (pps_cons (pv 1) (pe_un un_negI pe_int) pps_nil) (by rfl) (by rfl) (fun z => by cases z) (by decide)))
    (pss_cons (ps_set (i := 4) S.nd rfl (by first | exact Or.inl rfl | exact Or.inr rfl) (pe_lst (pa_cons (pv 1) pa_nil)))
    (pss_cons (ps_set (i := 5) S.nd rfl (by first | exact Or.inl rfl | exact Or.inr rfl) pe_int)
    (pss_cons (ps_while PassesOwn.never (pt_cmpR op_ltI (pv 5) (pe_callB cr_lenS (by rfl) T.len (by decide +kernel) (pa_cons (pv 4) pa_nil)) (nomark _)) (pss_cons (ps_for PassesOwn.never (by rfl) (pi_list (pe_ix ix_list (pv 0) (pe_ix ix_list (pv 4) (pv 5) (fun _ _ => rfl)) (fun _ _ => rfl))) (pg_name (i := 6) S.nd rfl (by first | exact Or.inl rfl | exact Or.inr rfl)) (pss_cons (ps_set (i := 7) S.nd rfl (by first | exact Or.inl rfl | exact Or.inr rfl) (pe_ix ix_list (pv 2) (pe_callC c_mate_of hr (by decide) (by rfl) (pa_cons (pv 6) pa_nil)) (fun _ _ => rfl)))
    (pss_one (ps_if (pt_cmp (pc_dnotin (hu_of hr) (pv 7) (pv 3))) (pss_cons (ps_dput (hu_of hr) (pv 3) (pv 7) (pe_callC c_mate_of hr (by decide) (by rfl) (pa_cons (pv 6) pa_nil)) rfl)
    (pss_one (ps_expr (pe_bm PySem.F.plainAttrs_list PySem.F.slot_list_append PySem.F.type_list_append mt_append (pv 4) (pa_cons (pv 7) pa_nil))))) pss_nil))))
    (pss_one (ps_aug (i := 5) S.nd rfl (by first | exact Or.inl rfl | exact Or.inr rfl) pe_int ip_add))))
    (pss_one (ps_ret (pv 3))))))))
abbrev s_way_up : Stmt := topS 16
theorem sc_way_up : FnScope N_way_up ps_way_up (defScope s_way_up) := ⟨rfl, rfl, rfl, by decide +kernel, rfl, by decide +kernel, by decide +kernel⟩
theorem b_way_up {f : Addr} {fd : FuncData} (F : Fun K "way_up" "way_up" s_way_up f fd) : Binds K fd ps_way_up [] := F.binds fun _ _ _ _ _ _ us hl => match us, hl with | [_, _, _], _ => rfl
theorem d_way_up (T : Bl mg) {sp_mate_of : Sp} (c_mate_of : Callee P w K mg base "mate_of" 1 ps_mate_of sp_mate_of) : Der P w K mg base 1 N_way_up "way_up" s_way_up (t_way_up K sp_mate_of) := by
  intro f cdv A outer s H E hr
  have S := sc_way_up
  exact (pss_cons (ps_set (i := 3) S.nd rfl (by first | exact Or.inl rfl | exact Or.inr rfl) (pe_lst pa_nil))
    (pss_cons (ps_while PassesOwn.never (pt_cmpR op_geI (pe_dget (hu_of hr) (pv 1) (pv 2) (fun _ _ => rfl)) pe_int (nomark _)) (pss_cons (ps_expr (pe_bm PySem.F.plainAttrs_list PySem.F.slot_list_append PySem.F.type_list_append mt_append (pv 3) (pa_cons (pe_dget (hu_of hr) (pv 1) (pv 2) (fun _ _ => rfl)) pa_nil)))
    (pss_one (ps_set (i := 2) S.nd rfl (by first | exact Or.inl rfl | exact Or.inr rfl) (pe_ix ix_list (pv 0) (pe_callC c_mate_of hr (by decide) (by rfl) (pa_cons (pe_dget (hu_of hr) (pv 1) (pv 2) (fun _ _ => rfl)) pa_nil)) (fun _ _ => rfl))))))
    (pss_one (ps_ret (pv 3)))))
abbrev s_turned_about : Stmt := topS 17
theorem sc_turned_about : FnScope N_turned_about ps_turned_about (defScope s_turned_about) := ⟨rfl, rfl, rfl, by decide +kernel, rfl, by decide +kernel, by decide +kernel⟩
theorem b_turned_about {f : Addr} {fd : FuncData} (F : Fun K "turned_about" "turned_about" s_turned_about f fd) : Binds K fd ps_turned_about [] := F.binds fun _ _ _ _ _ _ us hl => match us, hl with | [_], _ => rfl
theorem d_turned_about (T : Bl mg) {sp_mate_of : Sp} (c_mate_of : Callee P w K mg base "mate_of" 1 ps_mate_of sp_mate_of) : Der P w K mg base 1 N_turned_about "turned_about" s_turned_about (t_turned_about K sp_mate_of) := by
  intro f cdv A outer s H E hr
  have S := sc_turned_about
  exact (pss_one (ps_ret (pe_lc (own := [("end", 1)]) (g := (gName 1)) (tt := tYes) (by rfl) S.nd (pi_reversed (by rfl) T.reversed (pa_cons (pv 0) pa_nil)) (blkOk_by (N := N_turned_about) (sc := defScope s_turned_about) (by decide +kernel))  (fun _ _ _ _ _ => (pg_name (i := 1) S.nd rfl (by first | exact Or.inl rfl | exact Or.inr rfl))) (fun _ _ _ _ _ => pts_nil) (fun _ _ _ _ _ => (pe_callC c_mate_of hr (by decide) (by rfl) (pa_cons (pv 1) pa_nil))))))
abbrev s_round_along : Stmt := topS 18
theorem sc_round_along : FnScope N_round_along ps_round_along (defScope s_round_along) := ⟨rfl, rfl, rfl, by decide +kernel, rfl, by decide +kernel, by decide +kernel⟩
theorem b_round_along {f : Addr} {fd : FuncData} (F : Fun K "round_along" "round_along" s_round_along f fd) : Binds K fd ps_round_along [] := F.binds fun _ _ _ _ _ _ us hl => match us, hl with | [_, _, _], _ => rfl
theorem d_round_along (T : Bl mg) {sp_turned_about : Sp} {sp_way_up : Sp} {sp_mate_of : Sp} (c_turned_about : Callee P w K mg base "turned_about" 2 ps_turned_about sp_turned_about) (c_way_up : Callee P w K mg base "way_up" 2 ps_way_up sp_way_up) (c_mate_of : Callee P w K mg base "mate_of" 1 ps_mate_of sp_mate_of) : Der P w K mg base 2 N_round_along "round_along" s_round_along (t_round_along K sp_turned_about sp_way_up sp_mate_of) := by
  intro f cdv A outer s H E hr
  have S := sc_round_along
  exact (pss_cons (ps_set (i := 3) S.nd rfl (by first | exact Or.inl rfl | exact Or.inr rfl) (pe_callC c_way_up hr (by decide) (by rfl) (pa_cons (pv 0) (pa_cons (pv 1) (pa_cons (pe_ix ix_list (pv 0) (pe_callC c_mate_of hr (by decide) (by rfl) (pa_cons (pv 2) pa_nil)) (fun _ _ => rfl)) pa_nil)))))
    (pss_cons (ps_set (i := 4) S.nd rfl (by first | exact Or.inl rfl | exact Or.inr rfl) (pe_callC c_way_up hr (by decide) (by rfl) (pa_cons (pv 0) (pa_cons (pv 1) (pa_cons (pe_ix ix_list (pv 0) (pv 2) (fun _ _ => rfl)) pa_nil)))))
    (pss_cons (ps_while PassesOwn.never (PW.pt (pw_and (pt_cmpR op_gtI (pe_callB cr_lenS (by rfl) T.len (by decide +kernel) (pa_cons (pv 3) pa_nil)) pe_int (nomark _)) (pw_and (pt_cmpR op_gtI (pe_callB cr_lenS (by rfl) T.len (by decide +kernel) (pa_cons (pv 4) pa_nil)) pe_int (nomark _)) (pw_and1 (pt_cmpR op_eq (pe_ix ix_list (pv 3) (pe_un un_negI pe_int) (fun _ _ => rfl)) (pe_ix ix_list (pv 4) (pe_un un_negI pe_int) (fun _ _ => rfl)) (nomark _)))))) (pss_cons (ps_expr (pe_bm0 PySem.F.plainAttrs_list PySem.F.slot_list_pop PySem.F.type_list_pop mt_pop (pv 3)))
    (pss_one (ps_expr (pe_bm0 PySem.F.plainAttrs_list PySem.F.slot_list_pop PySem.F.type_list_pop mt_pop (pv 4))))))
    (pss_one (ps_ret (pe_op op_cat (pe_op op_cat (pe_lst (pa_cons (pv 2) pa_nil)) (pv 3)) (pe_callC c_turned_about hr (by decide) (by rfl) (pa_cons (pv 4) pa_nil))))))))
abbrev s_land_numbers : Stmt := topS 19
theorem sc_land_numbers : FnScope N_land_numbers ps_land_numbers (defScope s_land_numbers) := ⟨rfl, rfl, rfl, by decide +kernel, rfl, by decide +kernel, by decide +kernel⟩
theorem b_land_numbers {f : Addr} {fd : FuncData} (F : Fun K "land_numbers" "land_numbers" s_land_numbers f fd) : Binds K fd ps_land_numbers [] := F.binds fun _ _ _ _ _ _ us hl => match us, hl with | [_], _ => rfl
theorem d_land_numbers (T : Bl mg) : Der P w K mg base 0 N_land_numbers "land_numbers" s_land_numbers (t_land_numbers K) := by
  intro f cdv A outer s H E hr
  have S := sc_land_numbers
  exact (pss_cons (ps_set (i := 1) S.nd rfl (by first | exact Or.inl rfl | exact Or.inr rfl) pe_dnewK)
    (pss_cons (ps_for PassesOwn.never (by rfl) (pi_enum (by rfl) T.enumerate (pa_cons (pv 0) pa_nil)) (pg_tup (by rfl) (pgs_cons (pg_name (i := 2) S.nd rfl (by first | exact Or.inl rfl | exact Or.inr rfl)) (pgs_cons (pg_name (i := 3) S.nd rfl (by first | exact Or.inl rfl | exact Or.inr rfl)) pgs_nil))) (pss_one (ps_for PassesOwn.never (by rfl) (pi_list (pv 3)) (pg_name (i := 4) S.nd rfl (by first | exact Or.inl rfl | exact Or.inr rfl)) (pss_one (ps_dput (hu_of hr) (pv 1) (pv 4) (pv 2) rfl)))))
    (pss_one (ps_ret (pv 1)))))
abbrev s_land_tree : Stmt := topS 20
theorem sc_land_tree : FnScope N_land_tree ps_land_tree (defScope s_land_tree) := ⟨rfl, rfl, rfl, by decide +kernel, rfl, by decide +kernel, by decide +kernel⟩
theorem b_land_tree {f : Addr} {fd : FuncData} (F : Fun K "land_tree" "land_tree" s_land_tree f fd) : Binds K fd ps_land_tree [] := F.binds fun _ _ _ _ _ _ us hl => match us, hl with | [_, _, _], _ => rfl
theorem d_land_tree (T : Bl mg) {sp_mate_of : Sp} {sp_land_numbers : Sp} (c_mate_of : Callee P w K mg base "mate_of" 1 ps_mate_of sp_mate_of) (c_land_numbers : Callee P w K mg base "land_numbers" 1 ps_land_numbers sp_land_numbers) : Der P w K mg base 1 N_land_tree "land_tree" s_land_tree (t_land_tree K sp_mate_of sp_land_numbers) := by
  intro f cdv A outer s H E hr
  have S := sc_land_tree
  exact (pss_cons (ps_set (i := 3) S.nd rfl (by first | exact Or.inl rfl | exact Or.inr rfl) pe_dnewK)
    (pss_cons (ps_lock (ps_for PassesOwn.never (by rfl) (pi_values (pv 1)) (pg_name (i := 4) S.nd rfl (by first | exact Or.inl rfl | exact Or.inr rfl)) (pss_one (ps_dput (hu_of hr) (pv 3) (pe_op op_divI (pv 4) pe_int) pe_bl rfl))))
    (pss_cons (ps_set (i := 5) S.nd rfl (by first | exact Or.inl rfl | exact Or.inr rfl) (pe_callC c_land_numbers hr (by decide) (by rfl) (pa_cons (pv 0) pa_nil)))
    (pss_cons (ps_set (i := 6) S.nd rfl (by first | exact Or.inl rfl | exact Or.inr rfl) (pe_disp (pps_cons (pv 2) (pe_un un_negI pe_int) pps_nil) (by rfl) (by rfl) (fun z => by cases z) (by decide)))
    (pss_cons (ps_set (i := 7) S.nd rfl (by first | exact Or.inl rfl | exact Or.inr rfl) (pe_lst (pa_cons (pv 2) pa_nil)))
    (pss_cons (ps_set (i := 8) S.nd rfl (by first | exact Or.inl rfl | exact Or.inr rfl) pe_int)
    (pss_cons (ps_while PassesOwn.never (pt_cmpR op_ltI (pv 8) (pe_callB cr_lenS (by rfl) T.len (by decide +kernel) (pa_cons (pv 7) pa_nil)) (nomark _)) (pss_cons (ps_for PassesOwn.never (by rfl) (pi_list (pe_ix ix_list (pv 0) (pe_ix ix_list (pv 7) (pv 8) (fun _ _ => rfl)) (fun _ _ => rfl))) (pg_name (i := 4) S.nd rfl (by first | exact Or.inl rfl | exact Or.inr rfl)) (pss_cons (ps_set (i := 9) S.nd rfl (by first | exact Or.inl rfl | exact Or.inr rfl) (pe_dget (hu_of hr) (pv 5) (pe_callC c_mate_of hr (by decide) (by rfl) (pa_cons (pv 4) pa_nil)) (fun _ _ => rfl)))
    (pss_one (ps_if (PW.pt (pw_and (pt_cmp (pc_dnotin (hu_of hr) (pe_op op_divI (pv 4) pe_int) (pv 3))) (pw_and1 (pt_cmp (pc_dnotin (hu_of hr) (pv 9) (pv 6)))))) (pss_cons (ps_dput (hu_of hr) (pv 6) (pv 9) (pe_callC c_mate_of hr (by decide) (by rfl) (pa_cons (pv 4) pa_nil)) rfl)
    (pss_one (ps_expr (pe_bm PySem.F.plainAttrs_list PySem.F.slot_list_append PySem.F.type_list_append mt_append (pv 7) (pa_cons (pv 9) pa_nil))))) pss_nil))))
    (pss_one (ps_aug (i := 8) S.nd rfl (by first | exact Or.inl rfl | exact Or.inr rfl) pe_int ip_add))))
    (pss_one (ps_ret (pv 6))))))))))
abbrev s_left_ties : Stmt := topS 21
theorem sc_left_ties : FnScope N_left_ties ps_left_ties (defScope s_left_ties) := ⟨rfl, rfl, rfl, by decide +kernel, rfl, by decide +kernel, by decide +kernel⟩
theorem b_left_ties {f : Addr} {fd : FuncData} (F : Fun K "left_ties" "left_ties" s_left_ties f fd) : Binds K fd ps_left_ties [] := F.binds fun _ _ _ _ _ _ us hl => match us, hl with | [_, _, _], _ => rfl
theorem d_left_ties (T : Bl mg) : Der P w K mg base 0 N_left_ties "left_ties" s_left_ties (t_left_ties K) := by
  intro f cdv A outer s H E hr
  have S := sc_left_ties
  exact (pss_cons (ps_set (i := 3) S.nd rfl (by first | exact Or.inl rfl | exact Or.inr rfl) pe_dnewK)
    (pss_cons (ps_lock (ps_for PassesOwn.never (by rfl) (pi_values (pv 1)) (pg_name (i := 4) S.nd rfl (by first | exact Or.inl rfl | exact Or.inr rfl)) (pss_one (ps_dput (hu_of hr) (pv 3) (pe_op op_divI (pv 4) pe_int) pe_bl rfl))))
    (pss_cons (ps_lock (ps_for PassesOwn.never (by rfl) (pi_values (pv 2)) (pg_name (i := 4) S.nd rfl (by first | exact Or.inl rfl | exact Or.inr rfl)) (pss_one (ps_dput (hu_of hr) (pv 3) (pe_op op_divI (pv 4) pe_int) pe_bl rfl))))
    (pss_cons (ps_set (i := 5) S.nd rfl (by first | exact Or.inl rfl | exact Or.inr rfl) pe_dnewK)
    (pss_cons (ps_lock (ps_for PassesOwn.never (by rfl) (pi_keys (pv 1)) (pg_name (i := 6) S.nd rfl (by first | exact Or.inl rfl | exact Or.inr rfl)) (pss_one (ps_for PassesOwn.never (by rfl) (pi_list (pe_ix ix_list (pv 0) (pv 6) (fun _ _ => rfl))) (pg_name (i := 4) S.nd rfl (by first | exact Or.inl rfl | exact Or.inr rfl)) (pss_one (ps_if (pt_cmp (pc_dnotin (hu_of hr) (pe_op op_divI (pv 4) pe_int) (pv 3))) (pss_one (ps_dput (hu_of hr) (pv 5) (pe_op op_divI (pv 4) pe_int) pe_bl rfl)) pss_nil))))))
    (pss_one (ps_ret (pe_callB (cr_sortD (by rfl)) (by rfl) T.sorted (by decide +kernel) (pa_cons (pv 5) pa_nil)))))))))
abbrev s_both_trees : Stmt := topS 22
theorem sc_both_trees : FnScope N_both_trees ps_both_trees (defScope s_both_trees) := ⟨rfl, rfl, rfl, by decide +kernel, rfl, by decide +kernel, by decide +kernel⟩
theorem b_both_trees {f : Addr} {fd : FuncData} (F : Fun K "both_trees" "both_trees" s_both_trees f fd) : Binds K fd ps_both_trees [] := F.binds fun _ _ _ _ _ _ us hl => match us, hl with | [_, _], _ => rfl
theorem d_both_trees (T : Bl mg) {sp_left_ties : Sp} {sp_land_tree : Sp} {sp_land_numbers : Sp} {sp_tree_from : Sp} {sp_lands_of : Sp} (c_left_ties : Callee P w K mg base "left_ties" 1 ps_left_ties sp_left_ties) (c_land_tree : Callee P w K mg base "land_tree" 2 ps_land_tree sp_land_tree) (c_land_numbers : Callee P w K mg base "land_numbers" 1 ps_land_numbers sp_land_numbers) (c_tree_from : Callee P w K mg base "tree_from" 3 ps_tree_from sp_tree_from) (c_lands_of : Callee P w K mg base "lands_of" 3 ps_lands_of sp_lands_of) : Der P w K mg base 3 N_both_trees "both_trees" s_both_trees (t_both_trees K sp_left_ties sp_land_tree sp_land_numbers sp_tree_from sp_lands_of) := by
  intro f cdv A outer s H E hr
  have S := sc_both_trees
  exact (pss_cons (ps_set (i := 2) S.nd rfl (by first | exact Or.inl rfl | exact Or.inr rfl) (pe_callC c_lands_of hr (by decide) (by rfl) (pa_cons (pv 0) pa_nil)))
    (pss_cons (ps_set (i := 3) S.nd rfl (by first | exact Or.inl rfl | exact Or.inr rfl) (pe_callC c_tree_from hr (by decide) (by rfl) (pa_cons (pv 0) (pa_cons (pv 1) pa_nil))))
    (pss_cons (ps_set (i := 4) S.nd rfl (by first | exact Or.inl rfl | exact Or.inr rfl) (pe_dget (hu_of hr) (pe_callC c_land_numbers hr (by decide) (by rfl) (pa_cons (pv 2) pa_nil)) (pe_ix ix_list (pe_ix ix_list (pv 0) (pv 1) (fun _ _ => rfl)) pe_int (fun _ _ => rfl)) (fun _ _ => rfl)))
    (pss_cons (ps_set (i := 5) S.nd rfl (by first | exact Or.inl rfl | exact Or.inr rfl) (pe_callC c_land_tree hr (by decide) (by rfl) (pa_cons (pv 2) (pa_cons (pv 3) (pa_cons (pv 4) pa_nil)))))
    (pss_one (ps_ret (pe_tup (pa_cons (pv 3) (pa_cons (pv 5) (pa_cons (pe_callC c_left_ties hr (by decide) (by rfl) (pa_cons (pv 0) (pa_cons (pv 3) (pa_cons (pv 5) pa_nil)))) pa_nil))))))))))
abbrev s_is_ring : Stmt := topS 24
theorem sc_is_ring : FnScope N_is_ring ps_is_ring (defScope s_is_ring) := ⟨rfl, rfl, rfl, by decide +kernel, rfl, by decide +kernel, by decide +kernel⟩
theorem b_is_ring {f : Addr} {fd : FuncData} (F : Fun K "is_ring" "is_ring" s_is_ring f fd) : Binds K fd ps_is_ring [] := F.binds fun _ _ _ _ _ _ us hl => match us, hl with | [_], _ => rfl
theorem d_is_ring (T : Bl mg) {sp_holes_of : Sp} (c_holes_of : Callee P w K mg base "holes_of" 4 ps_holes_of sp_holes_of) : Der P w K mg base 4 N_is_ring "is_ring" s_is_ring (t_is_ring K sp_holes_of) := by
  intro f cdv A outer s H E hr
  have S := sc_is_ring
  exact (pss_one (ps_ret (pe_cmpR (op_eqD hr.units) (pe_callC c_holes_of hr (by decide) (by rfl) (pa_cons (pv 0) pa_nil)) (pe_lst (pa_cons pe_int pa_nil)) (nomark _))))
abbrev s_ask_ring : Stmt := topS 25
theorem sc_ask_ring : FnScope N_ask_ring ps_ask_ring (defScope s_ask_ring) := ⟨rfl, rfl, rfl, by decide +kernel, rfl, by decide +kernel, by decide +kernel⟩
theorem b_ask_ring {f : Addr} {fd : FuncData} (F : Fun K "ask_ring" "ask_ring" s_ask_ring f fd) : Binds K fd ps_ask_ring [] := F.binds fun _ _ _ _ _ _ us hl => match us, hl with | [_], _ => rfl
theorem d_ask_ring (T : Bl mg) {sp_is_ring : Sp} (c_is_ring : Callee P w K mg base "is_ring" 5 ps_is_ring sp_is_ring) : Der P w K mg base 5 N_ask_ring "ask_ring" s_ask_ring (t_ask_ring K sp_is_ring) := by
  intro f cdv A outer s H E hr
  have S := sc_ask_ring
  exact (pss_one (ps_if (pt_not (pt_val (pe_callC c_is_ring hr (by decide) (by rfl) (pa_cons (pv 0) pa_nil)))) (pss_one ps_never) pss_nil))
abbrev s_mark_of : Stmt := topS 26
theorem sc_mark_of : FnScope N_mark_of ps_mark_of (defScope s_mark_of) := ⟨rfl, rfl, rfl, by decide +kernel, rfl, by decide +kernel, by decide +kernel⟩
theorem b_mark_of {f : Addr} {fd : FuncData} (F : Fun K "mark_of" "mark_of" s_mark_of f fd) : Binds K fd ps_mark_of [] := F.binds fun _ _ _ _ _ _ us hl => match us, hl with | [_, _], _ => rfl
theorem d_mark_of (T : Bl mg) : Der P w K mg base 0 N_mark_of "mark_of" s_mark_of (t_mark_of K) := by
  intro f cdv A outer s H E hr
  have S := sc_mark_of
  exact (pss_cons (ps_asg (pe_ix ix_list (pv 0) (pe_op op_divI (pv 1) pe_int) (fun _ _ => rfl)) (pg_tup (by rfl) (pgs_cons (pg_name (i := 2) S.nd rfl (by first | exact Or.inl rfl | exact Or.inr rfl)) (pgs_cons (pg_name (i := 3) S.nd rfl (by first | exact Or.inl rfl | exact Or.inr rfl)) pgs_nil))))
    (pss_cons (ps_if (pt_cmpR op_eq (pe_op op_modI (pv 1) pe_int) pe_int (nomark _)) (pss_one (ps_ret (pe_tup (pa_cons (pe_un un_negI (pv 2)) (pa_cons (pe_un un_negI (pv 3)) pa_nil))))) pss_nil)
    (pss_one (ps_ret (pe_tup (pa_cons (pv 2) (pa_cons (pv 3) pa_nil)))))))
abbrev s_added : Stmt := topS 27
theorem sc_added : FnScope N_added ps_added (defScope s_added) := ⟨rfl, rfl, rfl, by decide +kernel, rfl, by decide +kernel, by decide +kernel⟩
theorem b_added {f : Addr} {fd : FuncData} (F : Fun K "added" "added" s_added f fd) : Binds K fd ps_added [] := F.binds fun _ _ _ _ _ _ us hl => match us, hl with | [_, _], _ => rfl
theorem d_added (T : Bl mg) {sp_mark_of : Sp} (c_mark_of : Callee P w K mg base "mark_of" 1 ps_mark_of sp_mark_of) : Der P w K mg base 1 N_added "added" s_added (t_added K sp_mark_of) := by
  intro f cdv A outer s H E hr
  have S := sc_added
  exact (pss_cons (ps_set (i := 2) S.nd rfl (by first | exact Or.inl rfl | exact Or.inr rfl) pe_int)
    (pss_cons (ps_set (i := 3) S.nd rfl (by first | exact Or.inl rfl | exact Or.inr rfl) pe_int)
    (pss_cons (ps_for PassesOwn.never (by rfl) (pi_list (pv 1)) (pg_name (i := 4) S.nd rfl (by first | exact Or.inl rfl | exact Or.inr rfl)) (pss_cons (ps_set (i := 5) S.nd rfl (by first | exact Or.inl rfl | exact Or.inr rfl) (pe_callC c_mark_of hr (by decide) (by rfl) (pa_cons (pv 0) (pa_cons (pv 4) pa_nil))))
    (pss_cons (ps_aug (i := 2) S.nd rfl (by first | exact Or.inl rfl | exact Or.inr rfl) (pe_ix ix_tup (pv 5) pe_int (fun _ _ => rfl)) ip_add)
    (pss_one (ps_aug (i := 3) S.nd rfl (by first | exact Or.inl rfl | exact Or.inr rfl) (pe_ix ix_tup (pv 5) pe_int (fun _ _ => rfl)) ip_add)))))
    (pss_one (ps_ret (pe_tup (pa_cons (pv 2) (pa_cons (pv 3) pa_nil))))))))
abbrev s_area_of : Stmt := topS 28
theorem sc_area_of : FnScope N_area_of ps_area_of (defScope s_area_of) := ⟨rfl, rfl, rfl, by decide +kernel, rfl, by decide +kernel, by decide +kernel⟩
theorem b_area_of {f : Addr} {fd : FuncData} (F : Fun K "area_of" "area_of" s_area_of f fd) : Binds K fd ps_area_of [] := F.binds fun _ _ _ _ _ _ us hl => match us, hl with | [_, _], _ => rfl
theorem d_area_of (T : Bl mg) {sp_mark_of : Sp} (c_mark_of : Callee P w K mg base "mark_of" 1 ps_mark_of sp_mark_of) : Der P w K mg base 1 N_area_of "area_of" s_area_of (t_area_of K sp_mark_of) := by
  intro f cdv A outer s H E hr
  have S := sc_area_of
  exact (pss_cons (ps_set (i := 2) S.nd rfl (by first | exact Or.inl rfl | exact Or.inr rfl) pe_int)
    (pss_cons (ps_set (i := 3) S.nd rfl (by first | exact Or.inl rfl | exact Or.inr rfl) pe_int)
    (pss_cons (ps_set (i := 4) S.nd rfl (by first | exact Or.inl rfl | exact Or.inr rfl) pe_int)
    (pss_cons (ps_for PassesOwn.never (by rfl) (pi_list (pv 1)) (pg_name (i := 5) S.nd rfl (by first | exact Or.inl rfl | exact Or.inr rfl)) (pss_cons (ps_set (i := 6) S.nd rfl (by first | exact Or.inl rfl | exact Or.inr rfl) (pe_callC c_mark_of hr (by decide) (by rfl) (pa_cons (pv 0) (pa_cons (pv 5) pa_nil))))
    (pss_cons (ps_aug (i := 2) S.nd rfl (by first | exact Or.inl rfl | exact Or.inr rfl) (pe_op op_subI (pe_op op_mulWI (pv 3) (pe_op op_addI (pv 4) (pe_ix ix_tup (pv 6) pe_int (fun _ _ => rfl)))) (pe_op op_mulWI (pe_op op_addI (pv 3) (pe_ix ix_tup (pv 6) pe_int (fun _ _ => rfl))) (pv 4))) ip_add)
    (pss_cons (ps_aug (i := 3) S.nd rfl (by first | exact Or.inl rfl | exact Or.inr rfl) (pe_ix ix_tup (pv 6) pe_int (fun _ _ => rfl)) ip_add)
    (pss_one (ps_aug (i := 4) S.nd rfl (by first | exact Or.inl rfl | exact Or.inr rfl) (pe_ix ix_tup (pv 6) pe_int (fun _ _ => rfl)) ip_add))))))
    (pss_one (ps_ret (pv 2)))))))
abbrev s_areas_added : Stmt := topS 29
theorem sc_areas_added : FnScope N_areas_added ps_areas_added (defScope s_areas_added) := ⟨rfl, rfl, rfl, by decide +kernel, rfl, by decide +kernel, by decide +kernel⟩
theorem b_areas_added {f : Addr} {fd : FuncData} (F : Fun K "areas_added" "areas_added" s_areas_added f fd) : Binds K fd ps_areas_added [] := F.binds fun _ _ _ _ _ _ us hl => match us, hl with | [_, _], _ => rfl
theorem d_areas_added (T : Bl mg) {sp_area_of : Sp} (c_area_of : Callee P w K mg base "area_of" 2 ps_area_of sp_area_of) : Der P w K mg base 2 N_areas_added "areas_added" s_areas_added (t_areas_added K sp_area_of) := by
  intro f cdv A outer s H E hr
  have S := sc_areas_added
  exact (pss_one (ps_ret (pe_callB (cr_sum (by rfl)) (by rfl) T.sum (by decide +kernel) (pa_cons (pe_lc (own := [("land", 2)]) (g := (gName 2)) (tt := tYes) (by rfl) S.nd (pi_list (pv 1)) (blkOk_by (N := N_areas_added) (sc := defScope s_areas_added) (by decide +kernel))  (fun _ _ _ _ _ => (pg_name (i := 2) S.nd rfl (by first | exact Or.inl rfl | exact Or.inr rfl))) (fun _ _ _ _ _ => pts_nil) (fun _ _ _ _ _ => (pe_callC c_area_of hr (by decide) (by rfl) (pa_cons (pv 0) (pa_cons (pv 2) pa_nil))))) pa_nil))))
abbrev s_marks_of : Stmt := topS 30
theorem sc_marks_of : FnScope N_marks_of ps_marks_of (defScope s_marks_of) := ⟨rfl, rfl, rfl, by decide +kernel, rfl, by decide +kernel, by decide +kernel⟩
theorem b_marks_of {f : Addr} {fd : FuncData} (F : Fun K "marks_of" "marks_of" s_marks_of f fd) : Binds K fd ps_marks_of [] := F.binds fun _ _ _ _ _ _ us hl => match us, hl with | [_], _ => rfl
theorem d_marks_of (T : Bl mg) {sp_areas_added : Sp} {sp_added : Sp} {sp_lands_of : Sp} {sp_both_trees : Sp} {sp_ask_ring : Sp} (c_areas_added : Callee P w K mg base "areas_added" 3 ps_areas_added sp_areas_added) (c_added : Callee P w K mg base "added" 2 ps_added sp_added) (c_lands_of : Callee P w K mg base "lands_of" 3 ps_lands_of sp_lands_of) (c_both_trees : Callee P w K mg base "both_trees" 4 ps_both_trees sp_both_trees) (c_ask_ring : Callee P w K mg base "ask_ring" 6 ps_ask_ring sp_ask_ring) : Der P w K mg base 6 N_marks_of "marks_of" s_marks_of (t_marks_of K sp_areas_added sp_added sp_lands_of sp_both_trees sp_ask_ring) := by
  intro f cdv A outer s H E hr
  have S := sc_marks_of
  exact (pss_cons (ps_expr (pe_callC c_ask_ring hr (by decide) (by rfl) (pa_cons (pv 0) pa_nil)))
    (pss_cons (ps_asg (pe_callC c_both_trees hr (by decide) (by rfl) (pa_cons (pv 0) (pa_cons pe_int pa_nil))) (pg_tup (by rfl) (pgs_cons (pg_name (i := 1) S.nd rfl (by first | exact Or.inl rfl | exact Or.inr rfl)) (pgs_cons (pg_name (i := 2) S.nd rfl (by first | exact Or.inl rfl | exact Or.inr rfl)) (pgs_cons (pg_name (i := 3) S.nd rfl (by first | exact Or.inl rfl | exact Or.inr rfl)) pgs_nil)))))
    (pss_cons (ps_set (i := 4) S.nd rfl (by first | exact Or.inl rfl | exact Or.inr rfl) (pe_callC c_lands_of hr (by decide) (by rfl) (pa_cons (pv 0) pa_nil)))
    (pss_cons (ps_set (i := 5) S.nd rfl (by first | exact Or.inl rfl | exact Or.inr rfl) (pe_op op_rep (pe_lst (pa_cons (pe_tup (pa_cons pe_int (pa_cons pe_int pa_nil))) pa_nil)) (pe_op op_divI (pe_callB (cr_sum (by rfl)) (by rfl) T.sum (by decide +kernel) (pa_cons (pe_lc (own := [("land", 6)]) (g := (gName 6)) (tt := tYes) (by rfl) S.nd (pi_list (pv 4)) (blkOk_by (N := N_marks_of) (sc := defScope s_marks_of) (by decide +kernel))  (fun _ _ _ _ _ => (pg_name (i := 6) S.nd rfl (by first | exact Or.inl rfl | exact Or.inr rfl))) (fun _ _ _ _ _ => pts_nil) (fun _ _ _ _ _ => (pe_callB cr_lenS (by rfl) T.len (by decide +kernel) (pa_cons (pv 6) pa_nil)))) pa_nil)) pe_int)))
    (pss_cons (ps_asg (pe_tup (pa_cons pe_int (pa_cons pe_int pa_nil))) (pg_sub (pv 5) (pe_ix ix_list (pv 3) pe_int (fun _ _ => rfl)) set_list))
    (pss_cons (ps_asg (pe_tup (pa_cons pe_int (pa_cons pe_int pa_nil))) (pg_sub (pv 5) (pe_ix ix_list (pv 3) pe_int (fun _ _ => rfl)) set_list))
    (pss_cons (ps_for PassesOwn.never (by rfl) (pi_reversed (by rfl) T.reversed (pa_cons (pe_callTy (cr_lstD (by rfl)) (by rfl) T.list (by decide +kernel) (pa_cons (pv 2) pa_nil)) pa_nil)) (pg_name (i := 6) S.nd rfl (by first | exact Or.inl rfl | exact Or.inr rfl)) (pss_cons (ps_set (i := 7) S.nd rfl (by first | exact Or.inl rfl | exact Or.inr rfl) (pe_dget (hu_of hr) (pv 2) (pv 6) (fun _ _ => rfl)))
    (pss_one (ps_if (pt_cmpR op_geI (pv 7) pe_int (nomark _)) (pss_cons (ps_asg (pe_callC c_added hr (by decide) (by rfl) (pa_cons (pv 5) (pa_cons (pe_ix ix_list (pv 4) (pv 6) (fun _ _ => rfl)) pa_nil))) (pg_tup (by rfl) (pgs_cons (pg_name (i := 8) S.nd rfl (by first | exact Or.inl rfl | exact Or.inr rfl)) (pgs_cons (pg_name (i := 9) S.nd rfl (by first | exact Or.inl rfl | exact Or.inr rfl)) pgs_nil))))
    (pss_one (ps_if (pt_cmpR op_eq (pe_op op_modI (pv 7) pe_int) pe_int (nomark _)) (pss_one (ps_asg (pe_tup (pa_cons (pe_un un_negI (pv 8)) (pa_cons (pe_un un_negI (pv 9)) pa_nil))) (pg_sub (pv 5) (pe_op op_divI (pv 7) pe_int) set_list))) (pss_one (ps_asg (pe_tup (pa_cons (pv 8) (pa_cons (pv 9) pa_nil))) (pg_sub (pv 5) (pe_op op_divI (pv 7) pe_int) set_list)))))) pss_nil))))
    (pss_cons (ps_if (pt_cmpR op_ltI (pe_callC c_areas_added hr (by decide) (by rfl) (pa_cons (pv 5) (pa_cons (pv 4) pa_nil))) pe_int (nomark _)) (pss_one (ps_ret (pe_lc (own := [("one", 8), ("two", 9)]) (g := (gTup K 2 (gCons (gName 8) (gCons (gName 9) gNil)))) (tt := tYes) (by rfl) S.nd (pi_list (pv 5)) (blkOk_by (N := N_marks_of) (sc := defScope s_marks_of) (by decide +kernel))  (fun _ _ _ _ _ => (pg_tup (by rfl) (pgs_cons (pg_name (i := 8) S.nd rfl (by first | exact Or.inl rfl | exact Or.inr rfl)) (pgs_cons (pg_name (i := 9) S.nd rfl (by first | exact Or.inl rfl | exact Or.inr rfl)) pgs_nil)))) (fun _ _ _ _ _ => pts_nil) (fun _ _ _ _ _ => (pe_tup (pa_cons (pv 9) (pa_cons (pv 8) pa_nil))))))) pss_nil)
    (pss_one (ps_ret (pv 5)))))))))))
abbrev s_is_walk : Stmt := topS 32
theorem sc_is_walk : FnScope N_is_walk ps_is_walk (defScope s_is_walk) := ⟨rfl, rfl, rfl, by decide +kernel, rfl, by decide +kernel, by decide +kernel⟩
theorem b_is_walk {f : Addr} {fd : FuncData} (F : Fun K "is_walk" "is_walk" s_is_walk f fd) : Binds K fd ps_is_walk [] := F.binds fun _ _ _ _ _ _ us hl => match us, hl with | [_, _], _ => rfl
theorem d_is_walk (T : Bl mg) {sp_mate_of : Sp} {sp_seats_of : Sp} (c_mate_of : Callee P w K mg base "mate_of" 1 ps_mate_of sp_mate_of) (c_seats_of : Callee P w K mg base "seats_of" 2 ps_seats_of sp_seats_of) : Der P w K mg base 2 N_is_walk "is_walk" s_is_walk (t_is_walk K sp_mate_of sp_seats_of) := by
  intro f cdv A outer s H E hr
  have S := sc_is_walk
  exact (pss_cons (ps_set (i := 2) S.nd rfl (by first | exact Or.inl rfl | exact Or.inr rfl) (pe_callC c_seats_of hr (by decide) (by rfl) (pa_cons (pv 0) pa_nil)))
    (pss_cons (ps_for PassesOwn.never (by rfl) (pi_list (pv 1)) (pg_name (i := 3) S.nd rfl (by first | exact Or.inl rfl | exact Or.inr rfl)) (pss_one (ps_if (PW.pt (pw_or (pt_cmpR op_ltI (pv 3) pe_int (nomark _)) (pw_or1 (pt_cmpR op_geI (pv 3) (pe_callB cr_lenS (by rfl) T.len (by decide +kernel) (pa_cons (pv 2) pa_nil)) (nomark _))))) (pss_one (ps_ret pe_bl)) pss_nil)))
    (pss_cons (ps_for PassesOwn.never (by rfl) (pi_enum (by rfl) T.enumerate (pa_cons (pv 1) pa_nil)) (pg_tup (by rfl) (pgs_cons (pg_name (i := 4) S.nd rfl (by first | exact Or.inl rfl | exact Or.inr rfl)) (pgs_cons (pg_name (i := 3) S.nd rfl (by first | exact Or.inl rfl | exact Or.inr rfl)) pgs_nil))) (pss_one (ps_if (pt_cmpR op_ne (pe_ix ix_list (pv 2) (pe_callC c_mate_of hr (by decide) (by rfl) (pa_cons (pe_ix ix_list (pv 1) (pe_op op_subI (pv 4) pe_int) (fun _ _ => rfl)) pa_nil)) (fun _ _ => rfl)) (pe_ix ix_list (pv 2) (pv 3) (fun _ _ => rfl)) (nomark _)) (pss_one (ps_ret pe_bl)) pss_nil)))
    (pss_one (ps_ret pe_bl)))))
abbrev s_ask_walk : Stmt := topS 33
theorem sc_ask_walk : FnScope N_ask_walk ps_ask_walk (defScope s_ask_walk) := ⟨rfl, rfl, rfl, by decide +kernel, rfl, by decide +kernel, by decide +kernel⟩
theorem b_ask_walk {f : Addr} {fd : FuncData} (F : Fun K "ask_walk" "ask_walk" s_ask_walk f fd) : Binds K fd ps_ask_walk [] := F.binds fun _ _ _ _ _ _ us hl => match us, hl with | [_, _], _ => rfl
theorem d_ask_walk (T : Bl mg) {sp_is_walk : Sp} (c_is_walk : Callee P w K mg base "is_walk" 3 ps_is_walk sp_is_walk) : Der P w K mg base 3 N_ask_walk "ask_walk" s_ask_walk (t_ask_walk K sp_is_walk) := by
  intro f cdv A outer s H E hr
  have S := sc_ask_walk
  exact (pss_one (ps_if (pt_not (pt_val (pe_callC c_is_walk hr (by decide) (by rfl) (pa_cons (pv 0) (pa_cons (pv 1) pa_nil))))) (pss_one ps_never) pss_nil))
abbrev s_left_counts : Stmt := topS 34
theorem sc_left_counts : FnScope N_left_counts ps_left_counts (defScope s_left_counts) := ⟨rfl, rfl, rfl, by decide +kernel, rfl, by decide +kernel, by decide +kernel⟩
theorem b_left_counts {f : Addr} {fd : FuncData} (F : Fun K "left_counts" "left_counts" s_left_counts f fd) : Binds K fd ps_left_counts [] := F.binds fun _ _ _ _ _ _ us hl => match us, hl with | [_, _], _ => rfl
theorem d_left_counts (T : Bl mg) {sp_mate_of : Sp} {sp_behind_of : Sp} (c_mate_of : Callee P w K mg base "mate_of" 1 ps_mate_of sp_mate_of) (c_behind_of : Callee P w K mg base "behind_of" 2 ps_behind_of sp_behind_of) : Der P w K mg base 2 N_left_counts "left_counts" s_left_counts (t_left_counts K sp_mate_of sp_behind_of) := by
  intro f cdv A outer s H E hr
  have S := sc_left_counts
  exact (pss_cons (ps_set (i := 2) S.nd rfl (by first | exact Or.inl rfl | exact Or.inr rfl) (pe_callC c_behind_of hr (by decide) (by rfl) (pa_cons (pv 0) pa_nil)))
    (pss_cons (ps_set (i := 3) S.nd rfl (by first | exact Or.inl rfl | exact Or.inr rfl) (pe_op op_rep (pe_lst (pa_cons pe_int pa_nil)) (pe_callB cr_lenS (by rfl) T.len (by decide +kernel) (pa_cons (pv 2) pa_nil))))
    (pss_cons (ps_for PassesOwn.never (by rfl) (pi_enum (by rfl) T.enumerate (pa_cons (pv 1) pa_nil)) (pg_tup (by rfl) (pgs_cons (pg_name (i := 4) S.nd rfl (by first | exact Or.inl rfl | exact Or.inr rfl)) (pgs_cons (pg_name (i := 5) S.nd rfl (by first | exact Or.inl rfl | exact Or.inr rfl)) pgs_nil))) (pss_cons (ps_set (i := 6) S.nd rfl (by first | exact Or.inl rfl | exact Or.inr rfl) (pe_callC c_mate_of hr (by decide) (by rfl) (pa_cons (pe_ix ix_list (pv 1) (pe_op op_subI (pv 4) pe_int) (fun _ _ => rfl)) pa_nil)))
    (pss_cons (ps_set (i := 7) S.nd rfl (by first | exact Or.inl rfl | exact Or.inr rfl) (pe_ix ix_list (pv 2) (pv 6) (fun _ _ => rfl)))
    (pss_one (ps_while PassesOwn.never (PW.pt (pw_and (pt_cmpR op_ne (pv 7) (pv 5) (nomark _)) (pw_and1 (pt_cmpR op_ne (pv 7) (pv 6) (nomark _))))) (pss_cons (ps_augS (pv 3) (pv 7) get_list pe_int ip_add set_list)
    (pss_one (ps_set (i := 7) S.nd rfl (by first | exact Or.inl rfl | exact Or.inr rfl) (pe_ix ix_list (pv 2) (pv 7) (fun _ _ => rfl))))))))))
    (pss_one (ps_ret (pv 3))))))
abbrev s_crossing_by : Stmt := topS 35
theorem sc_crossing_by : FnScope N_crossing_by ps_crossing_by (defScope s_crossing_by) := ⟨rfl, rfl, rfl, by decide +kernel, rfl, by decide +kernel, by decide +kernel⟩
theorem b_crossing_by {f : Addr} {fd : FuncData} (F : Fun K "crossing_by" "crossing_by" s_crossing_by f fd) : Binds K fd ps_crossing_by [] := F.binds fun _ _ _ _ _ _ us hl => match us, hl with | [_, _], _ => rfl
theorem d_crossing_by (T : Bl mg) {sp_mate_of : Sp} (c_mate_of : Callee P w K mg base "mate_of" 1 ps_mate_of sp_mate_of) : Der P w K mg base 1 N_crossing_by "crossing_by" s_crossing_by (t_crossing_by K sp_mate_of) := by
  intro f cdv A outer s H E hr
  have S := sc_crossing_by
  exact (pss_one (ps_ret (pe_callB (cr_sum (by rfl)) (by rfl) T.sum (by decide +kernel) (pa_cons (pe_lc (own := [("end", 2)]) (g := (gName 2)) (tt := tYes) (by rfl) S.nd (pi_list (pv 1)) (blkOk_by (N := N_crossing_by) (sc := defScope s_crossing_by) (by decide +kernel))  (fun _ _ _ _ _ => (pg_name (i := 2) S.nd rfl (by first | exact Or.inl rfl | exact Or.inr rfl))) (fun _ _ _ _ _ => pts_nil) (fun _ _ _ _ _ => (pe_op op_subI (pe_ix ix_list (pv 0) (pv 2) (fun _ _ => rfl)) (pe_ix ix_list (pv 0) (pe_callC c_mate_of hr (by decide) (by rfl) (pa_cons (pv 2) pa_nil)) (fun _ _ => rfl))))) pa_nil))))
abbrev s_net_counts : Stmt := topS 37
theorem sc_net_counts : FnScope N_net_counts ps_net_counts (defScope s_net_counts) := ⟨rfl, rfl, rfl, by decide +kernel, rfl, by decide +kernel, by decide +kernel⟩
theorem b_net_counts {f : Addr} {fd : FuncData} (F : Fun K "net_counts" "net_counts" s_net_counts f fd) : Binds K fd ps_net_counts [] := F.binds fun _ _ _ _ _ _ us hl => match us, hl with | [_, _], _ => rfl
theorem d_net_counts (T : Bl mg) {sp_mate_of : Sp} {sp_count_ends : Sp} (c_mate_of : Callee P w K mg base "mate_of" 1 ps_mate_of sp_mate_of) (c_count_ends : Callee P w K mg base "count_ends" 1 ps_count_ends sp_count_ends) : Der P w K mg base 1 N_net_counts "net_counts" s_net_counts (t_net_counts K sp_mate_of sp_count_ends) := by
  intro f cdv A outer s H E hr
  have S := sc_net_counts
  exact (pss_cons (ps_set (i := 2) S.nd rfl (by first | exact Or.inl rfl | exact Or.inr rfl) (pe_op op_rep (pe_lst (pa_cons pe_int pa_nil)) (pe_callC c_count_ends hr (by decide) (by rfl) (pa_cons (pv 0) pa_nil))))
    (pss_cons (ps_for PassesOwn.never (by rfl) (pi_list (pv 1)) (pg_name (i := 3) S.nd rfl (by first | exact Or.inl rfl | exact Or.inr rfl)) (pss_cons (ps_augS (pv 2) (pv 3) get_list pe_int ip_add set_list)
    (pss_one (ps_augS (pv 2) (pe_callC c_mate_of hr (by decide) (by rfl) (pa_cons (pv 3) pa_nil)) get_list pe_int ip_sub set_list))))
    (pss_one (ps_ret (pv 2)))))
abbrev s_spread_numbers : Stmt := topS 38
theorem sc_spread_numbers : FnScope N_spread_numbers ps_spread_numbers (defScope s_spread_numbers) := ⟨rfl, rfl, rfl, by decide +kernel, rfl, by decide +kernel, by decide +kernel⟩
theorem b_spread_numbers {f : Addr} {fd : FuncData} (F : Fun K "spread_numbers" "spread_numbers" s_spread_numbers f fd) : Binds K fd ps_spread_numbers [] := F.binds fun _ _ _ _ _ _ us hl => match us, hl with | [_, _, _, _], _ => rfl
theorem d_spread_numbers (T : Bl mg) {sp_mate_of : Sp} (c_mate_of : Callee P w K mg base "mate_of" 1 ps_mate_of sp_mate_of) : Der P w K mg base 1 N_spread_numbers "spread_numbers" s_spread_numbers (t_spread_numbers K sp_mate_of) := by
  intro f cdv A outer s H E hr
  have S := sc_spread_numbers
  exact (pss_cons (ps_set (i := 4) S.nd rfl (by first | exact Or.inl rfl | exact Or.inr rfl) (pe_disp (pps_cons (pv 3) pe_int pps_nil) (by rfl) (by rfl) (fun z => by cases z) (by decide)))
    (pss_cons (ps_set (i := 5) S.nd rfl (by first | exact Or.inl rfl | exact Or.inr rfl) (pe_lst (pa_cons (pv 3) pa_nil)))
    (pss_cons (ps_while PassesOwn.never (pt_cmpR op_gtI (pe_callB cr_lenS (by rfl) T.len (by decide +kernel) (pa_cons (pv 5) pa_nil)) pe_int (nomark _)) (pss_cons (ps_set (i := 6) S.nd rfl (by first | exact Or.inl rfl | exact Or.inr rfl) (pe_bm0 PySem.F.plainAttrs_list PySem.F.slot_list_pop PySem.F.type_list_pop mt_pop (pv 5)))
    (pss_one (ps_for PassesOwn.never (by rfl) (pi_list (pe_ix ix_list (pv 0) (pv 6) (fun _ _ => rfl))) (pg_name (i := 7) S.nd rfl (by first | exact Or.inl rfl | exact Or.inr rfl)) (pss_cons (ps_set (i := 8) S.nd rfl (by first | exact Or.inl rfl | exact Or.inr rfl) (pe_dget (hu_of hr) (pv 1) (pe_callC c_mate_of hr (by decide) (by rfl) (pa_cons (pv 7) pa_nil)) (fun _ _ => rfl)))
    (pss_cons (ps_set (i := 9) S.nd rfl (by first | exact Or.inl rfl | exact Or.inr rfl) (pe_op op_subI (pe_dget (hu_of hr) (pv 4) (pv 6) (fun _ _ => rfl)) (pe_ix ix_list (pv 2) (pv 7) (fun _ _ => rfl))))
    (pss_one (ps_if (pt_cmp (pc_dnotin (hu_of hr) (pv 8) (pv 4))) (pss_cons (ps_dput (hu_of hr) (pv 4) (pv 8) (pv 9) rfl)
    (pss_one (ps_expr (pe_bm PySem.F.plainAttrs_list PySem.F.slot_list_append PySem.F.type_list_append mt_append (pv 5) (pa_cons (pv 8) pa_nil))))) (pss_one (ps_if (pt_cmpR op_ne (pe_dget (hu_of hr) (pv 4) (pv 8) (fun _ _ => rfl)) (pv 9) (nomark _)) (pss_one (ps_ret pe_non)) pss_nil))))))))))
    (pss_one (ps_ret (pv 4))))))
abbrev s_filling : Stmt := topS 39
theorem sc_filling : FnScope N_filling ps_filling (defScope s_filling) := ⟨rfl, rfl, rfl, by decide +kernel, rfl, by decide +kernel, by decide +kernel⟩
theorem b_filling {f : Addr} {fd : FuncData} (F : Fun K "filling" "filling" s_filling f fd) : Binds K fd ps_filling [] := F.binds fun _ _ _ _ _ _ us hl => match us, hl with | [_, _], _ => rfl
theorem d_filling (T : Bl mg) {sp_spread_numbers : Sp} {sp_net_counts : Sp} {sp_land_numbers : Sp} {sp_lands_of : Sp} (c_spread_numbers : Callee P w K mg base "spread_numbers" 2 ps_spread_numbers sp_spread_numbers) (c_net_counts : Callee P w K mg base "net_counts" 2 ps_net_counts sp_net_counts) (c_land_numbers : Callee P w K mg base "land_numbers" 1 ps_land_numbers sp_land_numbers) (c_lands_of : Callee P w K mg base "lands_of" 3 ps_lands_of sp_lands_of) : Der P w K mg base 3 N_filling "filling" s_filling (t_filling K sp_spread_numbers sp_net_counts sp_land_numbers sp_lands_of) := by
  intro f cdv A outer s H E hr
  have S := sc_filling
  exact (pss_cons (ps_set (i := 2) S.nd rfl (by first | exact Or.inl rfl | exact Or.inr rfl) (pe_callC c_lands_of hr (by decide) (by rfl) (pa_cons (pv 0) pa_nil)))
    (pss_cons (ps_set (i := 3) S.nd rfl (by first | exact Or.inl rfl | exact Or.inr rfl) (pe_callC c_land_numbers hr (by decide) (by rfl) (pa_cons (pv 2) pa_nil)))
    (pss_cons (ps_set (i := 4) S.nd rfl (by first | exact Or.inl rfl | exact Or.inr rfl) (pe_callC c_net_counts hr (by decide) (by rfl) (pa_cons (pv 0) (pa_cons (pv 1) pa_nil))))
    (pss_cons (ps_set (i := 5) S.nd rfl (by first | exact Or.inl rfl | exact Or.inr rfl) pe_dnewK)
    (pss_cons (ps_for PassesOwn.never (by rfl) (pi_range1 (by rfl) T.range (pa_cons (pe_callB cr_lenS (by rfl) T.len (by decide +kernel) (pa_cons (pv 2) pa_nil)) pa_nil)) (pg_name (i := 6) S.nd rfl (by first | exact Or.inl rfl | exact Or.inr rfl)) (pss_cons (ps_if (pt_cmp (pc_din (hu_of hr) (pv 6) (pv 5))) (pss_one ps_continue) pss_nil)
    (pss_cons (ps_set (i := 7) S.nd rfl (by first | exact Or.inl rfl | exact Or.inr rfl) (pe_callC c_spread_numbers hr (by decide) (by rfl) (pa_cons (pv 2) (pa_cons (pv 3) (pa_cons (pv 4) (pa_cons (pv 6) pa_nil))))))
    (pss_cons (ps_if (pt_cmp (pc_isN (pv 7))) (pss_one (ps_ret pe_non)) pss_nil)
    (pss_cons (ps_set (i := 8) S.nd rfl (by first | exact Or.inl rfl | exact Or.inr rfl) (pe_minVals (by rfl) (by rfl) T.min (pv 7)))
    (pss_one (ps_lock (ps_for PassesOwn.never (by rfl) (pi_items (pv 7)) (pg_tup (by rfl) (pgs_cons (pg_name (i := 9) S.nd rfl (by first | exact Or.inl rfl | exact Or.inr rfl)) (pgs_cons (pg_name (i := 10) S.nd rfl (by first | exact Or.inl rfl | exact Or.inr rfl)) pgs_nil))) (pss_one (ps_dput (hu_of hr) (pv 5) (pv 9) (pe_op op_subI (pv 10) (pv 8)) rfl))))))))))
    (pss_one (ps_ret (pe_lc (own := [("land", 9)]) (g := (gName 9)) (tt := tYes) (by rfl) S.nd (pi_range1 (by rfl) T.range (pa_cons (pe_callB cr_lenS (by rfl) T.len (by decide +kernel) (pa_cons (pv 2) pa_nil)) pa_nil)) (blkOk_by (N := N_filling) (sc := defScope s_filling) (by decide +kernel))  (fun _ _ _ _ _ => (pg_name (i := 9) S.nd rfl (by first | exact Or.inl rfl | exact Or.inr rfl))) (fun _ _ _ _ _ => pts_nil) (fun _ _ _ _ _ => (pe_dget (hu_of hr) (pv 5) (pv 9) (fun _ _ => rfl)))))))))))
abbrev s_crosser : Stmt := topS 40
theorem sc_crosser : FnScope N_crosser ps_crosser (defScope s_crosser) := ⟨rfl, rfl, rfl, by decide +kernel, rfl, by decide +kernel, by decide +kernel⟩
theorem b_crosser {f : Addr} {fd : FuncData} (F : Fun K "crosser" "crosser" s_crosser f fd) : Binds K fd ps_crosser [] := F.binds fun _ _ _ _ _ _ us hl => match us, hl with | [_, _], _ => rfl
theorem d_crosser (T : Bl mg) {sp_mate_of : Sp} {sp_crossing_by : Sp} {sp_round_along : Sp} {sp_tree_from : Sp} {sp_left_counts : Sp} {sp_seats_of : Sp} (c_mate_of : Callee P w K mg base "mate_of" 1 ps_mate_of sp_mate_of) (c_crossing_by : Callee P w K mg base "crossing_by" 2 ps_crossing_by sp_crossing_by) (c_round_along : Callee P w K mg base "round_along" 3 ps_round_along sp_round_along) (c_tree_from : Callee P w K mg base "tree_from" 3 ps_tree_from sp_tree_from) (c_left_counts : Callee P w K mg base "left_counts" 3 ps_left_counts sp_left_counts) (c_seats_of : Callee P w K mg base "seats_of" 2 ps_seats_of sp_seats_of) : Der P w K mg base 3 N_crosser "crosser" s_crosser (t_crosser K sp_mate_of sp_crossing_by sp_round_along sp_tree_from sp_left_counts sp_seats_of) := by
  intro f cdv A outer s H E hr
  have S := sc_crosser
  exact (pss_cons (ps_set (i := 2) S.nd rfl (by first | exact Or.inl rfl | exact Or.inr rfl) (pe_callC c_seats_of hr (by decide) (by rfl) (pa_cons (pv 0) pa_nil)))
    (pss_cons (ps_set (i := 3) S.nd rfl (by first | exact Or.inl rfl | exact Or.inr rfl) (pe_callC c_left_counts hr (by decide) (by rfl) (pa_cons (pv 0) (pa_cons (pv 1) pa_nil))))
    (pss_cons (ps_set (i := 4) S.nd rfl (by first | exact Or.inl rfl | exact Or.inr rfl) (pe_callC c_tree_from hr (by decide) (by rfl) (pa_cons (pv 0) (pa_cons (pe_ix ix_list (pv 2) (pe_ix ix_list (pv 1) pe_int (fun _ _ => rfl)) (fun _ _ => rfl)) pa_nil))))
    (pss_cons (ps_lock (ps_for PassesOwn.never (by rfl) (pi_keys (pv 4)) (pg_name (i := 5) S.nd rfl (by first | exact Or.inl rfl | exact Or.inr rfl)) (pss_one (ps_for PassesOwn.never (by rfl) (pi_list (pe_ix ix_list (pv 0) (pv 5) (fun _ _ => rfl))) (pg_name (i := 6) S.nd rfl (by first | exact Or.inl rfl | exact Or.inr rfl)) (pss_one (ps_if (PW.pt (pw_and (pt_cmpR op_ne (pe_dget (hu_of hr) (pv 4) (pv 5) (fun _ _ => rfl)) (pv 6) (nomark _)) (pw_and1 (pt_cmpR op_ne (pe_dget (hu_of hr) (pv 4) (pe_ix ix_list (pv 2) (pe_callC c_mate_of hr (by decide) (by rfl) (pa_cons (pv 6) pa_nil)) (fun _ _ => rfl)) (fun _ _ => rfl)) (pe_callC c_mate_of hr (by decide) (by rfl) (pa_cons (pv 6) pa_nil)) (nomark _))))) (pss_cons (ps_set (i := 7) S.nd rfl (by first | exact Or.inl rfl | exact Or.inr rfl) (pe_callC c_round_along hr (by decide) (by rfl) (pa_cons (pv 2) (pa_cons (pv 4) (pa_cons (pv 6) pa_nil)))))
    (pss_one (ps_if (pt_cmpR op_ne (pe_callC c_crossing_by hr (by decide) (by rfl) (pa_cons (pv 3) (pa_cons (pv 7) pa_nil))) pe_int (nomark _)) (pss_one (ps_ret (pv 7))) pss_nil))) pss_nil))))))
    (pss_one (ps_ret (pe_lst pa_nil)))))))
abbrev s_fill_of : Stmt := topS 41
theorem sc_fill_of : FnScope N_fill_of ps_fill_of (defScope s_fill_of) := ⟨rfl, rfl, rfl, by decide +kernel, rfl, by decide +kernel, by decide +kernel⟩
theorem b_fill_of {f : Addr} {fd : FuncData} (F : Fun K "fill_of" "fill_of" s_fill_of f fd) : Binds K fd ps_fill_of [] := F.binds fun _ _ _ _ _ _ us hl => match us, hl with | [_, _], _ => rfl
theorem d_fill_of (T : Bl mg) {sp_crosser : Sp} {sp_filling : Sp} {sp_ask_walk : Sp} (c_crosser : Callee P w K mg base "crosser" 4 ps_crosser sp_crosser) (c_filling : Callee P w K mg base "filling" 4 ps_filling sp_filling) (c_ask_walk : Callee P w K mg base "ask_walk" 4 ps_ask_walk sp_ask_walk) : Der P w K mg base 4 N_fill_of "fill_of" s_fill_of (t_fill_of K sp_crosser sp_filling sp_ask_walk) := by
  intro f cdv A outer s H E hr
  have S := sc_fill_of
  exact (pss_cons (ps_expr (pe_callC c_ask_walk hr (by decide) (by rfl) (pa_cons (pv 0) (pa_cons (pv 1) pa_nil))))
    (pss_cons (ps_set (i := 2) S.nd rfl (by first | exact Or.inl rfl | exact Or.inr rfl) (pe_callC c_filling hr (by decide) (by rfl) (pa_cons (pv 0) (pa_cons (pv 1) pa_nil))))
    (pss_cons (ps_if (pt_cmp (pc_isN (pv 2))) (pss_one (ps_ret (pe_tup (pa_cons pe_str (pa_cons (pe_callC c_crosser hr (by decide) (by rfl) (pa_cons (pv 0) (pa_cons (pv 1) pa_nil))) pa_nil))))) pss_nil)
    (pss_one (ps_ret (pe_tup (pa_cons pe_str (pa_cons (pv 2) pa_nil))))))))
abbrev s__law_cell : Stmt := topS 43
theorem sc__law_cell : FnScope N__law_cell ps__law_cell (defScope s__law_cell) := ⟨rfl, rfl, rfl, by decide +kernel, rfl, by decide +kernel, by decide +kernel⟩
theorem b__law_cell {f : Addr} {fd : FuncData} (F : Fun K "_law_cell" "_law_cell" s__law_cell f fd) : Binds K fd ps__law_cell [] := F.binds fun _ _ _ _ _ _ us hl => match us, hl with | [_, _], _ => rfl
theorem d__law_cell (T : Bl mg) : Der P w K mg base 0 N__law_cell "_law_cell" s__law_cell (t__law_cell K) := by
  intro f cdv A outer s H E hr
  have S := sc__law_cell
  exact (pss_cons (ps_if (pt_cmpR op_eq (pe_callB cr_lenS (by rfl) T.len (by decide +kernel) (pa_cons (pv 0) pa_nil)) pe_int (nomark _)) (pss_one (ps_ret (pe_op op_addI (pe_op op_mulI pe_int (pv 1)) pe_int))) pss_nil)
    (pss_cons (ps_if (pt_cmpR op_ltI (pv 1) (pe_callB cr_lenS (by rfl) T.len (by decide +kernel) (pa_cons (pv 0) pa_nil)) (nomark _)) (pss_one (ps_ret (pe_ix ix_list (pv 0) (pv 1) (fun _ _ => rfl)))) pss_nil)
    (pss_one (ps_ret (pe_op op_addI (pe_op op_mulI (pe_op op_modI (pe_ix ix_list (pv 0) (pe_op op_modI (pv 1) (pe_callB cr_lenS (by rfl) T.len (by decide +kernel) (pa_cons (pv 0) pa_nil))) (fun _ _ => rfl)) pe_int) pe_int) (pe_op op_mulI pe_int (pv 1)))))))
abbrev s__law_draws : Stmt := topS 44
theorem sc__law_draws : FnScope N__law_draws ps__law_draws (defScope s__law_draws) := ⟨rfl, rfl, rfl, by decide +kernel, rfl, by decide +kernel, by decide +kernel⟩
theorem b__law_draws {f : Addr} {fd : FuncData} (F : Fun K "_law_draws" "_law_draws" s__law_draws f fd) : Binds K fd ps__law_draws [] := F.binds fun _ _ _ _ _ _ us hl => match us, hl with | [_, _], _ => rfl
theorem d__law_draws (T : Bl mg) : Der P w K mg base 0 N__law_draws "_law_draws" s__law_draws (t__law_draws K) := by
  intro f cdv A outer s H E hr
  have S := sc__law_draws
  exact (pss_cons (ps_set (i := 2) S.nd rfl (by first | exact Or.inl rfl | exact Or.inr rfl) pe_int)
    (pss_cons (ps_if (pt_cmpR op_geI (pv 0) (pe_op op_powI pe_int pe_int) (nomark _)) (pss_one (ps_set (i := 2) S.nd rfl (by first | exact Or.inl rfl | exact Or.inr rfl) (pv 0))) pss_nil)
    (pss_cons (ps_set (i := 3) S.nd rfl (by first | exact Or.inl rfl | exact Or.inr rfl) (pe_lst pa_nil))
    (pss_cons (ps_for PassesOwn.never (by rfl) (pi_enum (by rfl) T.enumerate (pa_cons (pv 1) pa_nil)) (pg_tup (by rfl) (pgs_cons (pg_name (i := 4) S.nd rfl (by first | exact Or.inl rfl | exact Or.inr rfl)) (pgs_cons (pg_name (i := 5) S.nd rfl (by first | exact Or.inl rfl | exact Or.inr rfl)) pgs_nil))) (pss_one (ps_if (pt_cmpR op_gtI (pv 2) pe_int (nomark _)) (pss_cons (ps_expr (pe_bm PySem.F.plainAttrs_list PySem.F.slot_list_append PySem.F.type_list_append mt_append (pv 3) (pa_cons (pe_op op_modI (pv 2) (pv 5)) pa_nil)))
    (pss_one (ps_set (i := 2) S.nd rfl (by first | exact Or.inl rfl | exact Or.inr rfl) (pe_op op_divI (pv 2) (pv 5))))) (pss_cons (ps_set (i := 6) S.nd rfl (by first | exact Or.inl rfl | exact Or.inr rfl) (pe_op op_modI (pe_op op_powI (pe_op op_addI (pe_op op_addI (pe_op op_addI (pe_op op_modI (pv 0) pe_int) (pe_op op_mulI (pe_op op_mulI pe_int (pv 4)) (pv 4))) (pe_op op_mulI pe_int (pv 4))) pe_int) pe_int) pe_int))
    (pss_one (ps_expr (pe_bm PySem.F.plainAttrs_list PySem.F.slot_list_append PySem.F.type_list_append mt_append (pv 3) (pa_cons (pe_op op_modI (pe_op op_modI (pe_op op_addI (pe_op op_mulI (pv 6) pe_int) (pe_op op_mulI pe_int (pv 4))) pe_int) (pv 5)) pa_nil))))))))
    (pss_one (ps_ret (pv 3)))))))
abbrev s__law_mate : Stmt := topS 45
theorem sc__law_mate : FnScope N__law_mate ps__law_mate (defScope s__law_mate) := ⟨rfl, rfl, rfl, by decide +kernel, rfl, by decide +kernel, by decide +kernel⟩
theorem b__law_mate {f : Addr} {fd : FuncData} (F : Fun K "_law_mate" "_law_mate" s__law_mate f fd) : Binds K fd ps__law_mate [] := F.binds fun _ _ _ _ _ _ us hl => match us, hl with | [_], _ => rfl
theorem d__law_mate (T : Bl mg) : Der P w K mg base 0 N__law_mate "_law_mate" s__law_mate (t__law_mate K) := by
  intro f cdv A outer s H E hr
  have S := sc__law_mate
  exact (pss_one (ps_ret (pe_op op_subI (pe_op op_addI (pv 0) pe_int) (pe_op op_mulI pe_int (pe_op op_modI (pv 0) pe_int)))))
abbrev s__law_settled : Stmt := topS 46
theorem sc__law_settled : FnScope N__law_settled ps__law_settled (defScope s__law_settled) := ⟨rfl, rfl, rfl, by decide +kernel, rfl, by decide +kernel, by decide +kernel⟩
theorem b__law_settled {f : Addr} {fd : FuncData} (F : Fun K "_law_settled" "_law_settled" s__law_settled f fd) : Binds K fd ps__law_settled [] := F.binds fun _ _ _ _ _ _ us hl => match us, hl with | [_], _ => rfl
theorem d__law_settled (T : Bl mg) : Der P w K mg base 0 N__law_settled "_law_settled" s__law_settled (t__law_settled K) := by
  intro f cdv A outer s H E hr
  have S := sc__law_settled
  exact (pss_cons (ps_set (i := 1) S.nd rfl (by first | exact Or.inl rfl | exact Or.inr rfl) (pe_lst pa_nil))
    (pss_cons (ps_for PassesOwn.never (by rfl) (pi_list (pv 0)) (pg_name (i := 2) S.nd rfl (by first | exact Or.inl rfl | exact Or.inr rfl)) (pss_cons (ps_set (i := 3) S.nd rfl (by first | exact Or.inl rfl | exact Or.inr rfl) pe_int)
    (pss_cons (ps_if (pt_cmpR op_gtI (pe_callB cr_lenS (by rfl) T.len (by decide +kernel) (pa_cons (pv 2) pa_nil)) pe_int (nomark _)) (pss_one (ps_set (i := 3) S.nd rfl (by first | exact Or.inl rfl | exact Or.inr rfl) (pe_bm PySem.F.plainAttrs_list PySem.F.slot_list_index PySem.F.type_list_index mt_index (pv 2) (pa_cons (pe_callB (cr_min (by rfl)) (by rfl) T.min (by decide +kernel) (pa_cons (pv 2) pa_nil)) pa_nil)))) pss_nil)
    (pss_one (ps_expr (pe_bm PySem.F.plainAttrs_list PySem.F.slot_list_append PySem.F.type_list_append mt_append (pv 1) (pa_cons (pe_op op_cat (pe_slice sl_list (pv 2) (po_some (pv 3)) po_none) (pe_slice sl_list (pv 2) po_none (po_some (pv 3)))) pa_nil)))))))
    (pss_one (ps_ret (pv 1)))))
abbrev s__law_seats : Stmt := topS 48
theorem sc__law_seats : FnScope N__law_seats ps__law_seats (defScope s__law_seats) := ⟨rfl, rfl, rfl, by decide +kernel, rfl, by decide +kernel, by decide +kernel⟩
theorem b__law_seats {f : Addr} {fd : FuncData} (F : Fun K "_law_seats" "_law_seats" s__law_seats f fd) : Binds K fd ps__law_seats [] := F.binds fun _ _ _ _ _ _ us hl => match us, hl with | [_], _ => rfl
theorem d__law_seats (T : Bl mg) : Der P w K mg base 0 N__law_seats "_law_seats" s__law_seats (t__law_seats K) := by
  intro f cdv A outer s H E hr
  have S := sc__law_seats
  exact (pss_cons (ps_set (i := 1) S.nd rfl (by first | exact Or.inl rfl | exact Or.inr rfl) pe_dnewK)
    (pss_cons (ps_for PassesOwn.never (by rfl) (pi_range1 (by rfl) T.range (pa_cons (pe_callB cr_lenS (by rfl) T.len (by decide +kernel) (pa_cons (pv 0) pa_nil)) pa_nil)) (pg_name (i := 2) S.nd rfl (by first | exact Or.inl rfl | exact Or.inr rfl)) (pss_one (ps_for PassesOwn.never (by rfl) (pi_list (pe_ix ix_list (pv 0) (pv 2) (fun _ _ => rfl))) (pg_name (i := 3) S.nd rfl (by first | exact Or.inl rfl | exact Or.inr rfl)) (pss_one (ps_dput (hu_of hr) (pv 1) (pv 3) (pv 2) rfl)))))
    (pss_one (ps_ret (pv 1)))))
abbrev s__law_behind : Stmt := topS 49
theorem sc__law_behind : FnScope N__law_behind ps__law_behind (defScope s__law_behind) := ⟨rfl, rfl, rfl, by decide +kernel, rfl, by decide +kernel, by decide +kernel⟩
theorem b__law_behind {f : Addr} {fd : FuncData} (F : Fun K "_law_behind" "_law_behind" s__law_behind f fd) : Binds K fd ps__law_behind [] := F.binds fun _ _ _ _ _ _ us hl => match us, hl with | [_], _ => rfl
theorem d__law_behind (T : Bl mg) : Der P w K mg base 0 N__law_behind "_law_behind" s__law_behind (t__law_behind K) := by
  intro f cdv A outer s H E hr
  have S := sc__law_behind
  exact (pss_cons (ps_set (i := 1) S.nd rfl (by first | exact Or.inl rfl | exact Or.inr rfl) pe_dnewK)
    (pss_cons (ps_for PassesOwn.never (by rfl) (pi_list (pv 0)) (pg_name (i := 2) S.nd rfl (by first | exact Or.inl rfl | exact Or.inr rfl)) (pss_one (ps_for PassesOwn.never (by rfl) (pi_range1 (by rfl) T.range (pa_cons (pe_callB cr_lenS (by rfl) T.len (by decide +kernel) (pa_cons (pv 2) pa_nil)) pa_nil)) (pg_name (i := 3) S.nd rfl (by first | exact Or.inl rfl | exact Or.inr rfl)) (pss_one (ps_dput (hu_of hr) (pv 1) (pe_ix ix_list (pv 2) (pv 3) (fun _ _ => rfl)) (pe_ix ix_list (pv 2) (pe_op op_modI (pe_op op_addI (pv 3) pe_int) (pe_callB cr_lenS (by rfl) T.len (by decide +kernel) (pa_cons (pv 2) pa_nil))) (fun _ _ => rfl)) rfl)))))
    (pss_one (ps_ret (pv 1)))))
abbrev s__law_lands : Stmt := topS 50
theorem sc__law_lands : FnScope N__law_lands ps__law_lands (defScope s__law_lands) := ⟨rfl, rfl, rfl, by decide +kernel, rfl, by decide +kernel, by decide +kernel⟩
theorem b__law_lands {f : Addr} {fd : FuncData} (F : Fun K "_law_lands" "_law_lands" s__law_lands f fd) : Binds K fd ps__law_lands [] := F.binds fun _ _ _ _ _ _ us hl => match us, hl with | [_], _ => rfl
theorem d__law_lands (T : Bl mg) {sp__law_mate : Sp} {sp__law_behind : Sp} (c__law_mate : Callee P w K mg base "_law_mate" 1 ps__law_mate sp__law_mate) (c__law_behind : Callee P w K mg base "_law_behind" 1 ps__law_behind sp__law_behind) : Der P w K mg base 1 N__law_lands "_law_lands" s__law_lands (t__law_lands K sp__law_mate sp__law_behind) := by
  intro f cdv A outer s H E hr
  have S := sc__law_lands
  exact (pss_cons (ps_set (i := 1) S.nd rfl (by first | exact Or.inl rfl | exact Or.inr rfl) (pe_callC c__law_behind hr (by decide) (by rfl) (pa_cons (pv 0) pa_nil)))
    (pss_cons (ps_set (i := 2) S.nd rfl (by first | exact Or.inl rfl | exact Or.inr rfl) pe_dnewK)
    (pss_cons (ps_set (i := 3) S.nd rfl (by first | exact Or.inl rfl | exact Or.inr rfl) (pe_lst pa_nil))
    (pss_cons (ps_for PassesOwn.never (by rfl) (pi_range1 (by rfl) T.range (pa_cons (pe_callB cr_lenD (by rfl) T.len (by decide +kernel) (pa_cons (pv 1) pa_nil)) pa_nil)) (pg_name (i := 4) S.nd rfl (by first | exact Or.inl rfl | exact Or.inr rfl)) (pss_cons (ps_set (i := 5) S.nd rfl (by first | exact Or.inl rfl | exact Or.inr rfl) (pe_lst pa_nil))
    (pss_cons (ps_set (i := 6) S.nd rfl (by first | exact Or.inl rfl | exact Or.inr rfl) (pv 4))
    (pss_cons (ps_while PassesOwn.never (pt_cmp (pc_dnotin (hu_of hr) (pv 6) (pv 2))) (pss_cons (ps_dput (hu_of hr) (pv 2) (pv 6) pe_bl rfl)
    (pss_cons (ps_expr (pe_bm PySem.F.plainAttrs_list PySem.F.slot_list_append PySem.F.type_list_append mt_append (pv 5) (pa_cons (pv 6) pa_nil)))
    (pss_one (ps_set (i := 6) S.nd rfl (by first | exact Or.inl rfl | exact Or.inr rfl) (pe_dget (hu_of hr) (pv 1) (pe_callC c__law_mate hr (by decide) (by rfl) (pa_cons (pv 6) pa_nil)) (fun _ _ => rfl)))))))
    (pss_one (ps_if (pt_cmpR op_gtI (pe_callB cr_lenS (by rfl) T.len (by decide +kernel) (pa_cons (pv 5) pa_nil)) pe_int (nomark _)) (pss_one (ps_expr (pe_bm PySem.F.plainAttrs_list PySem.F.slot_list_append PySem.F.type_list_append mt_append (pv 3) (pa_cons (pv 5) pa_nil)))) pss_nil))))))
    (pss_one (ps_ret (pe_op op_cat (pv 3) (pe_lc (own := [("_law_row", 7)]) (g := (gName 7)) (tt := (tTest (tOp rEq (tCB (rLenS K) (tCons (tVar 7) tNil)) (tC (.int 0))))) (by rfl) S.nd (pi_list (pv 0)) (blkOk_by (N := N__law_lands) (sc := defScope s__law_lands) (by decide +kernel))  (fun _ _ _ _ _ => (pg_name (i := 7) S.nd rfl (by first | exact Or.inl rfl | exact Or.inr rfl))) (fun _ _ _ _ _ => (pts_one (pt_cmpR op_eq (pe_callB cr_lenS (by rfl) T.len (by decide +kernel) (pa_cons (pv 7) pa_nil)) pe_int (nomark _)))) (fun _ _ _ _ _ => (pe_lst pa_nil))))))))))
abbrev s__law_tied : Stmt := topS 51
theorem sc__law_tied : FnScope N__law_tied ps__law_tied (defScope s__law_tied) := ⟨rfl, rfl, rfl, by decide +kernel, rfl, by decide +kernel, by decide +kernel⟩
theorem b__law_tied {f : Addr} {fd : FuncData} (F : Fun K "_law_tied" "_law_tied" s__law_tied f fd) : Binds K fd ps__law_tied [] := F.binds fun _ _ _ _ _ _ us hl => match us, hl with | [_, _, _, _, _], _ => rfl
theorem d__law_tied (T : Bl mg) {sp__law_lands : Sp} (c__law_lands : Callee P w K mg base "_law_lands" 2 ps__law_lands sp__law_lands) : Der P w K mg base 2 N__law_tied "_law_tied" s__law_tied (t__law_tied K sp__law_lands) := by
  intro f cdv A outer s H E hr
  have S := sc__law_tied
  exact (pss_cons (ps_if (pt_cmpR op_eq (pv 1) pe_int (nomark _)) (pss_cons (ps_expr (pe_bm PySem.F.plainAttrs_list PySem.F.slot_list_extend PySem.F.type_list_extend mt_extend (pe_ix ix_list (pv 0) pe_int (fun _ _ => rfl)) (pa_cons (pe_lst (pa_cons pe_int (pa_cons pe_int pa_nil))) pa_nil)))
    (pss_one ps_retN)) pss_nil)
    (pss_cons (ps_set (i := 5) S.nd rfl (by first | exact Or.inl rfl | exact Or.inr rfl) (pe_callC c__law_lands hr (by decide) (by rfl) (pa_cons (pv 0) pa_nil)))
    (pss_cons (ps_set (i := 6) S.nd rfl (by first | exact Or.inl rfl | exact Or.inr rfl) pe_dnewK)
    (pss_cons (ps_for PassesOwn.never (by rfl) (pi_range1 (by rfl) T.range (pa_cons (pe_callB cr_lenS (by rfl) T.len (by decide +kernel) (pa_cons (pv 5) pa_nil)) pa_nil)) (pg_name (i := 7) S.nd rfl (by first | exact Or.inl rfl | exact Or.inr rfl)) (pss_one (ps_for PassesOwn.never (by rfl) (pi_list (pe_ix ix_list (pv 5) (pv 7) (fun _ _ => rfl))) (pg_name (i := 8) S.nd rfl (by first | exact Or.inl rfl | exact Or.inr rfl)) (pss_one (ps_dput (hu_of hr) (pv 6) (pv 8) (pv 7) rfl)))))
    (pss_cons (ps_set (i := 9) S.nd rfl (by first | exact Or.inl rfl | exact Or.inr rfl) (pe_op op_modI (pv 2) (pe_op op_mulI pe_int (pv 1))))
    (pss_cons (ps_setLc (i := 10) (own := [("_law_end", 8)]) (g := (gName 8)) (tt := (tTest (tOp rEq (tOp rNe (tDGet (tVar 6) (tVar 8)) (tDGet (tVar 6) (tVar 9))) (tVar 4)))) (by rfl) S.nd rfl rfl (sw_true rfl rfl rfl (by decide +kernel)) (pi_range1 (by rfl) T.range (pa_cons (pe_op op_mulI pe_int (pv 1)) pa_nil)) (blkOk_by (N := N__law_tied) (sc := defScope s__law_tied) (by decide +kernel)) (fun _ _ _ _ _ => (pg_name (i := 8) S.nd rfl (by first | exact Or.inl rfl | exact Or.inr rfl))) (fun _ _ _ _ _ => (pts_one (pt_cmpR op_eq (pe_cmpR op_ne (pe_dget (hu_of hr) (pv 6) (pv 8) (fun _ _ => rfl)) (pe_dget (hu_of hr) (pv 6) (pv 9) (fun _ _ => rfl)) (nomark _)) (pv 4) (nomark _)))) (fun _ _ _ _ _ => (pv 8)))
    (pss_cons (ps_set (i := 11) S.nd rfl (by first | exact Or.inl rfl | exact Or.inr rfl) (pe_ix ix_list (pv 10) (pe_op op_modI (pv 3) (pe_callB cr_lenS (by rfl) T.len (by decide +kernel) (pa_cons (pv 10) pa_nil))) (fun _ _ => rfl)))
    (pss_one (ps_for PassesOwn.never (by rfl) (pi_list (pe_lst (pa_cons (pe_tup (pa_cons (pe_op op_mulI pe_int (pv 1)) (pa_cons (pv 9) pa_nil))) (pa_cons (pe_tup (pa_cons (pe_op op_addI (pe_op op_mulI pe_int (pv 1)) pe_int) (pa_cons (pv 11) pa_nil))) pa_nil)))) (pg_tup (by rfl) (pgs_cons (pg_name (i := 12) S.nd rfl (by first | exact Or.inl rfl | exact Or.inr rfl)) (pgs_cons (pg_name (i := 8) S.nd rfl (by first | exact Or.inl rfl | exact Or.inr rfl)) pgs_nil))) (pss_one (ps_for PassesOwn.never (by rfl) (pi_list (pv 0)) (pg_name (i := 13) S.nd rfl (by first | exact Or.inl rfl | exact Or.inr rfl)) (pss_one (ps_if (pt_cmpR op_in_seq (pv 8) (pv 13) (by rfl)) (pss_one (ps_expr (pe_bm PySem.F.plainAttrs_list PySem.F.slot_list_insert PySem.F.type_list_insert mt_insertI (pv 13) (pa_cons (pe_bm PySem.F.plainAttrs_list PySem.F.slot_list_index PySem.F.type_list_index mt_index (pv 13) (pa_cons (pv 8) pa_nil)) (pa_cons (pv 12) pa_nil))))) pss_nil)))))))))))))
abbrev s__law_renamed : Stmt := topS 52
theorem sc__law_renamed : FnScope N__law_renamed ps__law_renamed (defScope s__law_renamed) := ⟨rfl, rfl, rfl, by decide +kernel, rfl, by decide +kernel, by decide +kernel⟩
theorem b__law_renamed {f : Addr} {fd : FuncData} (F : Fun K "_law_renamed" "_law_renamed" s__law_renamed f fd) : Binds K fd ps__law_renamed [] := F.binds fun _ _ _ _ _ _ us hl => match us, hl with | [_, _, _], _ => rfl
theorem d__law_renamed (T : Bl mg) {sp__law_settled : Sp} {sp__law_draws : Sp} (c__law_settled : Callee P w K mg base "_law_settled" 1 ps__law_settled sp__law_settled) (c__law_draws : Callee P w K mg base "_law_draws" 1 ps__law_draws sp__law_draws) : Der P w K mg base 1 N__law_renamed "_law_renamed" s__law_renamed (t__law_renamed K sp__law_settled sp__law_draws) := by
  intro f cdv A outer s H E hr
  have S := sc__law_renamed
  exact (pss_cons (ps_set (i := 3) S.nd rfl (by first | exact Or.inl rfl | exact Or.inr rfl) (pe_callC c__law_draws hr (by decide) (by rfl) (pa_cons (pv 2) (pa_cons (pe_op op_cat (pe_op op_cat (pe_lc (own := [("_law_k", 4)]) (g := (gName 4)) (tt := tYes) (by rfl) S.nd (pi_range1 (by rfl) T.range (pa_cons (pv 1) pa_nil)) (blkOk_by (N := N__law_renamed) (sc := defScope s__law_renamed) (by decide +kernel))  (fun _ _ _ _ _ => (pg_name (i := 4) S.nd rfl (by first | exact Or.inl rfl | exact Or.inr rfl))) (fun _ _ _ _ _ => pts_nil) (fun _ _ _ _ _ => (pe_op op_subI (pv 1) (pv 4)))) (pe_op op_rep (pe_lst (pa_cons pe_int pa_nil)) (pv 1))) (pe_lc (own := [("_law_k", 4)]) (g := (gName 4)) (tt := tYes) (by rfl) S.nd (pi_range1 (by rfl) T.range (pa_cons (pe_callB cr_lenS (by rfl) T.len (by decide +kernel) (pa_cons (pv 0) pa_nil)) pa_nil)) (blkOk_by (N := N__law_renamed) (sc := defScope s__law_renamed) (by decide +kernel))  (fun _ _ _ _ _ => (pg_name (i := 4) S.nd rfl (by first | exact Or.inl rfl | exact Or.inr rfl))) (fun _ _ _ _ _ => pts_nil) (fun _ _ _ _ _ => (pe_op op_subI (pe_callB cr_lenS (by rfl) T.len (by decide +kernel) (pa_cons (pv 0) pa_nil)) (pv 4))))) pa_nil))))
    (pss_cons (ps_set (i := 5) S.nd rfl (by first | exact Or.inl rfl | exact Or.inr rfl) (pe_listRg (by rfl) (by rfl) T.list (prg_1 (by rfl) T.range (pv 1))))
    (pss_cons (ps_set (i := 6) S.nd rfl (by first | exact Or.inl rfl | exact Or.inr rfl) pe_dnewK)
    (pss_cons (ps_for PassesOwn.never (by rfl) (pi_range1 (by rfl) T.range (pa_cons (pv 1) pa_nil)) (pg_name (i := 7) S.nd rfl (by first | exact Or.inl rfl | exact Or.inr rfl)) (pss_cons (ps_set (i := 8) S.nd rfl (by first | exact Or.inl rfl | exact Or.inr rfl) (pe_bm PySem.F.plainAttrs_list PySem.F.slot_list_pop PySem.F.type_list_pop mt_popAt (pv 5) (pa_cons (pe_ix ix_list (pv 3) (pv 7) (fun _ _ => rfl)) pa_nil)))
    (pss_cons (ps_dput (hu_of hr) (pv 6) (pe_op op_mulI pe_int (pv 7)) (pe_op op_addI (pe_op op_mulI pe_int (pv 8)) (pe_ix ix_list (pv 3) (pe_op op_addI (pv 1) (pv 7)) (fun _ _ => rfl))) rfl)
    (pss_one (ps_dput (hu_of hr) (pv 6) (pe_op op_addI (pe_op op_mulI pe_int (pv 7)) pe_int) (pe_op op_subI (pe_op op_addI (pe_op op_mulI pe_int (pv 8)) pe_int) (pe_ix ix_list (pv 3) (pe_op op_addI (pv 1) (pv 7)) (fun _ _ => rfl))) rfl)))))
    (pss_cons (ps_setLc (i := 5) (own := [("_law_row", 10)]) (g := (gName 10)) (tt := tYes) (by rfl) S.nd rfl rfl (sw_true rfl rfl rfl (by decide +kernel)) (pi_list (pv 0)) (blkOk_by (N := N__law_renamed) (sc := defScope s__law_renamed) (by decide +kernel)) (fun _ _ _ _ _ => (pg_name (i := 10) S.nd rfl (by first | exact Or.inl rfl | exact Or.inr rfl))) (fun _ _ _ _ _ => pts_nil) (fun _ _ _ _ _ => (pe_lc (own := [("_law_end", 9)]) (g := (gName 9)) (tt := tYes) (by rfl) S.nd (pi_list (pv 10)) (blkOk_by (by rfl))  (fun _ _ _ _ _ => (pg_name (i := 9) S.nd rfl (by first | exact Or.inl rfl | exact Or.inr rfl))) (fun _ _ _ _ _ => pts_nil) (fun _ _ _ _ _ => (pe_dget (hu_of hr) (pv 6) (pv 9) (fun _ _ => rfl))))))
    (pss_cons (ps_set (i := 11) S.nd rfl (by first | exact Or.inl rfl | exact Or.inr rfl) (pe_lst pa_nil))
    (pss_cons (ps_for PassesOwn.never (by rfl) (pi_range1 (by rfl) T.range (pa_cons (pe_callB cr_lenS (by rfl) T.len (by decide +kernel) (pa_cons (pv 0) pa_nil)) pa_nil)) (pg_name (i := 4) S.nd rfl (by first | exact Or.inl rfl | exact Or.inr rfl)) (pss_one (ps_expr (pe_bm PySem.F.plainAttrs_list PySem.F.slot_list_append PySem.F.type_list_append mt_append (pv 11) (pa_cons (pe_bm PySem.F.plainAttrs_list PySem.F.slot_list_pop PySem.F.type_list_pop mt_popAt (pv 5) (pa_cons (pe_ix ix_list (pv 3) (pe_op op_addI (pe_op op_mulI pe_int (pv 1)) (pv 4)) (fun _ _ => rfl)) pa_nil)) pa_nil)))))
    (pss_one (ps_ret (pe_callC c__law_settled hr (by decide) (by rfl) (pa_cons (pv 11) pa_nil)))))))))))
abbrev s__law_grown : Stmt := topS 53
theorem sc__law_grown : FnScope N__law_grown ps__law_grown (defScope s__law_grown) := ⟨rfl, rfl, rfl, by decide +kernel, rfl, by decide +kernel, by decide +kernel⟩
theorem b__law_grown {f : Addr} {fd : FuncData} (F : Fun K "_law_grown" "_law_grown" s__law_grown f fd) : Binds K fd ps__law_grown [] := F.binds fun _ _ _ _ _ _ us hl => match us, hl with | [_, _, _], _ => rfl
theorem d__law_grown (T : Bl mg) {sp__law_renamed : Sp} {sp__law_cell : Sp} {sp__law_tied : Sp} {sp__law_draws : Sp} (c__law_renamed : Callee P w K mg base "_law_renamed" 2 ps__law_renamed sp__law_renamed) (c__law_cell : Callee P w K mg base "_law_cell" 1 ps__law_cell sp__law_cell) (c__law_tied : Callee P w K mg base "_law_tied" 3 ps__law_tied sp__law_tied) (c__law_draws : Callee P w K mg base "_law_draws" 1 ps__law_draws sp__law_draws) : Der P w K mg base 3 N__law_grown "_law_grown" s__law_grown (t__law_grown K sp__law_renamed sp__law_cell sp__law_tied sp__law_draws) := by
  intro f cdv A outer s H E hr
  have S := sc__law_grown
  exact (pss_cons (ps_asg (pe_callC c__law_draws hr (by decide) (by rfl) (pa_cons (pe_callC c__law_cell hr (by decide) (by rfl) (pa_cons (pv 0) (pa_cons (pv 1) pa_nil))) (pa_cons (pe_lst (pa_cons pe_int (pa_cons pe_int (pa_cons pe_int pa_nil)))) pa_nil))) (pg_unl (by rfl) (pgs_cons (pg_name (i := 3) S.nd rfl (by first | exact Or.inl rfl | exact Or.inr rfl)) (pgs_cons (pg_name (i := 4) S.nd rfl (by first | exact Or.inl rfl | exact Or.inr rfl)) (pgs_cons (pg_name (i := 5) S.nd rfl (by first | exact Or.inl rfl | exact Or.inr rfl)) pgs_nil)))))
    (pss_cons (ps_set (i := 6) S.nd rfl (by first | exact Or.inl rfl | exact Or.inr rfl) (pe_callC c__law_draws hr (by decide) (by rfl) (pa_cons (pe_callC c__law_cell hr (by decide) (by rfl) (pa_cons (pv 0) (pa_cons (pe_op op_addI (pv 1) pe_int) pa_nil))) (pa_cons (pe_op op_rep (pe_lst (pa_cons pe_int (pa_cons pe_int pa_nil))) (pv 3)) pa_nil))))
    (pss_cons (ps_set (i := 4) S.nd rfl (by first | exact Or.inl rfl | exact Or.inr rfl) (pe_op op_addI (pv 4) (pe_op op_mulI pe_int (pv 2))))
    (pss_cons (ps_set (i := 7) S.nd rfl (by first | exact Or.inl rfl | exact Or.inr rfl) (pe_callC c__law_draws hr (by decide) (by rfl) (pa_cons (pe_callC c__law_cell hr (by decide) (by rfl) (pa_cons (pv 0) (pa_cons (pe_op op_addI (pv 1) pe_int) pa_nil))) (pa_cons (pe_op op_rep (pe_lst (pa_cons pe_int (pa_cons pe_int pa_nil))) (pv 4)) pa_nil))))
    (pss_cons (ps_set (i := 8) S.nd rfl (by first | exact Or.inl rfl | exact Or.inr rfl) (pe_lst (pa_cons (pe_lst pa_nil) pa_nil)))
    (pss_cons (ps_for PassesOwn.never (by rfl) (pi_range1 (by rfl) T.range (pa_cons (pv 3) pa_nil)) (pg_name (i := 9) S.nd rfl (by first | exact Or.inl rfl | exact Or.inr rfl)) (pss_cons (ps_set (i := 10) S.nd rfl (by first | exact Or.inl rfl | exact Or.inr rfl) (pe_ix ix_list (pv 8) (pe_op op_modI (pe_ix ix_list (pv 6) (pe_op op_mulI pe_int (pv 9)) (fun _ _ => rfl)) (pe_callB cr_lenS (by rfl) T.len (by decide +kernel) (pa_cons (pv 8) pa_nil))) (fun _ _ => rfl)))
    (pss_cons (ps_expr (pe_bm PySem.F.plainAttrs_list PySem.F.slot_list_insert PySem.F.type_list_insert mt_insertI (pv 10) (pa_cons (pe_op op_modI (pe_ix ix_list (pv 6) (pe_op op_addI (pe_op op_mulI pe_int (pv 9)) pe_int) (fun _ _ => rfl)) (pe_op op_addI (pe_callB cr_lenS (by rfl) T.len (by decide +kernel) (pa_cons (pv 10) pa_nil)) pe_int)) (pa_cons (pe_op op_mulI pe_int (pv 9)) pa_nil))))
    (pss_one (ps_expr (pe_bm PySem.F.plainAttrs_list PySem.F.slot_list_append PySem.F.type_list_append mt_append (pv 8) (pa_cons (pe_lst (pa_cons (pe_op op_addI (pe_op op_mulI pe_int (pv 9)) pe_int) pa_nil)) pa_nil)))))))
    (pss_cons (ps_for PassesOwn.never (by rfl) (pi_range1 (by rfl) T.range (pa_cons (pv 4) pa_nil)) (pg_name (i := 9) S.nd rfl (by first | exact Or.inl rfl | exact Or.inr rfl)) (pss_cons (ps_set (i := 11) S.nd rfl (by first | exact Or.inl rfl | exact Or.inr rfl) (pe_and (pe_cmpR op_eq (pv 2) pe_int (nomark _)) (pe_one (pe_cmpR op_eq (pv 9) (pe_op op_addI pe_int (pe_op op_modI (pv 5) (pe_callB (cr_maxI (by rfl)) (by rfl) T.max (by decide +kernel) (pa_cons pe_int (pa_cons (pe_op op_subI (pv 4) pe_int) pa_nil))))) (nomark _)))))
    (pss_one (ps_expr (pe_callC c__law_tied hr (by decide) (by rfl) (pa_cons (pv 8) (pa_cons (pe_op op_addI (pv 3) (pv 9)) (pa_cons (pe_ix ix_list (pv 7) (pe_op op_mulI pe_int (pv 9)) (fun _ _ => rfl)) (pa_cons (pe_ix ix_list (pv 7) (pe_op op_addI (pe_op op_mulI pe_int (pv 9)) pe_int) (fun _ _ => rfl)) (pa_cons (pv 11) pa_nil))))))))))
    (pss_one (ps_ret (pe_callC c__law_renamed hr (by decide) (by rfl) (pa_cons (pv 8) (pa_cons (pe_op op_addI (pv 3) (pv 4)) (pa_cons (pe_callC c__law_cell hr (by decide) (by rfl) (pa_cons (pv 0) (pa_cons (pe_op op_addI (pv 1) pe_int) pa_nil))) pa_nil)))))))))))))
abbrev s__law_kind : Stmt := topS 54
theorem sc__law_kind : FnScope N__law_kind ps__law_kind (defScope s__law_kind) := ⟨rfl, rfl, rfl, by decide +kernel, rfl, by decide +kernel, by decide +kernel⟩
theorem b__law_kind {f : Addr} {fd : FuncData} (F : Fun K "_law_kind" "_law_kind" s__law_kind f fd) : Binds K fd ps__law_kind [] := F.binds fun _ _ _ _ _ _ us hl => match us, hl with | [_, _, _, _], _ => rfl
theorem d__law_kind (T : Bl mg) {sp__law_settled : Sp} (c__law_settled : Callee P w K mg base "_law_settled" 1 ps__law_settled sp__law_settled) : Der P w K mg base 1 N__law_kind "_law_kind" s__law_kind (t__law_kind K sp__law_settled) := by
  intro f cdv A outer s H E hr
  have S := sc__law_kind
  exact (pss_cons (ps_set (i := 4) S.nd rfl (by first | exact Or.inl rfl | exact Or.inr rfl) (pe_lst pa_nil))
    (pss_cons (ps_for PassesOwn.never (by rfl) (pi_range1 (by rfl) T.range (pa_cons (pv 1) pa_nil)) (pg_name (i := 5) S.nd rfl (by first | exact Or.inl rfl | exact Or.inr rfl)) (pss_one (ps_for PassesOwn.never (by rfl) (pi_range1 (by rfl) T.range (pa_cons (pv 2) pa_nil)) (pg_name (i := 6) S.nd rfl (by first | exact Or.inl rfl | exact Or.inr rfl)) (pss_cons (ps_set (i := 7) S.nd rfl (by first | exact Or.inl rfl | exact Or.inr rfl) (pe_op op_addI (pe_op op_mulI (pv 5) (pv 2)) (pv 6)))
    (pss_cons (ps_set (i := 8) S.nd rfl (by first | exact Or.inl rfl | exact Or.inr rfl) (pe_op op_addI (pe_op op_mulI (pv 5) (pv 2)) (pe_op op_modI (pe_op op_subI (pv 6) pe_int) (pv 2))))
    (pss_cons (ps_set (i := 9) S.nd rfl (by first | exact Or.inl rfl | exact Or.inr rfl) (pe_op op_subI (pv 7) (pv 2)))
    (pss_cons (ps_set (i := 10) S.nd rfl (by first | exact Or.inl rfl | exact Or.inr rfl) (pe_op op_subI (pv 8) (pv 2)))
    (pss_cons (ps_if (pt_cmpR op_eq (pv 5) pe_int (nomark _)) (pss_cons (ps_set (i := 9) S.nd rfl (by first | exact Or.inl rfl | exact Or.inr rfl) (pe_op op_addI (pe_op op_mulI (pe_op op_subI (pv 1) pe_int) (pv 2)) (pe_op op_modI (pe_op op_subI (pv 6) (pv 3)) (pv 2))))
    (pss_one (ps_set (i := 10) S.nd rfl (by first | exact Or.inl rfl | exact Or.inr rfl) (pe_op op_addI (pe_op op_mulI (pe_op op_subI (pv 1) pe_int) (pv 2)) (pe_op op_modI (pe_op op_subI (pe_op op_subI (pv 6) pe_int) (pv 3)) (pv 2)))))) pss_nil)
    (pss_one (ps_if (pt_cmpR op_eq (pv 0) pe_str (nomark _)) (pss_one (ps_expr (pe_bm PySem.F.plainAttrs_list PySem.F.slot_list_append PySem.F.type_list_append mt_append (pv 4) (pa_cons (pe_lst (pa_cons (pe_op op_addI (pe_op op_mulI pe_int (pv 7)) pe_int) (pa_cons (pe_op op_mulI pe_int (pv 7)) (pa_cons (pe_op op_addI (pe_op op_mulI pe_int (pv 9)) pe_int) (pa_cons (pe_op op_addI (pe_op op_mulI pe_int (pv 8)) pe_int) pa_nil))))) pa_nil)))) (pss_cons (ps_set (i := 11) S.nd rfl (by first | exact Or.inl rfl | exact Or.inr rfl) (pe_lst (pa_cons (pe_op op_addI (pe_op op_mulI pe_int (pv 7)) pe_int) (pa_cons (pe_op op_addI (pe_op op_mulI pe_int (pv 7)) pe_int) (pa_cons (pe_op op_mulI pe_int (pv 7)) pa_nil)))))
    (pss_one (ps_expr (pe_bm PySem.F.plainAttrs_list PySem.F.slot_list_append PySem.F.type_list_append mt_append (pv 4) (pa_cons (pe_op op_cat (pv 11) (pe_lst (pa_cons (pe_op op_addI (pe_op op_mulI pe_int (pv 9)) pe_int) (pa_cons (pe_op op_addI (pe_op op_mulI pe_int (pv 10)) pe_int) (pa_cons (pe_op op_addI (pe_op op_mulI pe_int (pv 8)) pe_int) pa_nil))))) pa_nil)))))))))))))))
    (pss_one (ps_ret (pe_callC c__law_settled hr (by decide) (by rfl) (pa_cons (pv 4) pa_nil))))))
abbrev s__law_numbers : Stmt := topS 55
theorem sc__law_numbers : FnScope N__law_numbers ps__law_numbers (defScope s__law_numbers) := ⟨rfl, rfl, rfl, by decide +kernel, rfl, by decide +kernel, by decide +kernel⟩
theorem b__law_numbers {f : Addr} {fd : FuncData} (F : Fun K "_law_numbers" "_law_numbers" s__law_numbers f fd) : Binds K fd ps__law_numbers [] := F.binds fun _ _ _ _ _ _ us hl => match us, hl with | [_, _], _ => rfl
theorem d__law_numbers (T : Bl mg) {sp__law_draws : Sp} (c__law_draws : Callee P w K mg base "_law_draws" 1 ps__law_draws sp__law_draws) : Der P w K mg base 1 N__law_numbers "_law_numbers" s__law_numbers (t__law_numbers K sp__law_draws) := by
  intro f cdv A outer s H E hr
  have S := sc__law_numbers
  exact (pss_cons (ps_asg (pe_callC c__law_draws hr (by decide) (by rfl) (pa_cons (pv 0) (pa_cons (pe_lst (pa_cons pe_int (pa_cons pe_int (pa_cons pe_int (pa_cons pe_int pa_nil))))) pa_nil))) (pg_unl (by rfl) (pgs_cons (pg_name (i := 2) S.nd rfl (by first | exact Or.inl rfl | exact Or.inr rfl)) (pgs_cons (pg_name (i := 3) S.nd rfl (by first | exact Or.inl rfl | exact Or.inr rfl)) (pgs_cons (pg_name (i := 4) S.nd rfl (by first | exact Or.inl rfl | exact Or.inr rfl)) (pgs_cons (pg_name (i := 5) S.nd rfl (by first | exact Or.inl rfl | exact Or.inr rfl)) pgs_nil))))))
    (pss_cons (ps_set (i := 6) S.nd rfl (by first | exact Or.inl rfl | exact Or.inr rfl) (pe_op op_addI pe_int (pv 2)))
    (pss_cons (ps_if (pt_cmpR op_eq (pv 2) pe_int (nomark _)) (pss_one (ps_set (i := 6) S.nd rfl (by first | exact Or.inl rfl | exact Or.inr rfl) (pe_op op_addI pe_int (pe_op op_modI (pv 3) (pv 1))))) pss_nil)
    (pss_cons (ps_set (i := 7) S.nd rfl (by first | exact Or.inl rfl | exact Or.inr rfl) (pe_op op_addI pe_int (pe_op op_modI (pv 4) (pe_callB (cr_maxI (by rfl)) (by rfl) T.max (by decide +kernel) (pa_cons pe_int (pa_cons (pe_op op_divI (pv 1) (pv 6)) pa_nil))))))
    (pss_one (ps_ret (pe_tup (pa_cons (pv 6) (pa_cons (pv 7) (pa_cons (pe_op op_modI (pv 5) (pv 7)) pa_nil))))))))))
abbrev s__law_some : Stmt := topS 56
theorem sc__law_some : FnScope N__law_some ps__law_some (defScope s__law_some) := ⟨rfl, rfl, rfl, by decide +kernel, rfl, by decide +kernel, by decide +kernel⟩
theorem b__law_some {f : Addr} {fd : FuncData} (F : Fun K "_law_some" "_law_some" s__law_some f fd) : Binds K fd ps__law_some [] := F.binds fun _ _ _ _ _ _ us hl => match us, hl with | [_, _], _ => rfl
theorem d__law_some (T : Bl mg) {sp__law_renamed : Sp} {sp__law_cell : Sp} {sp__law_kind : Sp} {sp__law_numbers : Sp} {sp__law_grown : Sp} (c__law_renamed : Callee P w K mg base "_law_renamed" 2 ps__law_renamed sp__law_renamed) (c__law_cell : Callee P w K mg base "_law_cell" 1 ps__law_cell sp__law_cell) (c__law_kind : Callee P w K mg base "_law_kind" 2 ps__law_kind sp__law_kind) (c__law_numbers : Callee P w K mg base "_law_numbers" 2 ps__law_numbers sp__law_numbers) (c__law_grown : Callee P w K mg base "_law_grown" 4 ps__law_grown sp__law_grown) : Der P w K mg base 4 N__law_some "_law_some" s__law_some (t__law_some K sp__law_renamed sp__law_cell sp__law_kind sp__law_numbers sp__law_grown) := by
  intro f cdv A outer s H E hr
  have S := sc__law_some
  exact (pss_cons (ps_if (pt_cmpR op_ltI (pv 1) pe_int (nomark _)) pss_never pss_nil)
    (pss_cons (ps_if (pt_cmpR op_ltI (pv 1) pe_int (nomark _)) (pss_one (ps_ret (pe_callC c__law_grown hr (by decide) (by rfl) (pa_cons (pv 0) (pa_cons pe_int (pa_cons (pe_op op_subI (pe_op op_divI (pv 1) pe_int) pe_int) pa_nil)))))) pss_nil)
    (pss_cons (ps_set (i := 2) S.nd rfl (by first | exact Or.inl rfl | exact Or.inr rfl) (pe_callC c__law_numbers hr (by decide) (by rfl) (pa_cons (pe_callC c__law_cell hr (by decide) (by rfl) (pa_cons (pv 0) (pa_cons pe_int pa_nil))) (pa_cons pe_int pa_nil))))
    (pss_cons (ps_set (i := 3) S.nd rfl (by first | exact Or.inl rfl | exact Or.inr rfl) (pe_callC c__law_kind hr (by decide) (by rfl) (pa_cons (pe_ix ix_list (pe_lst (pa_cons pe_str (pa_cons pe_str pa_nil))) (pe_op op_subI (pv 1) pe_int) (fun _ _ => rfl)) (pa_cons (pe_ix ix_tup (pv 2) pe_int (fun _ _ => rfl)) (pa_cons (pe_ix ix_tup (pv 2) pe_int (fun _ _ => rfl)) (pa_cons (pe_ix ix_tup (pv 2) pe_int (fun _ _ => rfl)) pa_nil))))))
    (pss_one (ps_ret (pe_callC c__law_renamed hr (by decide) (by rfl) (pa_cons (pv 3) (pa_cons (pe_op op_mulI (pe_op op_subI (pv 1) pe_int) (pe_callB cr_lenS (by rfl) T.len (by decide +kernel) (pa_cons (pv 3) pa_nil))) (pa_cons (pe_callC c__law_cell hr (by decide) (by rfl) (pa_cons (pv 0) (pa_cons pe_int pa_nil))) pa_nil))))))))))
abbrev s__law_core : Stmt := topS 57
theorem sc__law_core : FnScope N__law_core ps__law_core (defScope s__law_core) := ⟨rfl, rfl, rfl, by decide +kernel, rfl, by decide +kernel, by decide +kernel⟩
theorem b__law_core {f : Addr} {fd : FuncData} (F : Fun K "_law_core" "_law_core" s__law_core f fd) : Binds K fd ps__law_core [] := F.binds fun _ _ _ _ _ _ us hl => match us, hl with | [_], _ => rfl
theorem d__law_core (T : Bl mg) {sp__law_mate : Sp} (c__law_mate : Callee P w K mg base "_law_mate" 1 ps__law_mate sp__law_mate) : Der P w K mg base 1 N__law_core "_law_core" s__law_core (t__law_core K sp__law_mate) := by
  intro f cdv A outer s H E hr
  have S := sc__law_core
  exact (pss_cons (ps_set (i := 1) S.nd rfl (by first | exact Or.inl rfl | exact Or.inr rfl) pe_dnewK)
    (pss_cons (ps_for PassesOwn.never (by rfl) (pi_list (pv 0)) (pg_name (i := 2) S.nd rfl (by first | exact Or.inl rfl | exact Or.inr rfl)) (pss_one (ps_for PassesOwn.never (by rfl) (pi_list (pv 2)) (pg_name (i := 3) S.nd rfl (by first | exact Or.inl rfl | exact Or.inr rfl)) (pss_one (ps_dput (hu_of hr) (pv 1) (pv 3) pe_bl rfl)))))
    (pss_cons (ps_set (i := 4) S.nd rfl (by first | exact Or.inl rfl | exact Or.inr rfl) pe_bl)
    (pss_cons (ps_while PassesOwn.never (pt_val (pv 4)) (pss_cons (ps_set (i := 4) S.nd rfl (by first | exact Or.inl rfl | exact Or.inr rfl) pe_bl)
    (pss_one (ps_for PassesOwn.never (by rfl) (pi_list (pv 0)) (pg_name (i := 2) S.nd rfl (by first | exact Or.inl rfl | exact Or.inr rfl)) (pss_cons (ps_setLc (i := 5) (own := [("_law_end", 3)]) (g := (gName 3)) (tt := (tB (tDGet (tVar 1) (tVar 3)))) (by rfl) S.nd rfl rfl (sw_true rfl rfl rfl (by decide +kernel)) (pi_list (pv 2)) (blkOk_by (N := N__law_core) (sc := defScope s__law_core) (by decide +kernel)) (fun _ _ _ _ _ => (pg_name (i := 3) S.nd rfl (by first | exact Or.inl rfl | exact Or.inr rfl))) (fun _ _ _ _ _ => (pts_one (pt_val (pe_dget (hu_of hr) (pv 1) (pv 3) (fun _ _ => rfl))))) (fun _ _ _ _ _ => (pv 3)))
    (pss_one (ps_if (pt_cmpR op_eq (pe_callB cr_lenS (by rfl) T.len (by decide +kernel) (pa_cons (pv 5) pa_nil)) pe_int (nomark _)) (pss_cons (ps_dput (hu_of hr) (pv 1) (pe_ix ix_list (pv 5) pe_int (fun _ _ => rfl)) pe_bl rfl)
    (pss_cons (ps_dput (hu_of hr) (pv 1) (pe_callC c__law_mate hr (by decide) (by rfl) (pa_cons (pe_ix ix_list (pv 5) pe_int (fun _ _ => rfl)) pa_nil)) pe_bl rfl)
    (pss_one (ps_set (i := 4) S.nd rfl (by first | exact Or.inl rfl | exact Or.inr rfl) pe_bl)))) pss_nil)))))))
    (pss_one (ps_ret (pv 1)))))))
abbrev s__law_turn : Stmt := topS 58
theorem sc__law_turn : FnScope N__law_turn ps__law_turn (defScope s__law_turn) := ⟨rfl, rfl, rfl, by decide +kernel, rfl, by decide +kernel, by decide +kernel⟩
theorem b__law_turn {f : Addr} {fd : FuncData} (F : Fun K "_law_turn" "_law_turn" s__law_turn f fd) : Binds K fd ps__law_turn [] := F.binds fun _ _ _ _ _ _ us hl => match us, hl with | [_, _], _ => rfl
theorem d__law_turn (T : Bl mg) {sp__law_mate : Sp} {sp__law_draws : Sp} {sp__law_seats : Sp} {sp__law_core : Sp} (c__law_mate : Callee P w K mg base "_law_mate" 1 ps__law_mate sp__law_mate) (c__law_draws : Callee P w K mg base "_law_draws" 1 ps__law_draws sp__law_draws) (c__law_seats : Callee P w K mg base "_law_seats" 1 ps__law_seats sp__law_seats) (c__law_core : Callee P w K mg base "_law_core" 2 ps__law_core sp__law_core) : Der P w K mg base 2 N__law_turn "_law_turn" s__law_turn (t__law_turn K sp__law_mate sp__law_draws sp__law_seats sp__law_core) := by
  intro f cdv A outer s H E hr
  have S := sc__law_turn
  exact (pss_cons (ps_set (i := 2) S.nd rfl (by first | exact Or.inl rfl | exact Or.inr rfl) (pe_callC c__law_core hr (by decide) (by rfl) (pa_cons (pv 0) pa_nil)))
    (pss_cons (ps_setLc (i := 3) (own := [("_law_end", 4)]) (g := (gName 4)) (tt := (tB (tDGet (tVar 2) (tVar 4)))) (by rfl) S.nd rfl rfl (sw_true rfl rfl rfl (by decide +kernel)) (pi_list (pe_callB (cr_sortD (by rfl)) (by rfl) T.sorted (by decide +kernel) (pa_cons (pv 2) pa_nil))) (blkOk_by (N := N__law_turn) (sc := defScope s__law_turn) (by decide +kernel)) (fun _ _ _ _ _ => (pg_name (i := 4) S.nd rfl (by first | exact Or.inl rfl | exact Or.inr rfl))) (fun _ _ _ _ _ => (pts_one (pt_val (pe_dget (hu_of hr) (pv 2) (pv 4) (fun _ _ => rfl))))) (fun _ _ _ _ _ => (pv 4)))
    (pss_cons (ps_if (pt_cmpR op_eq (pe_callB cr_lenS (by rfl) T.len (by decide +kernel) (pa_cons (pv 3) pa_nil)) pe_int (nomark _)) (pss_one (ps_ret (pe_lst pa_nil))) pss_nil)
    (pss_cons (ps_set (i := 5) S.nd rfl (by first | exact Or.inl rfl | exact Or.inr rfl) (pe_callC c__law_seats hr (by decide) (by rfl) (pa_cons (pv 0) pa_nil)))
    (pss_cons (ps_set (i := 6) S.nd rfl (by first | exact Or.inl rfl | exact Or.inr rfl) (pe_callC c__law_draws hr (by decide) (by rfl) (pa_cons (pv 1) (pa_cons (pe_op op_cat (pe_lst (pa_cons (pe_callB cr_lenS (by rfl) T.len (by decide +kernel) (pa_cons (pv 3) pa_nil)) pa_nil)) (pe_op op_rep (pe_lst (pa_cons pe_int pa_nil)) (pe_op op_addI (pe_callB cr_lenS (by rfl) T.len (by decide +kernel) (pa_cons (pv 0) pa_nil)) pe_int))) pa_nil))))
    (pss_cons (ps_set (i := 7) S.nd rfl (by first | exact Or.inl rfl | exact Or.inr rfl) (pe_lst (pa_cons (pe_ix ix_list (pv 3) (pe_ix ix_list (pv 6) pe_int (fun _ _ => rfl)) (fun _ _ => rfl)) pa_nil)))
    (pss_cons (ps_for PassesOwn.never (by rfl) (pi_range1 (by rfl) T.range (pa_cons (pe_op op_addI (pe_callB cr_lenS (by rfl) T.len (by decide +kernel) (pa_cons (pv 0) pa_nil)) pe_int) pa_nil)) (pg_name (i := 8) S.nd rfl (by first | exact Or.inl rfl | exact Or.inr rfl)) (pss_cons (ps_set (i := 9) S.nd rfl (by first | exact Or.inl rfl | exact Or.inr rfl) (pe_dget (hu_of hr) (pv 5) (pe_callC c__law_mate hr (by decide) (by rfl) (pa_cons (pe_ix ix_list (pv 7) (pe_un un_negI pe_int) (fun _ _ => rfl)) pa_nil)) (fun _ _ => rfl)))
    (pss_cons (ps_for PassesOwn.never (by rfl) (pi_range1 (by rfl) T.range (pa_cons (pe_callB cr_lenS (by rfl) T.len (by decide +kernel) (pa_cons (pv 7) pa_nil)) pa_nil)) (pg_name (i := 10) S.nd rfl (by first | exact Or.inl rfl | exact Or.inr rfl)) (pss_one (ps_if (pt_cmpR op_eq (pe_dget (hu_of hr) (pv 5) (pe_ix ix_list (pv 7) (pv 10) (fun _ _ => rfl)) (fun _ _ => rfl)) (pv 9) (nomark _)) (pss_one (ps_ret (pe_slice sl_list (pv 7) (po_some (pv 10)) po_none))) pss_nil)))
    (pss_cons (ps_setLc (i := 11) (own := [("_law_end", 4)]) (g := (gName 4)) (tt := (tAnd (tB (tDGet (tVar 2) (tVar 4))) (tTest (tOp rNe (tVar 4) (tCall sp__law_mate [] E0 (tCons (tOp (rIxL K) (tVar 7) (tUn rNegI (tC (.int 1)))) tNil)))))) (by rfl) S.nd rfl rfl (sw_true rfl rfl rfl (by decide +kernel)) (pi_list (pe_ix ix_list (pv 0) (pv 9) (fun _ _ => rfl))) (blkOk_by (N := N__law_turn) (sc := defScope s__law_turn) (by decide +kernel)) (fun _ _ _ _ _ => (pg_name (i := 4) S.nd rfl (by first | exact Or.inl rfl | exact Or.inr rfl))) (fun _ _ _ _ _ => (pts_one (PW.pt (pw_and (pt_val (pe_dget (hu_of hr) (pv 2) (pv 4) (fun _ _ => rfl))) (pw_and1 (pt_cmpR op_ne (pv 4) (pe_callC c__law_mate hr (by decide) (by rfl) (pa_cons (pe_ix ix_list (pv 7) (pe_un un_negI pe_int) (fun _ _ => rfl)) pa_nil)) (nomark _))))))) (fun _ _ _ _ _ => (pv 4)))
    (pss_one (ps_expr (pe_bm PySem.F.plainAttrs_list PySem.F.slot_list_append PySem.F.type_list_append mt_append (pv 7) (pa_cons (pe_ix ix_list (pv 11) (pe_op op_modI (pe_ix ix_list (pv 6) (pe_op op_addI (pv 8) pe_int) (fun _ _ => rfl)) (pe_callB cr_lenS (by rfl) T.len (by decide +kernel) (pa_cons (pv 11) pa_nil))) (fun _ _ => rfl)) pa_nil))))))))
    (pss_one (ps_ret (pe_lst pa_nil))))))))))
abbrev s__law_parted : Stmt := topS 59
theorem sc__law_parted : FnScope N__law_parted ps__law_parted (defScope s__law_parted) := ⟨rfl, rfl, rfl, by decide +kernel, rfl, by decide +kernel, by decide +kernel⟩
theorem b__law_parted {f : Addr} {fd : FuncData} (F : Fun K "_law_parted" "_law_parted" s__law_parted f fd) : Binds K fd ps__law_parted [] := F.binds fun _ _ _ _ _ _ us hl => match us, hl with | [_, _], _ => rfl
theorem d__law_parted (T : Bl mg) {sp__law_mate : Sp} {sp__law_lands : Sp} (c__law_mate : Callee P w K mg base "_law_mate" 1 ps__law_mate sp__law_mate) (c__law_lands : Callee P w K mg base "_law_lands" 2 ps__law_lands sp__law_lands) : Der P w K mg base 2 N__law_parted "_law_parted" s__law_parted (t__law_parted K sp__law_mate sp__law_lands) := by
  intro f cdv A outer s H E hr
  have S := sc__law_parted
  exact (pss_cons (ps_set (i := 2) S.nd rfl (by first | exact Or.inl rfl | exact Or.inr rfl) (pe_callC c__law_lands hr (by decide) (by rfl) (pa_cons (pv 0) pa_nil)))
    (pss_cons (ps_set (i := 3) S.nd rfl (by first | exact Or.inl rfl | exact Or.inr rfl) pe_dnewK)
    (pss_cons (ps_for PassesOwn.never (by rfl) (pi_range1 (by rfl) T.range (pa_cons (pe_callB cr_lenS (by rfl) T.len (by decide +kernel) (pa_cons (pv 2) pa_nil)) pa_nil)) (pg_name (i := 4) S.nd rfl (by first | exact Or.inl rfl | exact Or.inr rfl)) (pss_one (ps_for PassesOwn.never (by rfl) (pi_list (pe_ix ix_list (pv 2) (pv 4) (fun _ _ => rfl))) (pg_name (i := 5) S.nd rfl (by first | exact Or.inl rfl | exact Or.inr rfl)) (pss_one (ps_dput (hu_of hr) (pv 3) (pv 5) (pv 4) rfl)))))
    (pss_cons (ps_setLc (i := 6) (own := [("_law_end", 5)]) (g := (gName 5)) (tt := tYes) (by rfl) S.nd rfl rfl (sw_true rfl rfl rfl (by decide +kernel)) (pi_list (pv 1)) (blkOk_by (N := N__law_parted) (sc := defScope s__law_parted) (by decide +kernel)) (fun _ _ _ _ _ => (pg_name (i := 5) S.nd rfl (by first | exact Or.inl rfl | exact Or.inr rfl))) (fun _ _ _ _ _ => pts_nil) (fun _ _ _ _ _ => (pe_op op_divI (pv 5) pe_int)))
    (pss_cons (ps_set (i := 7) S.nd rfl (by first | exact Or.inl rfl | exact Or.inr rfl) (pe_disp (pps_cons (pe_dget (hu_of hr) (pv 3) (pe_ix ix_list (pv 1) pe_int (fun _ _ => rfl)) (fun _ _ => rfl)) pe_bl pps_nil) (by rfl) (by rfl) (fun z => by cases z) (by decide)))
    (pss_cons (ps_set (i := 8) S.nd rfl (by first | exact Or.inl rfl | exact Or.inr rfl) (pe_lst (pa_cons (pe_dget (hu_of hr) (pv 3) (pe_ix ix_list (pv 1) pe_int (fun _ _ => rfl)) (fun _ _ => rfl)) pa_nil)))
    (pss_cons (ps_while PassesOwn.never (pt_cmpR op_gtI (pe_callB cr_lenS (by rfl) T.len (by decide +kernel) (pa_cons (pv 8) pa_nil)) pe_int (nomark _)) (pss_one (ps_for PassesOwn.never (by rfl) (pi_list (pe_ix ix_list (pv 2) (pe_bm0 PySem.F.plainAttrs_list PySem.F.slot_list_pop PySem.F.type_list_pop mt_pop (pv 8)) (fun _ _ => rfl))) (pg_name (i := 5) S.nd rfl (by first | exact Or.inl rfl | exact Or.inr rfl)) (pss_cons (ps_set (i := 9) S.nd rfl (by first | exact Or.inl rfl | exact Or.inr rfl) (pe_dget (hu_of hr) (pv 3) (pe_callC c__law_mate hr (by decide) (by rfl) (pa_cons (pv 5) pa_nil)) (fun _ _ => rfl)))
    (pss_one (ps_if (PW.pt (pw_and (pt_cmpR op_notIn_seq (pe_op op_divI (pv 5) pe_int) (pv 6) (by rfl)) (pw_and1 (pt_cmp (pc_dnotin (hu_of hr) (pv 9) (pv 7)))))) (pss_cons (ps_dput (hu_of hr) (pv 7) (pv 9) pe_bl rfl)
    (pss_one (ps_expr (pe_bm PySem.F.plainAttrs_list PySem.F.slot_list_append PySem.F.type_list_append mt_append (pv 8) (pa_cons (pv 9) pa_nil))))) pss_nil))))))
    (pss_one (ps_ret (pe_cmp (pc_dnotin (hu_of hr) (pe_dget (hu_of hr) (pv 3) (pe_callC c__law_mate hr (by decide) (by rfl) (pa_cons (pe_ix ix_list (pv 1) pe_int (fun _ _ => rfl)) pa_nil)) (fun _ _ => rfl)) (pv 7))))))))))))
abbrev s__law_mark : Stmt := topS 60
theorem sc__law_mark : FnScope N__law_mark ps__law_mark (defScope s__law_mark) := ⟨rfl, rfl, rfl, by decide +kernel, rfl, by decide +kernel, by decide +kernel⟩
theorem b__law_mark {f : Addr} {fd : FuncData} (F : Fun K "_law_mark" "_law_mark" s__law_mark f fd) : Binds K fd ps__law_mark [] := F.binds fun _ _ _ _ _ _ us hl => match us, hl with | [_, _], _ => rfl
theorem d__law_mark (T : Bl mg) : Der P w K mg base 0 N__law_mark "_law_mark" s__law_mark (t__law_mark K) := by
  intro f cdv A outer s H E hr
  have S := sc__law_mark
  exact (pss_cons (ps_asg (pe_ix ix_list (pv 0) (pe_op op_divI (pv 1) pe_int) (fun _ _ => rfl)) (pg_tup (by rfl) (pgs_cons (pg_name (i := 2) S.nd rfl (by first | exact Or.inl rfl | exact Or.inr rfl)) (pgs_cons (pg_name (i := 3) S.nd rfl (by first | exact Or.inl rfl | exact Or.inr rfl)) pgs_nil))))
    (pss_cons (ps_if (pt_cmpR op_eq (pe_op op_modI (pv 1) pe_int) pe_int (nomark _)) (pss_one (ps_ret (pe_tup (pa_cons (pe_un un_negI (pv 2)) (pa_cons (pe_un un_negI (pv 3)) pa_nil))))) pss_nil)
    (pss_one (ps_ret (pe_tup (pa_cons (pv 2) (pa_cons (pv 3) pa_nil)))))))
abbrev s__law_sums : Stmt := topS 61
theorem sc__law_sums : FnScope N__law_sums ps__law_sums (defScope s__law_sums) := ⟨rfl, rfl, rfl, by decide +kernel, rfl, by decide +kernel, by decide +kernel⟩
theorem b__law_sums {f : Addr} {fd : FuncData} (F : Fun K "_law_sums" "_law_sums" s__law_sums f fd) : Binds K fd ps__law_sums [] := F.binds fun _ _ _ _ _ _ us hl => match us, hl with | [_, _], _ => rfl
theorem d__law_sums (T : Bl mg) {sp__law_mark : Sp} (c__law_mark : Callee P w K mg base "_law_mark" 1 ps__law_mark sp__law_mark) : Der P w K mg base 1 N__law_sums "_law_sums" s__law_sums (t__law_sums K sp__law_mark) := by
  intro f cdv A outer s H E hr
  have S := sc__law_sums
  exact (pss_cons (ps_set (i := 2) S.nd rfl (by first | exact Or.inl rfl | exact Or.inr rfl) (pe_callB (cr_sum (by rfl)) (by rfl) T.sum (by decide +kernel) (pa_cons (pe_lc (own := [("_law_end", 3)]) (g := (gName 3)) (tt := tYes) (by rfl) S.nd (pi_list (pv 1)) (blkOk_by (N := N__law_sums) (sc := defScope s__law_sums) (by decide +kernel))  (fun _ _ _ _ _ => (pg_name (i := 3) S.nd rfl (by first | exact Or.inl rfl | exact Or.inr rfl))) (fun _ _ _ _ _ => pts_nil) (fun _ _ _ _ _ => (pe_ix ix_tup (pe_callC c__law_mark hr (by decide) (by rfl) (pa_cons (pv 0) (pa_cons (pv 3) pa_nil))) pe_int (fun _ _ => rfl)))) pa_nil)))
    (pss_cons (ps_set (i := 4) S.nd rfl (by first | exact Or.inl rfl | exact Or.inr rfl) (pe_callB (cr_sum (by rfl)) (by rfl) T.sum (by decide +kernel) (pa_cons (pe_lc (own := [("_law_end", 3)]) (g := (gName 3)) (tt := tYes) (by rfl) S.nd (pi_list (pv 1)) (blkOk_by (N := N__law_sums) (sc := defScope s__law_sums) (by decide +kernel))  (fun _ _ _ _ _ => (pg_name (i := 3) S.nd rfl (by first | exact Or.inl rfl | exact Or.inr rfl))) (fun _ _ _ _ _ => pts_nil) (fun _ _ _ _ _ => (pe_ix ix_tup (pe_callC c__law_mark hr (by decide) (by rfl) (pa_cons (pv 0) (pa_cons (pv 3) pa_nil))) pe_int (fun _ _ => rfl)))) pa_nil)))
    (pss_one (ps_ret (pe_tup (pa_cons (pv 2) (pa_cons (pv 4) pa_nil)))))))
abbrev s__law_rest : Stmt := topS 62
theorem sc__law_rest : FnScope N__law_rest ps__law_rest (defScope s__law_rest) := ⟨rfl, rfl, rfl, by decide +kernel, rfl, by decide +kernel, by decide +kernel⟩
theorem b__law_rest {f : Addr} {fd : FuncData} (F : Fun K "_law_rest" "_law_rest" s__law_rest f fd) : Binds K fd ps__law_rest [] := F.binds fun _ _ _ _ _ _ us hl => match us, hl with | [_, _], _ => rfl
theorem d__law_rest (T : Bl mg) {sp__law_mate : Sp} {sp__law_seats : Sp} (c__law_mate : Callee P w K mg base "_law_mate" 1 ps__law_mate sp__law_mate) (c__law_seats : Callee P w K mg base "_law_seats" 1 ps__law_seats sp__law_seats) : Der P w K mg base 1 N__law_rest "_law_rest" s__law_rest (t__law_rest K sp__law_mate sp__law_seats) := by
  intro f cdv A outer s H E hr
  have S := sc__law_rest
  exact (pss_cons (ps_set (i := 2) S.nd rfl (by first | exact Or.inl rfl | exact Or.inr rfl) (pe_callC c__law_seats hr (by decide) (by rfl) (pa_cons (pv 0) pa_nil)))
    (pss_cons (ps_set (i := 3) S.nd rfl (by first | exact Or.inl rfl | exact Or.inr rfl) (pe_lc (own := [("_law_end", 4)]) (g := (gName 4)) (tt := tYes) (by rfl) S.nd (pi_list (pv 1)) (blkOk_by (N := N__law_rest) (sc := defScope s__law_rest) (by decide +kernel))  (fun _ _ _ _ _ => (pg_name (i := 4) S.nd rfl (by first | exact Or.inl rfl | exact Or.inr rfl))) (fun _ _ _ _ _ => pts_nil) (fun _ _ _ _ _ => (pe_dget (hu_of hr) (pv 2) (pv 4) (fun _ _ => rfl)))))
    (pss_cons (ps_set (i := 5) S.nd rfl (by first | exact Or.inl rfl | exact Or.inr rfl) (pe_lst pa_nil))
    (pss_cons (ps_for PassesOwn.never (by rfl) (pi_range1 (by rfl) T.range (pa_cons (pe_callB cr_lenS (by rfl) T.len (by decide +kernel) (pa_cons (pv 0) pa_nil)) pa_nil)) (pg_name (i := 6) S.nd rfl (by first | exact Or.inl rfl | exact Or.inr rfl)) (pss_cons (ps_set (i := 7) S.nd rfl (by first | exact Or.inl rfl | exact Or.inr rfl) (pe_lst pa_nil))
    (pss_cons (ps_if (pt_cmpR op_notIn_seq (pv 6) (pv 3) (by rfl)) (pss_one (ps_setLc (i := 7) (own := [("_law_end", 4)]) (g := (gName 4)) (tt := (tTest (tOp (rIn K true) (tDGet (tVar 2) (tCall sp__law_mate [] E0 (tCons (tVar 4) tNil))) (tVar 3)))) (by rfl) S.nd rfl rfl (sw_true rfl rfl rfl (by decide +kernel)) (pi_list (pe_ix ix_list (pv 0) (pv 6) (fun _ _ => rfl))) (blkOk_by (N := N__law_rest) (sc := defScope s__law_rest) (by decide +kernel)) (fun _ _ _ _ _ => (pg_name (i := 4) S.nd rfl (by first | exact Or.inl rfl | exact Or.inr rfl))) (fun _ _ _ _ _ => (pts_one (pt_cmpR op_notIn_seq (pe_dget (hu_of hr) (pv 2) (pe_callC c__law_mate hr (by decide) (by rfl) (pa_cons (pv 4) pa_nil)) (fun _ _ => rfl)) (pv 3) (by rfl)))) (fun _ _ _ _ _ => (pv 4)))) pss_nil)
    (pss_one (ps_expr (pe_bm PySem.F.plainAttrs_list PySem.F.slot_list_append PySem.F.type_list_append mt_append (pv 5) (pa_cons (pv 7) pa_nil)))))))
    (pss_one (ps_ret (pv 5)))))))
abbrev s__law_divides : Stmt := topS 63
theorem sc__law_divides : FnScope N__law_divides ps__law_divides (defScope s__law_divides) := ⟨rfl, rfl, rfl, by decide +kernel, rfl, by decide +kernel, by decide +kernel⟩
theorem b__law_divides {f : Addr} {fd : FuncData} (F : Fun K "_law_divides" "_law_divides" s__law_divides f fd) : Binds K fd ps__law_divides [] := F.binds fun _ _ _ _ _ _ us hl => match us, hl with | [_, _], _ => rfl
theorem d__law_divides (T : Bl mg) : Der P w K mg base 0 N__law_divides "_law_divides" s__law_divides (t__law_divides K) := by
  intro f cdv A outer s H E hr
  have S := sc__law_divides
  exact (pss_cons (ps_set (i := 0) S.nd rfl (by first | exact Or.inl rfl | exact Or.inr rfl) (pe_callB cr_absI (by rfl) T.abs (by decide +kernel) (pa_cons (pv 0) pa_nil)))
    (pss_cons (ps_set (i := 1) S.nd rfl (by first | exact Or.inl rfl | exact Or.inr rfl) (pe_callB cr_absI (by rfl) T.abs (by decide +kernel) (pa_cons (pv 1) pa_nil)))
    (pss_cons (ps_while PassesOwn.never (pt_cmpR op_gtI (pv 1) pe_int (nomark _)) (pss_cons (ps_set (i := 2) S.nd rfl (by first | exact Or.inl rfl | exact Or.inr rfl) (pe_op op_modI (pv 0) (pv 1)))
    (pss_cons (ps_set (i := 0) S.nd rfl (by first | exact Or.inl rfl | exact Or.inr rfl) (pv 1))
    (pss_one (ps_set (i := 1) S.nd rfl (by first | exact Or.inl rfl | exact Or.inr rfl) (pv 2))))))
    (pss_one (ps_ret (pv 0))))))
abbrev s__law_one_round : Stmt := topS 64
theorem sc__law_one_round : FnScope N__law_one_round ps__law_one_round (defScope s__law_one_round) := ⟨rfl, rfl, rfl, by decide +kernel, rfl, by decide +kernel, by decide +kernel⟩
theorem b__law_one_round {f : Addr} {fd : FuncData} (F : Fun K "_law_one_round" "_law_one_round" s__law_one_round f fd) : Binds K fd ps__law_one_round [] := F.binds fun _ _ _ _ _ _ us hl => match us, hl with | [_, _, _], _ => rfl
theorem d__law_one_round (T : Bl mg) {sp__law_divides : Sp} {sp_fill_of : Sp} {sp__law_parted : Sp} {sp__law_sums : Sp} (c__law_divides : Callee P w K mg base "_law_divides" 1 ps__law_divides sp__law_divides) (c_fill_of : Callee P w K mg base "fill_of" 5 ps_fill_of sp_fill_of) (c__law_parted : Callee P w K mg base "_law_parted" 3 ps__law_parted sp__law_parted) (c__law_sums : Callee P w K mg base "_law_sums" 2 ps__law_sums sp__law_sums) : Der P w K mg base 5 N__law_one_round "_law_one_round" s__law_one_round (t__law_one_round K sp__law_divides sp_fill_of sp__law_parted sp__law_sums) := by
  intro f cdv A outer s H E hr
  have S := sc__law_one_round
  exact (pss_cons (ps_asg (pe_callC c__law_sums hr (by decide) (by rfl) (pa_cons (pv 2) (pa_cons (pv 1) pa_nil))) (pg_tup (by rfl) (pgs_cons (pg_name (i := 3) S.nd rfl (by first | exact Or.inl rfl | exact Or.inr rfl)) (pgs_cons (pg_name (i := 4) S.nd rfl (by first | exact Or.inl rfl | exact Or.inr rfl)) pgs_nil))))
    (pss_cons (ps_set (i := 5) S.nd rfl (by first | exact Or.inl rfl | exact Or.inr rfl) (pe_callC c__law_parted hr (by decide) (by rfl) (pa_cons (pv 0) (pa_cons (pv 1) pa_nil))))
    (pss_cons (ps_if (PW.pt (pw_or (pt_cmpR op_ne (pv 5) (pe_and (pe_cmpR op_eq (pv 3) pe_int (nomark _)) (pe_one (pe_cmpR op_eq (pv 4) pe_int (nomark _)))) (nomark _)) (pw_or1 (pt_cmpR op_ne (pv 5) (pe_cmpR op_eq (pe_ix ix_tup (pe_callC c_fill_of hr (by decide) (by rfl) (pa_cons (pv 0) (pa_cons (pe_callTy cr_lstS (by rfl) T.list (by decide +kernel) (pa_cons (pv 1) pa_nil)) pa_nil))) pe_int (fun _ _ => rfl)) pe_str (nomark _)) (nomark _))))) (pss_one (ps_ret pe_bl)) pss_nil)
    (pss_one (ps_ret (pe_or (pv 5) (pe_one (pe_cmpR op_eq (pe_callC c__law_divides hr (by decide) (by rfl) (pa_cons (pv 3) (pa_cons (pv 4) pa_nil))) pe_int (nomark _)))))))))
abbrev s_law : Stmt := topS 65
theorem sc_law : FnScope N_law ps_law (defScope s_law) := ⟨rfl, rfl, rfl, by decide +kernel, rfl, by decide +kernel, by decide +kernel⟩
theorem b_law {f : Addr} {fd : FuncData} (F : Fun K "law" "law" s_law f fd) : Binds K fd ps_law [] := F.binds fun _ _ _ _ _ _ us hl => match us, hl with | [_], _ => rfl
theorem d_law (T : Bl mg) {sp__law_seats : Sp} {sp__law_sums : Sp} {sp__law_one_round : Sp} {sp_marks_of : Sp} {sp__law_turn : Sp} {sp__law_cell : Sp} {sp__law_rest : Sp} {sp__law_some : Sp} {sp__law_draws : Sp} (c__law_seats : Callee P w K mg base "_law_seats" 1 ps__law_seats sp__law_seats) (c__law_sums : Callee P w K mg base "_law_sums" 2 ps__law_sums sp__law_sums) (c__law_one_round : Callee P w K mg base "_law_one_round" 6 ps__law_one_round sp__law_one_round) (c_marks_of : Callee P w K mg base "marks_of" 7 ps_marks_of sp_marks_of) (c__law_turn : Callee P w K mg base "_law_turn" 3 ps__law_turn sp__law_turn) (c__law_cell : Callee P w K mg base "_law_cell" 1 ps__law_cell sp__law_cell) (c__law_rest : Callee P w K mg base "_law_rest" 2 ps__law_rest sp__law_rest) (c__law_some : Callee P w K mg base "_law_some" 5 ps__law_some sp__law_some) (c__law_draws : Callee P w K mg base "_law_draws" 1 ps__law_draws sp__law_draws) : Der P w K mg base 7 N_law "law" s_law (t_law K sp__law_seats sp__law_sums sp__law_one_round sp_marks_of sp__law_turn sp__law_cell sp__law_rest sp__law_some sp__law_draws) := by
  intro f cdv A outer s H E hr
  have S := sc_law
  exact (pss_cons (ps_asg (pe_callC c__law_draws hr (by decide) (by rfl) (pa_cons (pe_callC c__law_cell hr (by decide) (by rfl) (pa_cons (pv 0) (pa_cons pe_int pa_nil))) (pa_cons (pe_lst (pa_cons pe_int (pa_cons pe_int pa_nil))) pa_nil))) (pg_unl (by rfl) (pgs_cons (pg_name (i := 1) S.nd rfl (by first | exact Or.inl rfl | exact Or.inr rfl)) (pgs_cons (pg_name (i := 2) S.nd rfl (by first | exact Or.inl rfl | exact Or.inr rfl)) pgs_nil))))
    (pss_cons (ps_set (i := 3) S.nd rfl (by first | exact Or.inl rfl | exact Or.inr rfl) (pe_callC c__law_some hr (by decide) (by rfl) (pa_cons (pv 0) (pa_cons (pe_op op_addI pe_int (pv 1)) pa_nil))))
    (pss_cons (ps_set (i := 4) S.nd rfl (by first | exact Or.inl rfl | exact Or.inr rfl) (pe_callC c__law_turn hr (by decide) (by rfl) (pa_cons (pv 3) (pa_cons (pe_callC c__law_cell hr (by decide) (by rfl) (pa_cons (pv 0) (pa_cons pe_int pa_nil))) pa_nil))))
    (pss_cons (ps_set (i := 5) S.nd rfl (by first | exact Or.inl rfl | exact Or.inr rfl) (pe_callC c__law_turn hr (by decide) (by rfl) (pa_cons (pv 3) (pa_cons (pe_callC c__law_cell hr (by decide) (by rfl) (pa_cons (pv 0) (pa_cons pe_int pa_nil))) pa_nil))))
    (pss_cons (ps_set (i := 6) S.nd rfl (by first | exact Or.inl rfl | exact Or.inr rfl) (pe_callC c__law_turn hr (by decide) (by rfl) (pa_cons (pe_callC c__law_rest hr (by decide) (by rfl) (pa_cons (pv 3) (pa_cons (pv 4) pa_nil))) (pa_cons (pe_callC c__law_cell hr (by decide) (by rfl) (pa_cons (pv 0) (pa_cons pe_int pa_nil))) pa_nil))))
    (pss_cons (ps_if (PW.pt (pw_and (pt_cmpR op_eq (pv 2) pe_int (nomark _)) (pw_and1 (pt_cmpR op_gtI (pe_callB cr_lenS (by rfl) T.len (by decide +kernel) (pa_cons (pv 6) pa_nil)) pe_int (nomark _))))) (pss_one (ps_set (i := 5) S.nd rfl (by first | exact Or.inl rfl | exact Or.inr rfl) (pv 6))) pss_nil)
    (pss_cons (ps_set (i := 7) S.nd rfl (by first | exact Or.inl rfl | exact Or.inr rfl) (pe_callC c_marks_of hr (by decide) (by rfl) (pa_cons (pe_lc (own := [("_law_row", 8)]) (g := (gName 8)) (tt := tYes) (by rfl) S.nd (pi_list (pv 3)) (blkOk_by (N := N_law) (sc := defScope s_law) (by decide +kernel))  (fun _ _ _ _ _ => (pg_name (i := 8) S.nd rfl (by first | exact Or.inl rfl | exact Or.inr rfl))) (fun _ _ _ _ _ => pts_nil) (fun _ _ _ _ _ => (pe_callTy cr_lstS (by rfl) T.list (by decide +kernel) (pa_cons (pv 8) pa_nil)))) pa_nil)))
    (pss_cons (ps_if (PW.pt (pw_or (pt_not (pt_val (pe_callC c__law_one_round hr (by decide) (by rfl) (pa_cons (pv 3) (pa_cons (pv 4) (pa_cons (pv 7) pa_nil)))))) (pw_or1 (pt_not (pt_val (pe_callC c__law_one_round hr (by decide) (by rfl) (pa_cons (pv 3) (pa_cons (pv 5) (pa_cons (pv 7) pa_nil))))))))) (pss_one (ps_ret pe_bl)) pss_nil)
    (pss_cons (ps_asg (pe_callC c__law_sums hr (by decide) (by rfl) (pa_cons (pv 7) (pa_cons (pv 4) pa_nil))) (pg_tup (by rfl) (pgs_cons (pg_name (i := 9) S.nd rfl (by first | exact Or.inl rfl | exact Or.inr rfl)) (pgs_cons (pg_name (i := 10) S.nd rfl (by first | exact Or.inl rfl | exact Or.inr rfl)) pgs_nil))))
    (pss_cons (ps_asg (pe_callC c__law_sums hr (by decide) (by rfl) (pa_cons (pv 7) (pa_cons (pv 5) pa_nil))) (pg_tup (by rfl) (pgs_cons (pg_name (i := 11) S.nd rfl (by first | exact Or.inl rfl | exact Or.inr rfl)) (pgs_cons (pg_name (i := 12) S.nd rfl (by first | exact Or.inl rfl | exact Or.inr rfl)) pgs_nil))))
    (pss_cons (ps_set (i := 13) S.nd rfl (by first | exact Or.inl rfl | exact Or.inr rfl) (pe_callC c__law_seats hr (by decide) (by rfl) (pa_cons (pv 3) pa_nil)))
    (pss_cons (ps_set (i := 14) S.nd rfl (by first | exact Or.inl rfl | exact Or.inr rfl) (pe_lc (own := [("_law_end", 15)]) (g := (gName 15)) (tt := tYes) (by rfl) S.nd (pi_list (pv 4)) (blkOk_by (N := N_law) (sc := defScope s_law) (by decide +kernel))  (fun _ _ _ _ _ => (pg_name (i := 15) S.nd rfl (by first | exact Or.inl rfl | exact Or.inr rfl))) (fun _ _ _ _ _ => pts_nil) (fun _ _ _ _ _ => (pe_dget (hu_of hr) (pv 13) (pv 15) (fun _ _ => rfl)))))
    (pss_cons (ps_set (i := 16) S.nd rfl (by first | exact Or.inl rfl | exact Or.inr rfl) (pe_callB cr_lenS (by rfl) T.len (by decide +kernel) (pa_cons (pe_lc (own := [("_law_end", 15)]) (g := (gName 15)) (tt := (tTest (tOp (rIn K false) (tDGet (tVar 13) (tVar 15)) (tVar 14)))) (by rfl) S.nd (pi_list (pv 5)) (blkOk_by (N := N_law) (sc := defScope s_law) (by decide +kernel))  (fun _ _ _ _ _ => (pg_name (i := 15) S.nd rfl (by first | exact Or.inl rfl | exact Or.inr rfl))) (fun _ _ _ _ _ => (pts_one (pt_cmpR op_in_seq (pe_dget (hu_of hr) (pv 13) (pv 15) (fun _ _ => rfl)) (pv 14) (by rfl)))) (fun _ _ _ _ _ => (pv 15))) pa_nil)))
    (pss_cons (ps_if (pt_cmpR op_ltI (pv 16) (pe_callB cr_absI (by rfl) T.abs (by decide +kernel) (pa_cons (pe_op op_subI (pe_op op_mulWI (pv 9) (pv 12)) (pe_op op_mulWI (pv 10) (pv 11))) pa_nil)) (nomark _)) (pss_one (ps_ret pe_bl)) pss_nil)
    (pss_cons (ps_if (PW.pt (pw_or (pt_cmpR op_gtI (pv 16) pe_int (nomark _)) (pw_or (pt_cmpR (op_eqD hr.units) (pe_tup (pa_cons (pv 9) (pa_cons (pv 10) pa_nil))) (pe_tup (pa_cons pe_int (pa_cons pe_int pa_nil))) (nomark _)) (pw_or1 (pt_cmpR (op_eqD hr.units) (pe_tup (pa_cons (pv 11) (pa_cons (pv 12) pa_nil))) (pe_tup (pa_cons pe_int (pa_cons pe_int pa_nil))) (nomark _)))))) (pss_one (ps_ret pe_bl)) pss_nil)
    (pss_one (ps_ret (pe_or (pe_cmpR (op_eqD hr.units) (pe_tup (pa_cons (pv 11) (pa_cons (pv 12) pa_nil))) (pe_tup (pa_cons (pv 9) (pa_cons (pv 10) pa_nil))) (nomark _)) (pe_one (pe_cmpR (op_eqD hr.units) (pe_tup (pa_cons (pv 11) (pa_cons (pv 12) pa_nil))) (pe_tup (pa_cons (pe_un un_negI (pv 9)) (pa_cons (pe_un un_negI (pv 10)) pa_nil))) (nomark _)))))))))))))))))))))
end
end Rf
end
section
set_option linter.all false
set_option maxRecDepth 100000
set_option maxHeartbeats 4000000
/-! P30: each def with its promise (printed by gen2.py). -/
namespace Rf
open PySem PyProof.Rows L2
/-- where a def stands -/
def At (K : PySem.W.Frag) (x : Str) (st : Stmt) : Prop := ∃ (f : Addr) (od an : Option Addr) (sl : Array (Option Value)) (oc kV dc pm cd ct : Value), PySem.W.nsIn K mainGlobals x = some (some (.ref f)) ∧
  K.lookup f = some ⟨oc, od, .func (PySem.W.fnOf x x (defArgs st) (defBody st) (defScope st) .none kV dc pm an cd ct), sl⟩ ∧ PySem.W.codeIn K cd x = true ∧ PySem.W.keepIn K (.ref f) = true
section
variable {P : Program} {w : World} {K : PySem.W.Frag} {mg : Str → Option Value} {base h : Heap}
theorem At.fun {x : Str} {st : Stmt} (a : At K x st) (X : K.In h) (G : h.Ns mainGlobals mg) : ∃ f fd, Fun K x x st f fd ∧ mg x = some (.ref f) := by
  obtain ⟨f, od, an, sl, oc, kV, dc, pm, cd, ct, h1, h2, h3, h4⟩ := a
  exact ⟨f, _, fun_mk (st := st) h2 h3 h4, PySem.W.mg_of X G h1⟩

theorem k_mate_of (T : Bl mg) (a : At K "mate_of" s_mate_of) (X : K.In h) (G : h.Ns mainGlobals mg)  : Callee P w K mg base "mate_of" 1 ps_mate_of sp_mate := by
  obtain ⟨f, fd, F, hm⟩ := a.fun X G
  exact callee_of F hm sc_mate_of (b_mate_of F) (d_mate_of T ) (fun vs H Q E h => by repeat (first | (obtain ⟨e, _⟩ := h; subst e; rfl) | obtain ⟨_, h⟩ := h)) r_mate_of
theorem k_count_ends (T : Bl mg) (a : At K "count_ends" s_count_ends) (X : K.In h) (G : h.Ns mainGlobals mg)  : Callee P w K mg base "count_ends" 1 ps_count_ends (sp_cnt K) := by
  obtain ⟨f, fd, F, hm⟩ := a.fun X G
  exact callee_of F hm sc_count_ends (b_count_ends F) (d_count_ends T ) (fun vs H Q E h => by repeat (first | (obtain ⟨e, _⟩ := h; subst e; rfl) | obtain ⟨_, h⟩ := h)) r_count_ends
theorem k_seats_of (T : Bl mg) (a : At K "seats_of" s_seats_of) (X : K.In h) (G : h.Ns mainGlobals mg) (c_count_ends : Callee P w K mg base "count_ends" 1 ps_count_ends (sp_cnt K)) : Callee P w K mg base "seats_of" 2 ps_seats_of (sp_seats K) := by
  obtain ⟨f, fd, F, hm⟩ := a.fun X G
  exact callee_of F hm sc_seats_of (b_seats_of F) (d_seats_of T c_count_ends) (fun vs H Q E h => by repeat (first | (obtain ⟨e, _⟩ := h; subst e; rfl) | obtain ⟨_, h⟩ := h)) r_seats_of
theorem k_behind_of (T : Bl mg) (a : At K "behind_of" s_behind_of) (X : K.In h) (G : h.Ns mainGlobals mg) (c_count_ends : Callee P w K mg base "count_ends" 1 ps_count_ends (sp_cnt K)) : Callee P w K mg base "behind_of" 2 ps_behind_of (sp_behind K) := by
  obtain ⟨f, fd, F, hm⟩ := a.fun X G
  exact callee_of F hm sc_behind_of (b_behind_of F) (d_behind_of T c_count_ends) (fun vs H Q E h => by repeat (first | (obtain ⟨e, _⟩ := h; subst e; rfl) | obtain ⟨_, h⟩ := h)) r_behind_of
theorem k_lands_of (T : Bl mg) (a : At K "lands_of" s_lands_of) (X : K.In h) (G : h.Ns mainGlobals mg) (c_mate_of : Callee P w K mg base "mate_of" 1 ps_mate_of sp_mate) (c_behind_of : Callee P w K mg base "behind_of" 2 ps_behind_of (sp_behind K)) : Callee P w K mg base "lands_of" 3 ps_lands_of (sp_lands K) := by
  obtain ⟨f, fd, F, hm⟩ := a.fun X G
  exact callee_of F hm sc_lands_of (b_lands_of F) (d_lands_of T c_mate_of c_behind_of) (fun vs H Q E h => by repeat (first | (obtain ⟨e, _⟩ := h; subst e; rfl) | obtain ⟨_, h⟩ := h)) r_lands_of
theorem k_part_about (T : Bl mg) (a : At K "part_about" s_part_about) (X : K.In h) (G : h.Ns mainGlobals mg) (c_mate_of : Callee P w K mg base "mate_of" 1 ps_mate_of sp_mate) : Callee P w K mg base "part_about" 2 ps_part_about (sp_about K) := by
  obtain ⟨f, fd, F, hm⟩ := a.fun X G
  exact callee_of F hm sc_part_about (b_part_about F) (d_part_about T c_mate_of) (fun vs H Q E h => by repeat (first | (obtain ⟨e, _⟩ := h; subst e; rfl) | obtain ⟨_, h⟩ := h)) r_part_about
theorem k_parts_of (T : Bl mg) (a : At K "parts_of" s_parts_of) (X : K.In h) (G : h.Ns mainGlobals mg) (c_part_about : Callee P w K mg base "part_about" 2 ps_part_about (sp_about K)) (c_seats_of : Callee P w K mg base "seats_of" 2 ps_seats_of (sp_seats K)) : Callee P w K mg base "parts_of" 3 ps_parts_of (sp_parts K) := by
  obtain ⟨f, fd, F, hm⟩ := a.fun X G
  exact callee_of F hm sc_parts_of (b_parts_of F) (d_parts_of T c_part_about c_seats_of) (fun vs H Q E h => by repeat (first | (obtain ⟨e, _⟩ := h; subst e; rfl) | obtain ⟨_, h⟩ := h)) r_parts_of
theorem k_holes_of (T : Bl mg) (a : At K "holes_of" s_holes_of) (X : K.In h) (G : h.Ns mainGlobals mg) (c_parts_of : Callee P w K mg base "parts_of" 3 ps_parts_of (sp_parts K)) (c_lands_of : Callee P w K mg base "lands_of" 3 ps_lands_of (sp_lands K)) (c_seats_of : Callee P w K mg base "seats_of" 2 ps_seats_of (sp_seats K)) : Callee P w K mg base "holes_of" 4 ps_holes_of (sp_holes K) := by
  obtain ⟨f, fd, F, hm⟩ := a.fun X G
  exact callee_of F hm sc_holes_of (b_holes_of F) (d_holes_of T c_parts_of c_lands_of c_seats_of) (fun vs H Q E h => by repeat (first | (obtain ⟨e, _⟩ := h; subst e; rfl) | obtain ⟨_, h⟩ := h)) r_holes_of
theorem k_tree_from (T : Bl mg) (a : At K "tree_from" s_tree_from) (X : K.In h) (G : h.Ns mainGlobals mg) (c_mate_of : Callee P w K mg base "mate_of" 1 ps_mate_of sp_mate) (c_seats_of : Callee P w K mg base "seats_of" 2 ps_seats_of (sp_seats K)) : Callee P w K mg base "tree_from" 3 ps_tree_from (sp_tree K) := by
  obtain ⟨f, fd, F, hm⟩ := a.fun X G
  exact callee_of F hm sc_tree_from (b_tree_from F) (d_tree_from T c_mate_of c_seats_of) (fun vs H Q E h => by repeat (first | (obtain ⟨e, _⟩ := h; subst e; rfl) | obtain ⟨_, h⟩ := h)) r_tree_from
theorem k_way_up (T : Bl mg) (a : At K "way_up" s_way_up) (X : K.In h) (G : h.Ns mainGlobals mg) (c_mate_of : Callee P w K mg base "mate_of" 1 ps_mate_of sp_mate) : Callee P w K mg base "way_up" 2 ps_way_up (sp_way K) := by
  obtain ⟨f, fd, F, hm⟩ := a.fun X G
  exact callee_of F hm sc_way_up (b_way_up F) (d_way_up T c_mate_of) (fun vs H Q E h => by repeat (first | (obtain ⟨e, _⟩ := h; subst e; rfl) | obtain ⟨_, h⟩ := h)) r_way_up
theorem k_turned_about (T : Bl mg) (a : At K "turned_about" s_turned_about) (X : K.In h) (G : h.Ns mainGlobals mg) (c_mate_of : Callee P w K mg base "mate_of" 1 ps_mate_of sp_mate) : Callee P w K mg base "turned_about" 2 ps_turned_about (sp_turned K) := by
  obtain ⟨f, fd, F, hm⟩ := a.fun X G
  exact callee_of F hm sc_turned_about (b_turned_about F) (d_turned_about T c_mate_of) (fun vs H Q E h => by repeat (first | (obtain ⟨e, _⟩ := h; subst e; rfl) | obtain ⟨_, h⟩ := h)) r_turned_about
theorem k_round_along (T : Bl mg) (a : At K "round_along" s_round_along) (X : K.In h) (G : h.Ns mainGlobals mg) (c_turned_about : Callee P w K mg base "turned_about" 2 ps_turned_about (sp_turned K)) (c_way_up : Callee P w K mg base "way_up" 2 ps_way_up (sp_way K)) (c_mate_of : Callee P w K mg base "mate_of" 1 ps_mate_of sp_mate) : Callee P w K mg base "round_along" 3 ps_round_along (sp_round K) := by
  obtain ⟨f, fd, F, hm⟩ := a.fun X G
  exact callee_of F hm sc_round_along (b_round_along F) (d_round_along T c_turned_about c_way_up c_mate_of) (fun vs H Q E h => by repeat (first | (obtain ⟨e, _⟩ := h; subst e; rfl) | obtain ⟨_, h⟩ := h)) r_round_along
theorem k_land_numbers (T : Bl mg) (a : At K "land_numbers" s_land_numbers) (X : K.In h) (G : h.Ns mainGlobals mg)  : Callee P w K mg base "land_numbers" 1 ps_land_numbers (sp_lnum K) := by
  obtain ⟨f, fd, F, hm⟩ := a.fun X G
  exact callee_of F hm sc_land_numbers (b_land_numbers F) (d_land_numbers T ) (fun vs H Q E h => by repeat (first | (obtain ⟨e, _⟩ := h; subst e; rfl) | obtain ⟨_, h⟩ := h)) r_land_numbers
theorem k_land_tree (T : Bl mg) (a : At K "land_tree" s_land_tree) (X : K.In h) (G : h.Ns mainGlobals mg) (c_mate_of : Callee P w K mg base "mate_of" 1 ps_mate_of sp_mate) (c_land_numbers : Callee P w K mg base "land_numbers" 1 ps_land_numbers (sp_lnum K)) : Callee P w K mg base "land_tree" 2 ps_land_tree (sp_ltree K) := by
  obtain ⟨f, fd, F, hm⟩ := a.fun X G
  exact callee_of F hm sc_land_tree (b_land_tree F) (d_land_tree T c_mate_of c_land_numbers) (fun vs H Q E h => by repeat (first | (obtain ⟨e, _⟩ := h; subst e; rfl) | obtain ⟨_, h⟩ := h)) r_land_tree
theorem k_left_ties (T : Bl mg) (a : At K "left_ties" s_left_ties) (X : K.In h) (G : h.Ns mainGlobals mg)  : Callee P w K mg base "left_ties" 1 ps_left_ties (sp_left K) := by
  obtain ⟨f, fd, F, hm⟩ := a.fun X G
  exact callee_of F hm sc_left_ties (b_left_ties F) (d_left_ties T ) (fun vs H Q E h => by repeat (first | (obtain ⟨e, _⟩ := h; subst e; rfl) | obtain ⟨_, h⟩ := h)) r_left_ties
theorem k_both_trees (T : Bl mg) (a : At K "both_trees" s_both_trees) (X : K.In h) (G : h.Ns mainGlobals mg) (c_left_ties : Callee P w K mg base "left_ties" 1 ps_left_ties (sp_left K)) (c_land_tree : Callee P w K mg base "land_tree" 2 ps_land_tree (sp_ltree K)) (c_land_numbers : Callee P w K mg base "land_numbers" 1 ps_land_numbers (sp_lnum K)) (c_tree_from : Callee P w K mg base "tree_from" 3 ps_tree_from (sp_tree K)) (c_lands_of : Callee P w K mg base "lands_of" 3 ps_lands_of (sp_lands K)) : Callee P w K mg base "both_trees" 4 ps_both_trees (sp_both K) := by
  obtain ⟨f, fd, F, hm⟩ := a.fun X G
  exact callee_of F hm sc_both_trees (b_both_trees F) (d_both_trees T c_left_ties c_land_tree c_land_numbers c_tree_from c_lands_of) (fun vs H Q E h => by repeat (first | (obtain ⟨e, _⟩ := h; subst e; rfl) | obtain ⟨_, h⟩ := h)) r_both_trees
theorem k_is_ring (T : Bl mg) (a : At K "is_ring" s_is_ring) (X : K.In h) (G : h.Ns mainGlobals mg) (c_holes_of : Callee P w K mg base "holes_of" 4 ps_holes_of (sp_holes K)) : Callee P w K mg base "is_ring" 5 ps_is_ring (sp_isring K) := by
  obtain ⟨f, fd, F, hm⟩ := a.fun X G
  exact callee_of F hm sc_is_ring (b_is_ring F) (d_is_ring T c_holes_of) (fun vs H Q E h => by repeat (first | (obtain ⟨e, _⟩ := h; subst e; rfl) | obtain ⟨_, h⟩ := h)) r_is_ring
theorem k_ask_ring (T : Bl mg) (a : At K "ask_ring" s_ask_ring) (X : K.In h) (G : h.Ns mainGlobals mg) (c_is_ring : Callee P w K mg base "is_ring" 5 ps_is_ring (sp_isring K)) : Callee P w K mg base "ask_ring" 6 ps_ask_ring (sp_askring K) := by
  obtain ⟨f, fd, F, hm⟩ := a.fun X G
  exact callee_of F hm sc_ask_ring (b_ask_ring F) (d_ask_ring T c_is_ring) (fun vs H Q E h => by repeat (first | (obtain ⟨e, _⟩ := h; subst e; rfl) | obtain ⟨_, h⟩ := h)) r_ask_ring
theorem k_mark_of (T : Bl mg) (a : At K "mark_of" s_mark_of) (X : K.In h) (G : h.Ns mainGlobals mg)  : Callee P w K mg base "mark_of" 1 ps_mark_of (sp_mark K) := by
  obtain ⟨f, fd, F, hm⟩ := a.fun X G
  exact callee_of F hm sc_mark_of (b_mark_of F) (d_mark_of T ) (fun vs H Q E h => by repeat (first | (obtain ⟨e, _⟩ := h; subst e; rfl) | obtain ⟨_, h⟩ := h)) r_mark_of
theorem k_added (T : Bl mg) (a : At K "added" s_added) (X : K.In h) (G : h.Ns mainGlobals mg) (c_mark_of : Callee P w K mg base "mark_of" 1 ps_mark_of (sp_mark K)) : Callee P w K mg base "added" 2 ps_added (sp_added K) := by
  obtain ⟨f, fd, F, hm⟩ := a.fun X G
  exact callee_of F hm sc_added (b_added F) (d_added T c_mark_of) (fun vs H Q E h => by repeat (first | (obtain ⟨e, _⟩ := h; subst e; rfl) | obtain ⟨_, h⟩ := h)) r_added
theorem k_area_of (T : Bl mg) (a : At K "area_of" s_area_of) (X : K.In h) (G : h.Ns mainGlobals mg) (c_mark_of : Callee P w K mg base "mark_of" 1 ps_mark_of (sp_mark K)) : Callee P w K mg base "area_of" 2 ps_area_of (sp_area K) := by
  obtain ⟨f, fd, F, hm⟩ := a.fun X G
  exact callee_of F hm sc_area_of (b_area_of F) (d_area_of T c_mark_of) (fun vs H Q E h => by repeat (first | (obtain ⟨e, _⟩ := h; subst e; rfl) | obtain ⟨_, h⟩ := h)) r_area_of
theorem k_areas_added (T : Bl mg) (a : At K "areas_added" s_areas_added) (X : K.In h) (G : h.Ns mainGlobals mg) (c_area_of : Callee P w K mg base "area_of" 2 ps_area_of (sp_area K)) : Callee P w K mg base "areas_added" 3 ps_areas_added (sp_areas K) := by
  obtain ⟨f, fd, F, hm⟩ := a.fun X G
  exact callee_of F hm sc_areas_added (b_areas_added F) (d_areas_added T c_area_of) (fun vs H Q E h => by repeat (first | (obtain ⟨e, _⟩ := h; subst e; rfl) | obtain ⟨_, h⟩ := h)) r_areas_added
theorem k_marks_of (T : Bl mg) (a : At K "marks_of" s_marks_of) (X : K.In h) (G : h.Ns mainGlobals mg) (c_areas_added : Callee P w K mg base "areas_added" 3 ps_areas_added (sp_areas K)) (c_added : Callee P w K mg base "added" 2 ps_added (sp_added K)) (c_lands_of : Callee P w K mg base "lands_of" 3 ps_lands_of (sp_lands K)) (c_both_trees : Callee P w K mg base "both_trees" 4 ps_both_trees (sp_both K)) (c_ask_ring : Callee P w K mg base "ask_ring" 6 ps_ask_ring (sp_askring K)) : Callee P w K mg base "marks_of" 7 ps_marks_of (sp_marks K) := by
  obtain ⟨f, fd, F, hm⟩ := a.fun X G
  exact callee_of F hm sc_marks_of (b_marks_of F) (d_marks_of T c_areas_added c_added c_lands_of c_both_trees c_ask_ring) (fun vs H Q E h => by repeat (first | (obtain ⟨e, _⟩ := h; subst e; rfl) | obtain ⟨_, h⟩ := h)) r_marks_of
theorem k_is_walk (T : Bl mg) (a : At K "is_walk" s_is_walk) (X : K.In h) (G : h.Ns mainGlobals mg) (c_mate_of : Callee P w K mg base "mate_of" 1 ps_mate_of sp_mate) (c_seats_of : Callee P w K mg base "seats_of" 2 ps_seats_of (sp_seats K)) : Callee P w K mg base "is_walk" 3 ps_is_walk (sp_iswalk K) := by
  obtain ⟨f, fd, F, hm⟩ := a.fun X G
  exact callee_of F hm sc_is_walk (b_is_walk F) (d_is_walk T c_mate_of c_seats_of) (fun vs H Q E h => by repeat (first | (obtain ⟨e, _⟩ := h; subst e; rfl) | obtain ⟨_, h⟩ := h)) r_is_walk
theorem k_ask_walk (T : Bl mg) (a : At K "ask_walk" s_ask_walk) (X : K.In h) (G : h.Ns mainGlobals mg) (c_is_walk : Callee P w K mg base "is_walk" 3 ps_is_walk (sp_iswalk K)) : Callee P w K mg base "ask_walk" 4 ps_ask_walk (sp_askwalk K) := by
  obtain ⟨f, fd, F, hm⟩ := a.fun X G
  exact callee_of F hm sc_ask_walk (b_ask_walk F) (d_ask_walk T c_is_walk) (fun vs H Q E h => by repeat (first | (obtain ⟨e, _⟩ := h; subst e; rfl) | obtain ⟨_, h⟩ := h)) r_ask_walk
theorem k_left_counts (T : Bl mg) (a : At K "left_counts" s_left_counts) (X : K.In h) (G : h.Ns mainGlobals mg) (c_mate_of : Callee P w K mg base "mate_of" 1 ps_mate_of sp_mate) (c_behind_of : Callee P w K mg base "behind_of" 2 ps_behind_of (sp_behind K)) : Callee P w K mg base "left_counts" 3 ps_left_counts (sp_lcnt K) := by
  obtain ⟨f, fd, F, hm⟩ := a.fun X G
  exact callee_of F hm sc_left_counts (b_left_counts F) (d_left_counts T c_mate_of c_behind_of) (fun vs H Q E h => by repeat (first | (obtain ⟨e, _⟩ := h; subst e; rfl) | obtain ⟨_, h⟩ := h)) r_left_counts
theorem k_crossing_by (T : Bl mg) (a : At K "crossing_by" s_crossing_by) (X : K.In h) (G : h.Ns mainGlobals mg) (c_mate_of : Callee P w K mg base "mate_of" 1 ps_mate_of sp_mate) : Callee P w K mg base "crossing_by" 2 ps_crossing_by (sp_crossing K) := by
  obtain ⟨f, fd, F, hm⟩ := a.fun X G
  exact callee_of F hm sc_crossing_by (b_crossing_by F) (d_crossing_by T c_mate_of) (fun vs H Q E h => by repeat (first | (obtain ⟨e, _⟩ := h; subst e; rfl) | obtain ⟨_, h⟩ := h)) r_crossing_by
theorem k_net_counts (T : Bl mg) (a : At K "net_counts" s_net_counts) (X : K.In h) (G : h.Ns mainGlobals mg) (c_mate_of : Callee P w K mg base "mate_of" 1 ps_mate_of sp_mate) (c_count_ends : Callee P w K mg base "count_ends" 1 ps_count_ends (sp_cnt K)) : Callee P w K mg base "net_counts" 2 ps_net_counts (sp_ncnt K) := by
  obtain ⟨f, fd, F, hm⟩ := a.fun X G
  exact callee_of F hm sc_net_counts (b_net_counts F) (d_net_counts T c_mate_of c_count_ends) (fun vs H Q E h => by repeat (first | (obtain ⟨e, _⟩ := h; subst e; rfl) | obtain ⟨_, h⟩ := h)) r_net_counts
theorem k_spread_numbers (T : Bl mg) (a : At K "spread_numbers" s_spread_numbers) (X : K.In h) (G : h.Ns mainGlobals mg) (c_mate_of : Callee P w K mg base "mate_of" 1 ps_mate_of sp_mate) : Callee P w K mg base "spread_numbers" 2 ps_spread_numbers (sp_spread K) := by
  obtain ⟨f, fd, F, hm⟩ := a.fun X G
  exact callee_of F hm sc_spread_numbers (b_spread_numbers F) (d_spread_numbers T c_mate_of) (fun vs H Q E h => by repeat (first | (obtain ⟨e, _⟩ := h; subst e; rfl) | obtain ⟨_, h⟩ := h)) r_spread_numbers
theorem k_filling (T : Bl mg) (a : At K "filling" s_filling) (X : K.In h) (G : h.Ns mainGlobals mg) (c_spread_numbers : Callee P w K mg base "spread_numbers" 2 ps_spread_numbers (sp_spread K)) (c_net_counts : Callee P w K mg base "net_counts" 2 ps_net_counts (sp_ncnt K)) (c_land_numbers : Callee P w K mg base "land_numbers" 1 ps_land_numbers (sp_lnum K)) (c_lands_of : Callee P w K mg base "lands_of" 3 ps_lands_of (sp_lands K)) : Callee P w K mg base "filling" 4 ps_filling (sp_filling K) := by
  obtain ⟨f, fd, F, hm⟩ := a.fun X G
  exact callee_of F hm sc_filling (b_filling F) (d_filling T c_spread_numbers c_net_counts c_land_numbers c_lands_of) (fun vs H Q E h => by repeat (first | (obtain ⟨e, _⟩ := h; subst e; rfl) | obtain ⟨_, h⟩ := h)) r_filling
theorem k_crosser (T : Bl mg) (a : At K "crosser" s_crosser) (X : K.In h) (G : h.Ns mainGlobals mg) (c_mate_of : Callee P w K mg base "mate_of" 1 ps_mate_of sp_mate) (c_crossing_by : Callee P w K mg base "crossing_by" 2 ps_crossing_by (sp_crossing K)) (c_round_along : Callee P w K mg base "round_along" 3 ps_round_along (sp_round K)) (c_tree_from : Callee P w K mg base "tree_from" 3 ps_tree_from (sp_tree K)) (c_left_counts : Callee P w K mg base "left_counts" 3 ps_left_counts (sp_lcnt K)) (c_seats_of : Callee P w K mg base "seats_of" 2 ps_seats_of (sp_seats K)) : Callee P w K mg base "crosser" 4 ps_crosser (sp_crosser K) := by
  obtain ⟨f, fd, F, hm⟩ := a.fun X G
  exact callee_of F hm sc_crosser (b_crosser F) (d_crosser T c_mate_of c_crossing_by c_round_along c_tree_from c_left_counts c_seats_of) (fun vs H Q E h => by repeat (first | (obtain ⟨e, _⟩ := h; subst e; rfl) | obtain ⟨_, h⟩ := h)) r_crosser
theorem k_fill_of (T : Bl mg) (a : At K "fill_of" s_fill_of) (X : K.In h) (G : h.Ns mainGlobals mg) (c_crosser : Callee P w K mg base "crosser" 4 ps_crosser (sp_crosser K)) (c_filling : Callee P w K mg base "filling" 4 ps_filling (sp_filling K)) (c_ask_walk : Callee P w K mg base "ask_walk" 4 ps_ask_walk (sp_askwalk K)) : Callee P w K mg base "fill_of" 5 ps_fill_of (sp_fill K) := by
  obtain ⟨f, fd, F, hm⟩ := a.fun X G
  exact callee_of F hm sc_fill_of (b_fill_of F) (d_fill_of T c_crosser c_filling c_ask_walk) (fun vs H Q E h => by repeat (first | (obtain ⟨e, _⟩ := h; subst e; rfl) | obtain ⟨_, h⟩ := h)) r_fill_of
theorem k__law_cell (T : Bl mg) (a : At K "_law_cell" s__law_cell) (X : K.In h) (G : h.Ns mainGlobals mg)  : Callee P w K mg base "_law_cell" 1 ps__law_cell (sp_cell K) := by
  obtain ⟨f, fd, F, hm⟩ := a.fun X G
  exact callee_of F hm sc__law_cell (b__law_cell F) (d__law_cell T ) (fun vs H Q E h => by repeat (first | (obtain ⟨e, _⟩ := h; subst e; rfl) | obtain ⟨_, h⟩ := h)) r__law_cell
theorem k__law_draws (T : Bl mg) (a : At K "_law_draws" s__law_draws) (X : K.In h) (G : h.Ns mainGlobals mg)  : Callee P w K mg base "_law_draws" 1 ps__law_draws (sp_draws K) := by
  obtain ⟨f, fd, F, hm⟩ := a.fun X G
  exact callee_of F hm sc__law_draws (b__law_draws F) (d__law_draws T ) (fun vs H Q E h => by repeat (first | (obtain ⟨e, _⟩ := h; subst e; rfl) | obtain ⟨_, h⟩ := h)) r__law_draws
theorem k__law_mate (T : Bl mg) (a : At K "_law_mate" s__law_mate) (X : K.In h) (G : h.Ns mainGlobals mg)  : Callee P w K mg base "_law_mate" 1 ps__law_mate sp_mate := by
  obtain ⟨f, fd, F, hm⟩ := a.fun X G
  exact callee_of F hm sc__law_mate (b__law_mate F) (d__law_mate T ) (fun vs H Q E h => by repeat (first | (obtain ⟨e, _⟩ := h; subst e; rfl) | obtain ⟨_, h⟩ := h)) r__law_mate
theorem k__law_settled (T : Bl mg) (a : At K "_law_settled" s__law_settled) (X : K.In h) (G : h.Ns mainGlobals mg)  : Callee P w K mg base "_law_settled" 1 ps__law_settled (sp_settled K) := by
  obtain ⟨f, fd, F, hm⟩ := a.fun X G
  exact callee_of F hm sc__law_settled (b__law_settled F) (d__law_settled T ) (fun vs H Q E h => by repeat (first | (obtain ⟨e, _⟩ := h; subst e; rfl) | obtain ⟨_, h⟩ := h)) r__law_settled
theorem k__law_seats (T : Bl mg) (a : At K "_law_seats" s__law_seats) (X : K.In h) (G : h.Ns mainGlobals mg)  : Callee P w K mg base "_law_seats" 1 ps__law_seats (sp_lnum K) := by
  obtain ⟨f, fd, F, hm⟩ := a.fun X G
  exact callee_of F hm sc__law_seats (b__law_seats F) (d__law_seats T ) (fun vs H Q E h => by repeat (first | (obtain ⟨e, _⟩ := h; subst e; rfl) | obtain ⟨_, h⟩ := h)) r__law_seats
theorem k__law_behind (T : Bl mg) (a : At K "_law_behind" s__law_behind) (X : K.In h) (G : h.Ns mainGlobals mg)  : Callee P w K mg base "_law_behind" 1 ps__law_behind (sp_lbeh K) := by
  obtain ⟨f, fd, F, hm⟩ := a.fun X G
  exact callee_of F hm sc__law_behind (b__law_behind F) (d__law_behind T ) (fun vs H Q E h => by repeat (first | (obtain ⟨e, _⟩ := h; subst e; rfl) | obtain ⟨_, h⟩ := h)) r__law_behind
theorem k__law_lands (T : Bl mg) (a : At K "_law_lands" s__law_lands) (X : K.In h) (G : h.Ns mainGlobals mg) (c__law_mate : Callee P w K mg base "_law_mate" 1 ps__law_mate sp_mate) (c__law_behind : Callee P w K mg base "_law_behind" 1 ps__law_behind (sp_lbeh K)) : Callee P w K mg base "_law_lands" 2 ps__law_lands (sp_lands K) := by
  obtain ⟨f, fd, F, hm⟩ := a.fun X G
  exact callee_of F hm sc__law_lands (b__law_lands F) (d__law_lands T c__law_mate c__law_behind) (fun vs H Q E h => by repeat (first | (obtain ⟨e, _⟩ := h; subst e; rfl) | obtain ⟨_, h⟩ := h)) r__law_lands
theorem k__law_tied (T : Bl mg) (a : At K "_law_tied" s__law_tied) (X : K.In h) (G : h.Ns mainGlobals mg) (c__law_lands : Callee P w K mg base "_law_lands" 2 ps__law_lands (sp_lands K)) : Callee P w K mg base "_law_tied" 3 ps__law_tied (sp_tied K) := by
  obtain ⟨f, fd, F, hm⟩ := a.fun X G
  exact callee_of F hm sc__law_tied (b__law_tied F) (d__law_tied T c__law_lands) (fun vs H Q E h => by repeat (first | (obtain ⟨e, _⟩ := h; subst e; rfl) | obtain ⟨_, h⟩ := h)) r__law_tied
theorem k__law_renamed (T : Bl mg) (a : At K "_law_renamed" s__law_renamed) (X : K.In h) (G : h.Ns mainGlobals mg) (c__law_settled : Callee P w K mg base "_law_settled" 1 ps__law_settled (sp_settled K)) (c__law_draws : Callee P w K mg base "_law_draws" 1 ps__law_draws (sp_draws K)) : Callee P w K mg base "_law_renamed" 2 ps__law_renamed (sp_renamed K) := by
  obtain ⟨f, fd, F, hm⟩ := a.fun X G
  exact callee_of F hm sc__law_renamed (b__law_renamed F) (d__law_renamed T c__law_settled c__law_draws) (fun vs H Q E h => by repeat (first | (obtain ⟨e, _⟩ := h; subst e; rfl) | obtain ⟨_, h⟩ := h)) r__law_renamed
theorem k__law_grown (T : Bl mg) (a : At K "_law_grown" s__law_grown) (X : K.In h) (G : h.Ns mainGlobals mg) (c__law_renamed : Callee P w K mg base "_law_renamed" 2 ps__law_renamed (sp_renamed K)) (c__law_cell : Callee P w K mg base "_law_cell" 1 ps__law_cell (sp_cell K)) (c__law_tied : Callee P w K mg base "_law_tied" 3 ps__law_tied (sp_tied K)) (c__law_draws : Callee P w K mg base "_law_draws" 1 ps__law_draws (sp_draws K)) : Callee P w K mg base "_law_grown" 4 ps__law_grown (sp_grown K) := by
  obtain ⟨f, fd, F, hm⟩ := a.fun X G
  exact callee_of F hm sc__law_grown (b__law_grown F) (d__law_grown T c__law_renamed c__law_cell c__law_tied c__law_draws) (fun vs H Q E h => by repeat (first | (obtain ⟨e, _⟩ := h; subst e; rfl) | obtain ⟨_, h⟩ := h)) r__law_grown
theorem k__law_kind (T : Bl mg) (a : At K "_law_kind" s__law_kind) (X : K.In h) (G : h.Ns mainGlobals mg) (c__law_settled : Callee P w K mg base "_law_settled" 1 ps__law_settled (sp_settled K)) : Callee P w K mg base "_law_kind" 2 ps__law_kind (sp_kind K) := by
  obtain ⟨f, fd, F, hm⟩ := a.fun X G
  exact callee_of F hm sc__law_kind (b__law_kind F) (d__law_kind T c__law_settled) (fun vs H Q E h => by repeat (first | (obtain ⟨e, _⟩ := h; subst e; rfl) | obtain ⟨_, h⟩ := h)) r__law_kind
theorem k__law_numbers (T : Bl mg) (a : At K "_law_numbers" s__law_numbers) (X : K.In h) (G : h.Ns mainGlobals mg) (c__law_draws : Callee P w K mg base "_law_draws" 1 ps__law_draws (sp_draws K)) : Callee P w K mg base "_law_numbers" 2 ps__law_numbers (sp_numbers K) := by
  obtain ⟨f, fd, F, hm⟩ := a.fun X G
  exact callee_of F hm sc__law_numbers (b__law_numbers F) (d__law_numbers T c__law_draws) (fun vs H Q E h => by repeat (first | (obtain ⟨e, _⟩ := h; subst e; rfl) | obtain ⟨_, h⟩ := h)) r__law_numbers
theorem k__law_some (T : Bl mg) (a : At K "_law_some" s__law_some) (X : K.In h) (G : h.Ns mainGlobals mg) (c__law_renamed : Callee P w K mg base "_law_renamed" 2 ps__law_renamed (sp_renamed K)) (c__law_cell : Callee P w K mg base "_law_cell" 1 ps__law_cell (sp_cell K)) (c__law_kind : Callee P w K mg base "_law_kind" 2 ps__law_kind (sp_kind K)) (c__law_numbers : Callee P w K mg base "_law_numbers" 2 ps__law_numbers (sp_numbers K)) (c__law_grown : Callee P w K mg base "_law_grown" 4 ps__law_grown (sp_grown K)) : Callee P w K mg base "_law_some" 5 ps__law_some (sp_some K) := by
  obtain ⟨f, fd, F, hm⟩ := a.fun X G
  exact callee_of F hm sc__law_some (b__law_some F) (d__law_some T c__law_renamed c__law_cell c__law_kind c__law_numbers c__law_grown) (fun vs H Q E h => by repeat (first | (obtain ⟨e, _⟩ := h; subst e; rfl) | obtain ⟨_, h⟩ := h)) r__law_some
theorem k__law_core (T : Bl mg) (a : At K "_law_core" s__law_core) (X : K.In h) (G : h.Ns mainGlobals mg) (c__law_mate : Callee P w K mg base "_law_mate" 1 ps__law_mate sp_mate) : Callee P w K mg base "_law_core" 2 ps__law_core (sp_core K) := by
  obtain ⟨f, fd, F, hm⟩ := a.fun X G
  exact callee_of F hm sc__law_core (b__law_core F) (d__law_core T c__law_mate) (fun vs H Q E h => by repeat (first | (obtain ⟨e, _⟩ := h; subst e; rfl) | obtain ⟨_, h⟩ := h)) r__law_core
theorem k__law_turn (T : Bl mg) (a : At K "_law_turn" s__law_turn) (X : K.In h) (G : h.Ns mainGlobals mg) (c__law_mate : Callee P w K mg base "_law_mate" 1 ps__law_mate sp_mate) (c__law_draws : Callee P w K mg base "_law_draws" 1 ps__law_draws (sp_draws K)) (c__law_seats : Callee P w K mg base "_law_seats" 1 ps__law_seats (sp_lnum K)) (c__law_core : Callee P w K mg base "_law_core" 2 ps__law_core (sp_core K)) : Callee P w K mg base "_law_turn" 3 ps__law_turn (sp_turn K) := by
  obtain ⟨f, fd, F, hm⟩ := a.fun X G
  exact callee_of F hm sc__law_turn (b__law_turn F) (d__law_turn T c__law_mate c__law_draws c__law_seats c__law_core) (fun vs H Q E h => by repeat (first | (obtain ⟨e, _⟩ := h; subst e; rfl) | obtain ⟨_, h⟩ := h)) r__law_turn
theorem k__law_parted (T : Bl mg) (a : At K "_law_parted" s__law_parted) (X : K.In h) (G : h.Ns mainGlobals mg) (c__law_mate : Callee P w K mg base "_law_mate" 1 ps__law_mate sp_mate) (c__law_lands : Callee P w K mg base "_law_lands" 2 ps__law_lands (sp_lands K)) : Callee P w K mg base "_law_parted" 3 ps__law_parted (sp_parted K) := by
  obtain ⟨f, fd, F, hm⟩ := a.fun X G
  exact callee_of F hm sc__law_parted (b__law_parted F) (d__law_parted T c__law_mate c__law_lands) (fun vs H Q E h => by repeat (first | (obtain ⟨e, _⟩ := h; subst e; rfl) | obtain ⟨_, h⟩ := h)) r__law_parted
theorem k__law_mark (T : Bl mg) (a : At K "_law_mark" s__law_mark) (X : K.In h) (G : h.Ns mainGlobals mg)  : Callee P w K mg base "_law_mark" 1 ps__law_mark (sp_mark K) := by
  obtain ⟨f, fd, F, hm⟩ := a.fun X G
  exact callee_of F hm sc__law_mark (b__law_mark F) (d__law_mark T ) (fun vs H Q E h => by repeat (first | (obtain ⟨e, _⟩ := h; subst e; rfl) | obtain ⟨_, h⟩ := h)) r__law_mark
theorem k__law_sums (T : Bl mg) (a : At K "_law_sums" s__law_sums) (X : K.In h) (G : h.Ns mainGlobals mg) (c__law_mark : Callee P w K mg base "_law_mark" 1 ps__law_mark (sp_mark K)) : Callee P w K mg base "_law_sums" 2 ps__law_sums (sp_added K) := by
  obtain ⟨f, fd, F, hm⟩ := a.fun X G
  exact callee_of F hm sc__law_sums (b__law_sums F) (d__law_sums T c__law_mark) (fun vs H Q E h => by repeat (first | (obtain ⟨e, _⟩ := h; subst e; rfl) | obtain ⟨_, h⟩ := h)) r__law_sums
theorem k__law_rest (T : Bl mg) (a : At K "_law_rest" s__law_rest) (X : K.In h) (G : h.Ns mainGlobals mg) (c__law_mate : Callee P w K mg base "_law_mate" 1 ps__law_mate sp_mate) (c__law_seats : Callee P w K mg base "_law_seats" 1 ps__law_seats (sp_lnum K)) : Callee P w K mg base "_law_rest" 2 ps__law_rest (sp_rest K) := by
  obtain ⟨f, fd, F, hm⟩ := a.fun X G
  exact callee_of F hm sc__law_rest (b__law_rest F) (d__law_rest T c__law_mate c__law_seats) (fun vs H Q E h => by repeat (first | (obtain ⟨e, _⟩ := h; subst e; rfl) | obtain ⟨_, h⟩ := h)) r__law_rest
theorem k__law_divides (T : Bl mg) (a : At K "_law_divides" s__law_divides) (X : K.In h) (G : h.Ns mainGlobals mg)  : Callee P w K mg base "_law_divides" 1 ps__law_divides sp_div := by
  obtain ⟨f, fd, F, hm⟩ := a.fun X G
  exact callee_of F hm sc__law_divides (b__law_divides F) (d__law_divides T ) (fun vs H Q E h => by repeat (first | (obtain ⟨e, _⟩ := h; subst e; rfl) | obtain ⟨_, h⟩ := h)) r__law_divides
theorem k__law_one_round (T : Bl mg) (a : At K "_law_one_round" s__law_one_round) (X : K.In h) (G : h.Ns mainGlobals mg) (c__law_divides : Callee P w K mg base "_law_divides" 1 ps__law_divides sp_div) (c_fill_of : Callee P w K mg base "fill_of" 5 ps_fill_of (sp_fill K)) (c__law_parted : Callee P w K mg base "_law_parted" 3 ps__law_parted (sp_parted K)) (c__law_sums : Callee P w K mg base "_law_sums" 2 ps__law_sums (sp_added K)) : Callee P w K mg base "_law_one_round" 6 ps__law_one_round (sp_oner K) := by
  obtain ⟨f, fd, F, hm⟩ := a.fun X G
  exact callee_of F hm sc__law_one_round (b__law_one_round F) (d__law_one_round T c__law_divides c_fill_of c__law_parted c__law_sums) (fun vs H Q E h => by repeat (first | (obtain ⟨e, _⟩ := h; subst e; rfl) | obtain ⟨_, h⟩ := h)) r__law_one_round
theorem k_law (T : Bl mg) (a : At K "law" s_law) (X : K.In h) (G : h.Ns mainGlobals mg) (c__law_seats : Callee P w K mg base "_law_seats" 1 ps__law_seats (sp_lnum K)) (c__law_sums : Callee P w K mg base "_law_sums" 2 ps__law_sums (sp_added K)) (c__law_one_round : Callee P w K mg base "_law_one_round" 6 ps__law_one_round (sp_oner K)) (c_marks_of : Callee P w K mg base "marks_of" 7 ps_marks_of (sp_marks K)) (c__law_turn : Callee P w K mg base "_law_turn" 3 ps__law_turn (sp_turn K)) (c__law_cell : Callee P w K mg base "_law_cell" 1 ps__law_cell (sp_cell K)) (c__law_rest : Callee P w K mg base "_law_rest" 2 ps__law_rest (sp_rest K)) (c__law_some : Callee P w K mg base "_law_some" 5 ps__law_some (sp_some K)) (c__law_draws : Callee P w K mg base "_law_draws" 1 ps__law_draws (sp_draws K)) : Callee P w K mg base "law" 8 ps_law (sp_law K) := by
  obtain ⟨f, fd, F, hm⟩ := a.fun X G
  exact callee_of F hm sc_law (b_law F) (d_law T c__law_seats c__law_sums c__law_one_round c_marks_of c__law_turn c__law_cell c__law_rest c__law_some c__law_draws) (fun vs H Q E h => by repeat (first | (obtain ⟨e, _⟩ := h; subst e; rfl) | obtain ⟨_, h⟩ := h)) r_law
/-- where all stand -/
structure Ats (K : PySem.W.Frag) : Prop where
  a_mate_of : At K "mate_of" s_mate_of
  a_count_ends : At K "count_ends" s_count_ends
  a_seats_of : At K "seats_of" s_seats_of
  a_behind_of : At K "behind_of" s_behind_of
  a_lands_of : At K "lands_of" s_lands_of
  a_part_about : At K "part_about" s_part_about
  a_parts_of : At K "parts_of" s_parts_of
  a_holes_of : At K "holes_of" s_holes_of
  a_tree_from : At K "tree_from" s_tree_from
  a_way_up : At K "way_up" s_way_up
  a_turned_about : At K "turned_about" s_turned_about
  a_round_along : At K "round_along" s_round_along
  a_land_numbers : At K "land_numbers" s_land_numbers
  a_land_tree : At K "land_tree" s_land_tree
  a_left_ties : At K "left_ties" s_left_ties
  a_both_trees : At K "both_trees" s_both_trees
  a_is_ring : At K "is_ring" s_is_ring
  a_ask_ring : At K "ask_ring" s_ask_ring
  a_mark_of : At K "mark_of" s_mark_of
  a_added : At K "added" s_added
  a_area_of : At K "area_of" s_area_of
  a_areas_added : At K "areas_added" s_areas_added
  a_marks_of : At K "marks_of" s_marks_of
  a_is_walk : At K "is_walk" s_is_walk
  a_ask_walk : At K "ask_walk" s_ask_walk
  a_left_counts : At K "left_counts" s_left_counts
  a_crossing_by : At K "crossing_by" s_crossing_by
  a_net_counts : At K "net_counts" s_net_counts
  a_spread_numbers : At K "spread_numbers" s_spread_numbers
  a_filling : At K "filling" s_filling
  a_crosser : At K "crosser" s_crosser
  a_fill_of : At K "fill_of" s_fill_of
  a__law_cell : At K "_law_cell" s__law_cell
  a__law_draws : At K "_law_draws" s__law_draws
  a__law_mate : At K "_law_mate" s__law_mate
  a__law_settled : At K "_law_settled" s__law_settled
  a__law_seats : At K "_law_seats" s__law_seats
  a__law_behind : At K "_law_behind" s__law_behind
  a__law_lands : At K "_law_lands" s__law_lands
  a__law_tied : At K "_law_tied" s__law_tied
  a__law_renamed : At K "_law_renamed" s__law_renamed
  a__law_grown : At K "_law_grown" s__law_grown
  a__law_kind : At K "_law_kind" s__law_kind
  a__law_numbers : At K "_law_numbers" s__law_numbers
  a__law_some : At K "_law_some" s__law_some
  a__law_core : At K "_law_core" s__law_core
  a__law_turn : At K "_law_turn" s__law_turn
  a__law_parted : At K "_law_parted" s__law_parted
  a__law_mark : At K "_law_mark" s__law_mark
  a__law_sums : At K "_law_sums" s__law_sums
  a__law_rest : At K "_law_rest" s__law_rest
  a__law_divides : At K "_law_divides" s__law_divides
  a__law_one_round : At K "_law_one_round" s__law_one_round
  z_len : PySem.W.nsIn K mainGlobals "len" = some none
  z_sum : PySem.W.nsIn K mainGlobals "sum" = some none
  z_min : PySem.W.nsIn K mainGlobals "min" = some none
  z_max : PySem.W.nsIn K mainGlobals "max" = some none
  z_abs : PySem.W.nsIn K mainGlobals "abs" = some none
  z_list : PySem.W.nsIn K mainGlobals "list" = some none
  z_sorted : PySem.W.nsIn K mainGlobals "sorted" = some none
  z_range : PySem.W.nsIn K mainGlobals "range" = some none
  z_enumerate : PySem.W.nsIn K mainGlobals "enumerate" = some none
  z_reversed : PySem.W.nsIn K mainGlobals "reversed" = some none
theorem law_callee (A : Ats K) (X : K.In h) (G : h.Ns mainGlobals mg) {f : Addr} {fd : FuncData} (F : Fun K "law" "law" s_law f fd) : FnOk P w K mg base CX0 8 f fd ps_law (sp_law K) := by
  have T : Bl mg := ⟨PySem.W.mg_none_of X G A.z_len, PySem.W.mg_none_of X G A.z_sum, PySem.W.mg_none_of X G A.z_min, PySem.W.mg_none_of X G A.z_max, PySem.W.mg_none_of X G A.z_abs, PySem.W.mg_none_of X G A.z_list, PySem.W.mg_none_of X G A.z_sorted, PySem.W.mg_none_of X G A.z_range, PySem.W.mg_none_of X G A.z_enumerate, PySem.W.mg_none_of X G A.z_reversed⟩
  have c_mate_of := k_mate_of (P := P) (w := w) (base := base) T A.a_mate_of X G 
  have c_count_ends := k_count_ends (P := P) (w := w) (base := base) T A.a_count_ends X G 
  have c_seats_of := k_seats_of (P := P) (w := w) (base := base) T A.a_seats_of X G c_count_ends
  have c_behind_of := k_behind_of (P := P) (w := w) (base := base) T A.a_behind_of X G c_count_ends
  have c_lands_of := k_lands_of (P := P) (w := w) (base := base) T A.a_lands_of X G c_mate_of c_behind_of
  have c_part_about := k_part_about (P := P) (w := w) (base := base) T A.a_part_about X G c_mate_of
  have c_parts_of := k_parts_of (P := P) (w := w) (base := base) T A.a_parts_of X G c_part_about c_seats_of
  have c_holes_of := k_holes_of (P := P) (w := w) (base := base) T A.a_holes_of X G c_parts_of c_lands_of c_seats_of
  have c_tree_from := k_tree_from (P := P) (w := w) (base := base) T A.a_tree_from X G c_mate_of c_seats_of
  have c_way_up := k_way_up (P := P) (w := w) (base := base) T A.a_way_up X G c_mate_of
  have c_turned_about := k_turned_about (P := P) (w := w) (base := base) T A.a_turned_about X G c_mate_of
  have c_round_along := k_round_along (P := P) (w := w) (base := base) T A.a_round_along X G c_turned_about c_way_up c_mate_of
  have c_land_numbers := k_land_numbers (P := P) (w := w) (base := base) T A.a_land_numbers X G 
  have c_land_tree := k_land_tree (P := P) (w := w) (base := base) T A.a_land_tree X G c_mate_of c_land_numbers
  have c_left_ties := k_left_ties (P := P) (w := w) (base := base) T A.a_left_ties X G 
  have c_both_trees := k_both_trees (P := P) (w := w) (base := base) T A.a_both_trees X G c_left_ties c_land_tree c_land_numbers c_tree_from c_lands_of
  have c_is_ring := k_is_ring (P := P) (w := w) (base := base) T A.a_is_ring X G c_holes_of
  have c_ask_ring := k_ask_ring (P := P) (w := w) (base := base) T A.a_ask_ring X G c_is_ring
  have c_mark_of := k_mark_of (P := P) (w := w) (base := base) T A.a_mark_of X G 
  have c_added := k_added (P := P) (w := w) (base := base) T A.a_added X G c_mark_of
  have c_area_of := k_area_of (P := P) (w := w) (base := base) T A.a_area_of X G c_mark_of
  have c_areas_added := k_areas_added (P := P) (w := w) (base := base) T A.a_areas_added X G c_area_of
  have c_marks_of := k_marks_of (P := P) (w := w) (base := base) T A.a_marks_of X G c_areas_added c_added c_lands_of c_both_trees c_ask_ring
  have c_is_walk := k_is_walk (P := P) (w := w) (base := base) T A.a_is_walk X G c_mate_of c_seats_of
  have c_ask_walk := k_ask_walk (P := P) (w := w) (base := base) T A.a_ask_walk X G c_is_walk
  have c_left_counts := k_left_counts (P := P) (w := w) (base := base) T A.a_left_counts X G c_mate_of c_behind_of
  have c_crossing_by := k_crossing_by (P := P) (w := w) (base := base) T A.a_crossing_by X G c_mate_of
  have c_net_counts := k_net_counts (P := P) (w := w) (base := base) T A.a_net_counts X G c_mate_of c_count_ends
  have c_spread_numbers := k_spread_numbers (P := P) (w := w) (base := base) T A.a_spread_numbers X G c_mate_of
  have c_filling := k_filling (P := P) (w := w) (base := base) T A.a_filling X G c_spread_numbers c_net_counts c_land_numbers c_lands_of
  have c_crosser := k_crosser (P := P) (w := w) (base := base) T A.a_crosser X G c_mate_of c_crossing_by c_round_along c_tree_from c_left_counts c_seats_of
  have c_fill_of := k_fill_of (P := P) (w := w) (base := base) T A.a_fill_of X G c_crosser c_filling c_ask_walk
  have c__law_cell := k__law_cell (P := P) (w := w) (base := base) T A.a__law_cell X G 
  have c__law_draws := k__law_draws (P := P) (w := w) (base := base) T A.a__law_draws X G 
  have c__law_mate := k__law_mate (P := P) (w := w) (base := base) T A.a__law_mate X G 
  have c__law_settled := k__law_settled (P := P) (w := w) (base := base) T A.a__law_settled X G 
  have c__law_seats := k__law_seats (P := P) (w := w) (base := base) T A.a__law_seats X G 
  have c__law_behind := k__law_behind (P := P) (w := w) (base := base) T A.a__law_behind X G 
  have c__law_lands := k__law_lands (P := P) (w := w) (base := base) T A.a__law_lands X G c__law_mate c__law_behind
  have c__law_tied := k__law_tied (P := P) (w := w) (base := base) T A.a__law_tied X G c__law_lands
  have c__law_renamed := k__law_renamed (P := P) (w := w) (base := base) T A.a__law_renamed X G c__law_settled c__law_draws
  have c__law_grown := k__law_grown (P := P) (w := w) (base := base) T A.a__law_grown X G c__law_renamed c__law_cell c__law_tied c__law_draws
  have c__law_kind := k__law_kind (P := P) (w := w) (base := base) T A.a__law_kind X G c__law_settled
  have c__law_numbers := k__law_numbers (P := P) (w := w) (base := base) T A.a__law_numbers X G c__law_draws
  have c__law_some := k__law_some (P := P) (w := w) (base := base) T A.a__law_some X G c__law_renamed c__law_cell c__law_kind c__law_numbers c__law_grown
  have c__law_core := k__law_core (P := P) (w := w) (base := base) T A.a__law_core X G c__law_mate
  have c__law_turn := k__law_turn (P := P) (w := w) (base := base) T A.a__law_turn X G c__law_mate c__law_draws c__law_seats c__law_core
  have c__law_parted := k__law_parted (P := P) (w := w) (base := base) T A.a__law_parted X G c__law_mate c__law_lands
  have c__law_mark := k__law_mark (P := P) (w := w) (base := base) T A.a__law_mark X G 
  have c__law_sums := k__law_sums (P := P) (w := w) (base := base) T A.a__law_sums X G c__law_mark
  have c__law_rest := k__law_rest (P := P) (w := w) (base := base) T A.a__law_rest X G c__law_mate c__law_seats
  have c__law_divides := k__law_divides (P := P) (w := w) (base := base) T A.a__law_divides X G 
  have c__law_one_round := k__law_one_round (P := P) (w := w) (base := base) T A.a__law_one_round X G c__law_divides c_fill_of c__law_parted c__law_sums
  exact F.ok sc_law (fun vs H Q E h => by repeat (first | (obtain ⟨e, _⟩ := h; subst e; rfl) | obtain ⟨_, h⟩ := h)) fun cdv A' outer s H vs Q E hr h => ⟨_, d_law T c__law_seats c__law_sums c__law_one_round c_marks_of c__law_turn c__law_cell c__law_rest c__law_some c__law_draws f cdv A' outer s H E hr, r_law vs H Q E h⟩
end
end Rf
end
section
set_option linter.all false
set_option maxRecDepth 100000
set_option maxHeartbeats 4000000
/-! Fin: the end (printed by gen3.py). -/
namespace Rf
open PySem PyProof.Rows L2
theorem At.mk {K : PySem.W.Frag} {x : Str} {st : Stmt} {f : Addr} {od an : Option Addr} {sl : Array (Option Value)} {oc kV dc pm cd ct : Value} (a : PySem.W.nsIn K mainGlobals x = some (some (.ref f)))
    (l : K.lookup f = some ⟨oc, od, .func (PySem.W.fnOf x x (defArgs st) (defBody st) (defScope st) .none kV dc pm an cd ct), sl⟩) (c : PySem.W.codeIn K cd x = true) (k : PySem.W.keepIn K (.ref f) = true) : At K x st := ⟨f, od, an, sl, oc, kV, dc, pm, cd, ct, a, l, c, k⟩
theorem all_mk {l : PySem.W.OpenLaw} {w : World} {K : PySem.W.Frag} {h : Heap} {mg : Str → Option Value} {fa f2 : Addr} (X : K.In h) (G : h.Ns mainGlobals mg) (hfa : mg "law" = some (.ref fa))
    {od2 an2 : Option Addr} {sl2 : Array (Option Value)} {oc2 kV2 dc2 pm2 cd2 ct2 : Value}
    (a2 : PySem.W.nsIn K mainGlobals "law" = some (some (.ref f2))) (l2 : K.lookup f2 = some ⟨oc2, od2, .func (PySem.W.fnOf "law" "law" (defArgs s_law) (defBody s_law) (defScope s_law) .none kV2 dc2 pm2 an2 cd2 ct2), sl2⟩) (c2 : PySem.W.codeIn K cd2 "law" = true) (k2 : PySem.W.keepIn K (.ref f2) = true)
    (A : Ats K) :
    ∃ fd : FuncData, (∀ (s : Shared) (v : Value), BindsTo s fd ⟨[v], []⟩ [("_law_script", v)]) ∧ ∀ base : Heap, K.In base → base.Ns mainGlobals mg → FnOk l.prog w K mg base CX0 8 fa fd ["_law_script"] (sp_law K) := by
  have e := hfa.symm.trans (PySem.W.mg_of X G a2)
  cases e
  have F := fun_mk (st := s_law) l2 c2 k2
  exact ⟨PySem.W.fnOf "law" "law" (defArgs s_law) (defBody s_law) (defScope s_law) .none kV2 dc2 pm2 an2 cd2 ct2, fun s v => .of_eq rfl, fun base _ _ => law_callee (base := base) A X G F⟩
end Rf
end
set_option linter.all false
set_option maxRecDepth 100000
open PySem PySem.W PyProof.Rows
set_option maxHeartbeats 0
open_top hd for PySem.Challenge.rw_ringfloor_k62_whole_rounds_by_marks
theorem PySem.Challenge.cw_ringfloor_k62_whole_rounds_by_marks_holds : PySem.Challenge.rw_ringfloor_k62_whole_rounds_by_marks.Holds := by
  refine hd ?_
  k_fill
  refine L2.walk_of (l := PySem.Challenge.rw_ringfloor_k62_whole_rounds_by_marks) (n := 63) (k := 8) (x := "_law_script") (CX := fun _ => L2.CX0) (sp := fun w => Rf.sp_law _) rfl (by decide) rfl ⟨rfl, by decide, by decide⟩ (fun w h Y => PySem.W.kIn_of Y) ?F (fun _ _ a ns hl _ hS => ⟨.ref a, ns, rfl, ⟨a, rfl, hS⟩, fun _ => rfl⟩) (fun _ _ _ _ _ h => h)
  case F =>
    intro w mg fa h KX G hmg'
    have hmg : mg ("law" : PySem.Str) = some (.ref fa) := hmg'
    clear hmg'
    refine' Rf.all_mk KX G hmg ?a1 ?l1 ?c1 ?k1 ?A
    (case a1 => k_is); (case l1 => k_is); (case c1 => k_is); (case k1 => k_is)
    case A =>
      refine' ⟨?amate_of, ?acount_ends, ?aseats_of, ?abehind_of, ?alands_of, ?apart_about, ?aparts_of, ?aholes_of, ?atree_from, ?away_up, ?aturned_about, ?around_along, ?aland_numbers, ?aland_tree, ?aleft_ties, ?aboth_trees, ?ais_ring, ?aask_ring, ?amark_of, ?aadded, ?aarea_of, ?aareas_added, ?amarks_of, ?ais_walk, ?aask_walk, ?aleft_counts, ?acrossing_by, ?anet_counts, ?aspread_numbers, ?afilling, ?acrosser, ?afill_of, ?a_law_cell, ?a_law_draws, ?a_law_mate, ?a_law_settled, ?a_law_seats, ?a_law_behind, ?a_law_lands, ?a_law_tied, ?a_law_renamed, ?a_law_grown, ?a_law_kind, ?a_law_numbers, ?a_law_some, ?a_law_core, ?a_law_turn, ?a_law_parted, ?a_law_mark, ?a_law_sums, ?a_law_rest, ?a_law_divides, ?a_law_one_round, ?zlen, ?zsum, ?zmin, ?zmax, ?zabs, ?zlist, ?zsorted, ?zrange, ?zenumerate, ?zreversed⟩
      (case amate_of => (refine' Rf.At.mk ?a ?l ?c ?k; (case a => k_is); (case l => k_is); (case c => k_is); (case k => k_is)))
      (case acount_ends => (refine' Rf.At.mk ?a ?l ?c ?k; (case a => k_is); (case l => k_is); (case c => k_is); (case k => k_is)))
      (case aseats_of => (refine' Rf.At.mk ?a ?l ?c ?k; (case a => k_is); (case l => k_is); (case c => k_is); (case k => k_is)))
      (case abehind_of => (refine' Rf.At.mk ?a ?l ?c ?k; (case a => k_is); (case l => k_is); (case c => k_is); (case k => k_is)))
      (case alands_of => (refine' Rf.At.mk ?a ?l ?c ?k; (case a => k_is); (case l => k_is); (case c => k_is); (case k => k_is)))
      (case apart_about => (refine' Rf.At.mk ?a ?l ?c ?k; (case a => k_is); (case l => k_is); (case c => k_is); (case k => k_is)))
      (case aparts_of => (refine' Rf.At.mk ?a ?l ?c ?k; (case a => k_is); (case l => k_is); (case c => k_is); (case k => k_is)))
      (case aholes_of => (refine' Rf.At.mk ?a ?l ?c ?k; (case a => k_is); (case l => k_is); (case c => k_is); (case k => k_is)))
      (case atree_from => (refine' Rf.At.mk ?a ?l ?c ?k; (case a => k_is); (case l => k_is); (case c => k_is); (case k => k_is)))
      (case away_up => (refine' Rf.At.mk ?a ?l ?c ?k; (case a => k_is); (case l => k_is); (case c => k_is); (case k => k_is)))
      (case aturned_about => (refine' Rf.At.mk ?a ?l ?c ?k; (case a => k_is); (case l => k_is); (case c => k_is); (case k => k_is)))
      (case around_along => (refine' Rf.At.mk ?a ?l ?c ?k; (case a => k_is); (case l => k_is); (case c => k_is); (case k => k_is)))
      (case aland_numbers => (refine' Rf.At.mk ?a ?l ?c ?k; (case a => k_is); (case l => k_is); (case c => k_is); (case k => k_is)))
      (case aland_tree => (refine' Rf.At.mk ?a ?l ?c ?k; (case a => k_is); (case l => k_is); (case c => k_is); (case k => k_is)))
      (case aleft_ties => (refine' Rf.At.mk ?a ?l ?c ?k; (case a => k_is); (case l => k_is); (case c => k_is); (case k => k_is)))
      (case aboth_trees => (refine' Rf.At.mk ?a ?l ?c ?k; (case a => k_is); (case l => k_is); (case c => k_is); (case k => k_is)))
      (case ais_ring => (refine' Rf.At.mk ?a ?l ?c ?k; (case a => k_is); (case l => k_is); (case c => k_is); (case k => k_is)))
      (case aask_ring => (refine' Rf.At.mk ?a ?l ?c ?k; (case a => k_is); (case l => k_is); (case c => k_is); (case k => k_is)))
      (case amark_of => (refine' Rf.At.mk ?a ?l ?c ?k; (case a => k_is); (case l => k_is); (case c => k_is); (case k => k_is)))
      (case aadded => (refine' Rf.At.mk ?a ?l ?c ?k; (case a => k_is); (case l => k_is); (case c => k_is); (case k => k_is)))
      (case aarea_of => (refine' Rf.At.mk ?a ?l ?c ?k; (case a => k_is); (case l => k_is); (case c => k_is); (case k => k_is)))
      (case aareas_added => (refine' Rf.At.mk ?a ?l ?c ?k; (case a => k_is); (case l => k_is); (case c => k_is); (case k => k_is)))
      (case amarks_of => (refine' Rf.At.mk ?a ?l ?c ?k; (case a => k_is); (case l => k_is); (case c => k_is); (case k => k_is)))
      (case ais_walk => (refine' Rf.At.mk ?a ?l ?c ?k; (case a => k_is); (case l => k_is); (case c => k_is); (case k => k_is)))
      (case aask_walk => (refine' Rf.At.mk ?a ?l ?c ?k; (case a => k_is); (case l => k_is); (case c => k_is); (case k => k_is)))
      (case aleft_counts => (refine' Rf.At.mk ?a ?l ?c ?k; (case a => k_is); (case l => k_is); (case c => k_is); (case k => k_is)))
      (case acrossing_by => (refine' Rf.At.mk ?a ?l ?c ?k; (case a => k_is); (case l => k_is); (case c => k_is); (case k => k_is)))
      (case anet_counts => (refine' Rf.At.mk ?a ?l ?c ?k; (case a => k_is); (case l => k_is); (case c => k_is); (case k => k_is)))
      (case aspread_numbers => (refine' Rf.At.mk ?a ?l ?c ?k; (case a => k_is); (case l => k_is); (case c => k_is); (case k => k_is)))
      (case afilling => (refine' Rf.At.mk ?a ?l ?c ?k; (case a => k_is); (case l => k_is); (case c => k_is); (case k => k_is)))
      (case acrosser => (refine' Rf.At.mk ?a ?l ?c ?k; (case a => k_is); (case l => k_is); (case c => k_is); (case k => k_is)))
      (case afill_of => (refine' Rf.At.mk ?a ?l ?c ?k; (case a => k_is); (case l => k_is); (case c => k_is); (case k => k_is)))
      (case a_law_cell => (refine' Rf.At.mk ?a ?l ?c ?k; (case a => k_is); (case l => k_is); (case c => k_is); (case k => k_is)))
      (case a_law_draws => (refine' Rf.At.mk ?a ?l ?c ?k; (case a => k_is); (case l => k_is); (case c => k_is); (case k => k_is)))
      (case a_law_mate => (refine' Rf.At.mk ?a ?l ?c ?k; (case a => k_is); (case l => k_is); (case c => k_is); (case k => k_is)))
      (case a_law_settled => (refine' Rf.At.mk ?a ?l ?c ?k; (case a => k_is); (case l => k_is); (case c => k_is); (case k => k_is)))
      (case a_law_seats => (refine' Rf.At.mk ?a ?l ?c ?k; (case a => k_is); (case l => k_is); (case c => k_is); (case k => k_is)))
      (case a_law_behind => (refine' Rf.At.mk ?a ?l ?c ?k; (case a => k_is); (case l => k_is); (case c => k_is); (case k => k_is)))
      (case a_law_lands => (refine' Rf.At.mk ?a ?l ?c ?k; (case a => k_is); (case l => k_is); (case c => k_is); (case k => k_is)))
      (case a_law_tied => (refine' Rf.At.mk ?a ?l ?c ?k; (case a => k_is); (case l => k_is); (case c => k_is); (case k => k_is)))
      (case a_law_renamed => (refine' Rf.At.mk ?a ?l ?c ?k; (case a => k_is); (case l => k_is); (case c => k_is); (case k => k_is)))
      (case a_law_grown => (refine' Rf.At.mk ?a ?l ?c ?k; (case a => k_is); (case l => k_is); (case c => k_is); (case k => k_is)))
      (case a_law_kind => (refine' Rf.At.mk ?a ?l ?c ?k; (case a => k_is); (case l => k_is); (case c => k_is); (case k => k_is)))
      (case a_law_numbers => (refine' Rf.At.mk ?a ?l ?c ?k; (case a => k_is); (case l => k_is); (case c => k_is); (case k => k_is)))
      (case a_law_some => (refine' Rf.At.mk ?a ?l ?c ?k; (case a => k_is); (case l => k_is); (case c => k_is); (case k => k_is)))
      (case a_law_core => (refine' Rf.At.mk ?a ?l ?c ?k; (case a => k_is); (case l => k_is); (case c => k_is); (case k => k_is)))
      (case a_law_turn => (refine' Rf.At.mk ?a ?l ?c ?k; (case a => k_is); (case l => k_is); (case c => k_is); (case k => k_is)))
      (case a_law_parted => (refine' Rf.At.mk ?a ?l ?c ?k; (case a => k_is); (case l => k_is); (case c => k_is); (case k => k_is)))
      (case a_law_mark => (refine' Rf.At.mk ?a ?l ?c ?k; (case a => k_is); (case l => k_is); (case c => k_is); (case k => k_is)))
      (case a_law_sums => (refine' Rf.At.mk ?a ?l ?c ?k; (case a => k_is); (case l => k_is); (case c => k_is); (case k => k_is)))
      (case a_law_rest => (refine' Rf.At.mk ?a ?l ?c ?k; (case a => k_is); (case l => k_is); (case c => k_is); (case k => k_is)))
      (case a_law_divides => (refine' Rf.At.mk ?a ?l ?c ?k; (case a => k_is); (case l => k_is); (case c => k_is); (case k => k_is)))
      (case a_law_one_round => (refine' Rf.At.mk ?a ?l ?c ?k; (case a => k_is); (case l => k_is); (case c => k_is); (case k => k_is)))
      (case zlen => k_is)
      (case zsum => k_is)
      (case zmin => k_is)
      (case zmax => k_is)
      (case zabs => k_is)
      (case zlist => k_is)
      (case zsorted => k_is)
      (case zrange => k_is)
      (case zenumerate => k_is)
      (case zreversed => k_is)
