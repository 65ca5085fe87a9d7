import PyProof.Rows.All
import Wide.All
import OpenK.AllK
import Wide.FinOn
import KE.KStateDown
import Lean
import HandS.ForMost
import HandS.ForExc
import HandS.Defaults
import HandS.More
import HandS.Conv
import HandS.IsInst
import HandS.TupAny
import HandS.TupMul
import HandS.Evl
import HandS.HeadHook1
import HandS.HeadHook2
import HandS.SortInts
import HandS.Steps
import KE.Datum
import HandS.Head0
import HandS.Head1
import HandS.Head2
import HandS.HeadEnd
import PySem.Challenge.RW_keywatch_k01_put
set_option Elab.async false
set_option linter.all false
set_option maxRecDepth 100000
set_option maxHeartbeats 4000000
/-! own rules over the hand layer: a tuple times 0 or 1, max and min of two texts, defs and methods as one thing each -/
namespace KW
open PySem PySem.Spec PyProof.Rows L2

/-! ### t * 0, t * 1 -/
theorem tuple_mul1 (l : Addr) (items : Array Value) (n : Nat) (sl : Array (Option Value)) (dd : Option Addr) (u : Tok) :
    Meets (Builtin.«tuple.__mul__» ⟨[.ref l, .int 1 u], []⟩) (fun _ R s => s.heap.get? l = some { cls := .type "tuple", dict := dd, data := .seq items n, slots := sl } ∧ R (.ok (.ret (Value.ref l))) s) :=
  .of_wp fun prog w A R s h => by
    obtain ⟨hp, g, d, tk, os⟩ := s
    obtain ⟨hl, h⟩ := h
    have f1 := AutoSeq1.idx_int
    have c1 : (items.isEmpty || (1 : Int) == 1) = true := by simp
    wp_walk using wpAny_loadPart' hl
    repeat (first
      | (refine wpAny_ite_true (decide_eq_true (by rw [c1])) ?_; wp_walk using wpAny_loadPart' hl))
    exact ⟨_, rfl, h⟩
theorem tuple_mul0 (l : Addr) (items : Array Value) (n : Nat) (sl : Array (Option Value)) (dd : Option Addr) (u : Tok) (hne : items.isEmpty = false) :
    Meets (Builtin.«tuple.__mul__» ⟨[.ref l, .int 0 u], []⟩) (fun _ R s => s.heap.get? l = some { cls := .type "tuple", dict := dd, data := .seq items n, slots := sl } ∧
      R (.ok (.ret (Value.ref s.heap.objs.size))) { s with heap := s.heap.push { cls := Value.type "tuple", data := Data.seq #[] }, toks := s.toks }) :=
  .of_wp fun prog w A R s h => by
    obtain ⟨hp, g, d, tk, os⟩ := s
    obtain ⟨hl, h⟩ := h
    have f1 := AutoSeq1.idx_int
    have c1 : (items.isEmpty || (0 : Int) == 1) = false := by rw [hne]; rfl
    wp_walk using wpAny_loadPart' hl
    repeat (first
      | (refine wpAny_ite_false (decide_eq_false (by rw [c1]; exact Bool.false_ne_true)) ?_; wp_walk using wpAny_loadPart' hl))
    exact ⟨_, rfl, h⟩
def rRep01 (K : PySem.W.Frag) : R2 := fun x y H Q => ∃ l k xs, x = .ref l ∧ y = .int k ∧ SqT K H l xs ∧ xs ≠ [] ∧ ((k = 1 ∧ Q (.ref l) H) ∨ (k = 0 ∧ ∀ p, H p = none → Q (.ref p) (upd H p (.tup []))))
section
variable {X : Cx}
theorem op_rep01 : OpR X (binaryOp .Mult) (rRep01 X.K) := by
  intro pins s σ H x y v u Q I rx ry h
  obtain ⟨l, k, xs, rfl, rfl, hT, hne, h⟩ := h
  cases rx
  obtain ⟨t, rfl⟩ := ry
  obtain ⟨its, r, ⟨⟨cls, dd, data, sl⟩, ho, hc, n, hd⟩, hs⟩ := I.tuple hT
  simp only at hc hd
  subst hc hd
  have hle : its.length = xs.length := r.length.symm
  have hn : its ≠ [] := fun e => hne (by
    rw [e] at hle
    exact List.eq_nil_of_length_eq_zero hle.symm)
  have hi : its.toArray.isEmpty = false := by
    cases its with
    | nil => exact absurd rfl hn
    | cons a b => rfl
  rcases h with ⟨rfl, q⟩ | ⟨rfl, q⟩
  · exact wpAny_binaryOp_repeat_ref (T := "tuple") (U := "int") (by decide) ⟨_, ho, rfl⟩ (fun s' => typeIs_int s' 1 t) noFill_tuple_mul F.fills_int_mul F.slot_int_rmul repeat_tuple F.slot_int_index.lookup
      (call_meets F.slot_int_rmul (typeIs_int s 1 t) F.entry_int_rmul (F.args_int_rmul_2 _ _) (int_rmul_tuple 1 t l its.toArray n dd sl)
        ⟨ho, rfl, ⟨_, ho, rfl⟩, call_meets F.slot_tuple_mul ⟨_, ho, rfl⟩ F.entry_tuple_mul (F.args_tuple_mul_2 _ _) (tuple_mul1 l its.toArray n sl dd t) ⟨ho, .ref l, H, I, rfl, q⟩⟩)
  · exact wpAny_binaryOp_repeat_ref (T := "tuple") (U := "int") (by decide) ⟨_, ho, rfl⟩ (fun s' => typeIs_int s' 0 t) noFill_tuple_mul F.fills_int_mul F.slot_int_rmul repeat_tuple F.slot_int_index.lookup
      (call_meets F.slot_int_rmul (typeIs_int s 0 t) F.entry_int_rmul (F.args_int_rmul_2 _ _) (int_rmul_tuple 0 t l its.toArray n dd sl)
        ⟨ho, rfl, ⟨_, ho, rfl⟩, call_meets F.slot_tuple_mul ⟨_, ho, rfl⟩ F.entry_tuple_mul (F.args_tuple_mul_2 _ _) (tuple_mul0 l its.toArray n sl dd t hi)
          ⟨ho, .ref s.heap.objs.size, _, I.laid (t' := s.toks) (o := .tup []) (fun b ob q => Heap.get?_push_of_some _ q) (Nat.le_refl _) ⟨Nat.zero_le _, [], .nil, IsTup.new _ _⟩, rfl, q _ (I.hok.fresh (Nat.le_refl _))⟩⟩)
end

/-! ### max, min of two texts -/
theorem cmp_strs_gt {prog : Program} {w : World} {A : Around} {P : Nat → Value → Prop} (val : Nat → Str) (hval : ∀ i v, P i v → ∃ t, v = .str (val i) t) :
    CmpOf prog w A .Gt P (fun i j => decide ((val j).cps.toList < (val i).cps.toList)) := fun i j vi vj s Q E hi hj h => by
  obtain ⟨t, rfl⟩ := hval i vi hi
  obtain ⟨u, rfl⟩ := hval j vj hj
  exact richCompare_gives (op := .Gt) (typeIs_str s _ t) (typeIs_str s _ u) F.slot_str_gt F.entry_str_gt (F.args_str_gt_2 _ _) (gives_str_gt _ _ t u) (fun x => nomatch x) h
theorem cmp_strs_lt {prog : Program} {w : World} {A : Around} {P : Nat → Value → Prop} (val : Nat → Str) (hval : ∀ i v, P i v → ∃ t, v = .str (val i) t) :
    CmpOf prog w A .Lt P (fun i j => decide ((val i).cps.toList < (val j).cps.toList)) := fun i j vi vj s Q E hi hj h => by
  obtain ⟨t, rfl⟩ := hval i vi hi
  obtain ⟨u, rfl⟩ := hval j vj hj
  exact richCompare_gives (op := .Lt) (typeIs_str s _ t) (typeIs_str s _ u) F.slot_str_lt F.entry_str_lt (F.args_str_lt_2 _ _) (gives_str_lt _ _ t u) (fun x => nomatch x) h
theorem iter_list0 {prog : Program} {w : World} {A : Around} {E : Value → Shared → Prop} {s : Shared} {l : Addr} {items : Array Value} {Q : Value → Shared → Prop} (hl : s.heap.IsList l items)
    (h : ∀ s2 : Shared, s2 = { s with heap := s.heap.push { cls := .type "list_iterator", data := .fields #[.ref l, .int 0 0] } } →
      (s2.heap.IsListIter s.heap.objs.size l 0 ∧ s2.heap.IsList l items) → (∀ b ∈ [s.heap.objs.size, l], b < s2.heap.objs.size) → l ≠ s.heap.objs.size → Q (.ref s.heap.objs.size) s2) :
    wpAny (model prog w) A (pyIter (.ref l)) Q E s := by
  have hlt : l < s.heap.objs.size := by obtain ⟨_, e, _⟩ := hl; exact Heap.lt_size e
  refine wpAny_pyIter_list hl (h _ rfl ⟨⟨_, Heap.get?_push_size _ rfl, rfl, rfl⟩, hl.push _⟩ (fun b hb => ?_) (Nat.ne_of_lt hlt))
  show b < (s.heap.push _).objs.size
  rw [Heap.size_push]
  rcases List.mem_cons.mp hb with rfl | hb
  · exact Nat.lt_succ_self _
  · rcases List.mem_cons.mp hb with rfl | hb
    · exact Nat.lt_succ_of_lt hlt
    · cases hb
/-- the greater of two texts; the first, where they are the same -/
def maxS (x y : Str) : Str := if x.cps.toList < y.cps.toList then y else x
def minS (x y : Str) : Str := if y.cps.toList < x.cps.toList then y else x
def rMaxS (K : PySem.W.Frag) : List V → Hp → VK → Prop := fun vs H Q => ∃ (a : Addr) (x y : Str), vs = [V.ref a] ∧ SqL K H a [.str x, .str y] ∧ Q (.str (maxS x y)) H
def rMinS (K : PySem.W.Frag) : List V → Hp → VK → Prop := fun vs H Q => ∃ (a : Addr) (x y : Str), vs = [V.ref a] ∧ SqL K H a [.str x, .str y] ∧ Q (.str (minS x y)) H
def two (x y : Str) (i : Nat) : Str := if i = 0 then x else y
theorem two_at {x y : Str} {t u : Tok} {i : Nat} {v : Value} (h : (#[Value.str x t, Value.str y u] : Array Value)[i]? = some v) : ∃ t, v = .str (two x y i) t := by
  match i, h with
  | 0, h => cases h; exact ⟨t, rfl⟩
  | 1, h => cases h; exact ⟨u, rfl⟩
  | n + 2, h => simp at h
section
variable {X : Cx}
theorem vals_two {x y : Str} {us : List Value} (r : Vals [.str x, .str y] us) : ∃ t u, us = [Value.str x t, Value.str y u] := by
  cases r with
  | cons a r =>
    cases r with
    | cons b r =>
      cases r
      obtain ⟨t, rfl⟩ := a
      obtain ⟨u, rfl⟩ := b
      exact ⟨t, u, rfl⟩
theorem cr_maxS (hc : X.calm = true) : CallR X (.builtin "max") (rMaxS X.K) := by
  intro pins s σ H vs us Q I r h
  obtain ⟨a, x, y, rfl, hs, q⟩ := h
  obtain ⟨its, rv, hl, _⟩ := I.list hs
  rw [Vals.ref1 r]
  obtain ⟨t, u, rfl⟩ := vals_two rv
  refine call_max_walk (iter_list0 hl.isList fun s2 e st hfp hlI => ?_)
  subst e
  refine ⟨_, _, _, _, _, _, _, rfl, Walks.list (A := X.A.in1) (I.ok.hd hc) _ a hlI _, st, hfp, by simp, cmp_strs_gt (two x y) (fun _ _ h => two_at h), fun v h' tk hP hk => ?_⟩
  have hk' := old_kept hk
  have e1 : argBest (fun i j => decide ((two x y j).cps.toList < (two x y i).cps.toList)) 1 = if x.cps.toList < y.cps.toList then 1 else 0 := by
    show (if decide ((two x y 0).cps.toList < (two x y 1).cps.toList) = true then 1 else 0) = _
    simp [two]
  have hP2 : (#[Value.str x t, Value.str y u] : Array Value)[argBest (fun i j => decide ((two x y j).cps.toList < (two x y i).cps.toList)) 1]? = some v := hP
  rw [e1] at hP2
  obtain ⟨t', rfl⟩ := two_at hP2
  refine ⟨.str (maxS x y), H, I.kept hk', ⟨t', ?_⟩, q⟩
  unfold two maxS
  by_cases hb : x.cps.toList < y.cps.toList <;> simp [hb]
theorem cr_minS (hc : X.calm = true) : CallR X (.builtin "min") (rMinS X.K) := by
  intro pins s σ H vs us Q I r h
  obtain ⟨a, x, y, rfl, hs, q⟩ := h
  obtain ⟨its, rv, hl, _⟩ := I.list hs
  rw [Vals.ref1 r]
  obtain ⟨t, u, rfl⟩ := vals_two rv
  refine call_min_walk (iter_list0 hl.isList fun s2 e st hfp hlI => ?_)
  subst e
  refine ⟨_, _, _, _, _, _, _, rfl, Walks.list (A := X.A.in1) (I.ok.hd hc) _ a hlI _, st, hfp, by simp, cmp_strs_lt (two x y) (fun _ _ h => two_at h), fun v h' tk hP hk => ?_⟩
  have hk' := old_kept hk
  have e1 : argBest (fun i j => decide ((two x y i).cps.toList < (two x y j).cps.toList)) 1 = if y.cps.toList < x.cps.toList then 1 else 0 := by
    show (if decide ((two x y 1).cps.toList < (two x y 0).cps.toList) = true then 1 else 0) = _
    simp [two]
  have hP2 : (#[Value.str x t, Value.str y u] : Array Value)[argBest (fun i j => decide ((two x y i).cps.toList < (two x y j).cps.toList)) 1]? = some v := hP
  rw [e1] at hP2
  obtain ⟨t', rfl⟩ := two_at hP2
  refine ⟨.str (minS x y), H, I.kept hk', ⟨t', ?_⟩, q⟩
  unfold two minS
  by_cases hb : y.cps.toList < x.cps.toList <;> simp [hb]
end

/-! ### defs, methods, classes as callers have them -/
def CFn (P : Program) (w : World) (K : PySem.W.Frag) (mg : Str → Option Value) (base : Heap) (CX : CXT) (k : Nat) (x : Str) (ps : List Str) (sp : Sp) : Prop :=
  ∃ (f : Addr) (fd : FuncData), mg x = some (.ref f) ∧ PySem.W.keepIn K (.ref f) = true ∧ Binds K fd ps [] ∧ FnOk P w K mg base CX k f fd ps sp
def CMn (P : Program) (w : World) (K : PySem.W.Frag) (mg : Str → Option Value) (base : Heap) (CX : CXT) (k : Nat) (C : Addr) (m : Str) (ps : List Str) (dvs : List V) (sp : Sp) : Prop :=
  ∃ (f : Addr) (fd : FuncData) (ds : List Value), Meth K C m f ∧ Vals dvs ds ∧ Binds K fd ps ds ∧ FnOk P w K mg base CX k f fd ps sp
def CKn (P : Program) (w : World) (K : PySem.W.Frag) (mg : Str → Option Value) (base : Heap) (CX : CXT) (k : Nat) (C : Addr) (x : Str) (ps : List Str) (sp : Sp) : Prop :=
  ∃ (f : Addr) (fd : FuncData), Mk K C f ∧ mg x = some (.ref C) ∧ Binds K fd ps [] ∧ FnOk P w K mg base CX k f fd ps sp
section
variable {X : Cx} {CX : CXT} {k : Nat} {C : Addr} {ps : List Str} {sp : Sp} {dvs : List V} {E : XK} {x m : Str} {p pos apos : Pos} {e o : Expr} {es : List Expr} {ta : TE} {t : TA}
theorem pe_cf (h : CFn X.prog X.w X.K X.mg X.base CX k x ps sp) (hr : Room k X.A) (hg : Gl X x) (hx : Passes CX X E) (ha : PA X (e :: es) t)
    (hdb : (x == ("__debug__" : Str)) = false := by decide) (he : starEach (e :: es) X.env = (false, eval e X.env) :: starEach es X.env := by rfl) (hpl : (backTo pos (starEach es X.env)).any (·.1) = false := by rfl) :
    PE X (.Call (.Name x p) (e :: es) [] pos) (tCall sp [] E t) := by
  obtain ⟨f, fd, h1, h2, h3, h4⟩ := h
  exact pe_call h4 hr hg h1 h2 h3 .nil hx ha hdb he hpl
theorem pe_cf0 (h : CFn X.prog X.w X.K X.mg X.base CX k x ps sp) (hr : Room k X.A) (hg : Gl X x) (hx : Passes CX X E)
    (hdb : (x == ("__debug__" : Str)) = false := by decide) : PE X (.Call (.Name x p) [] [] pos) (tCall sp [] E tNil) := by
  obtain ⟨f, fd, h1, h2, h3, h4⟩ := h
  exact pe_call0 h4 hr hg h1 h2 h3 .nil hx hdb
theorem pe_cm {pl : Sem Bool} (he : PE X o ta) (c : Cls X.K C) (h : CMn X.prog X.w X.K X.mg X.base CX k C m ps dvs sp) (hr : Room k X.A) (hx : Passes CX X E) (ha : PA X (e :: es) t)
    (hst : starEach (e :: es) X.env = (false, eval e X.env) :: starEach es X.env := by rfl) (hpl : (backTo pos (starEach es X.env)).any (·.1) = false := by rfl)
    (ht : eval (.Call (.Attribute o m apos) (e :: es) [] pos) X.env = (do
      let ov ← eval o X.env
      standAt apos.atName
      let (f, first) ← holding [ov] (getMethod ov m pl)
      callWith pos f first (backTo pos (starEach (e :: es) X.env)) (backToKw pos (keywordEach [] X.env))) := by rfl) :
    PE X (.Call (.Attribute o m apos) (e :: es) [] pos) (tMeth C m sp dvs E ta t) := by
  obtain ⟨f, fd, ds, h1, h2, h3, h4⟩ := h
  exact pe_meth (pl := pl) he c h1 h4 hr h3 h2 hx ha hst hpl ht
theorem pe_cm0 {pl : Sem Bool} (he : PE X o ta) (c : Cls X.K C) (h : CMn X.prog X.w X.K X.mg X.base CX k C m ps dvs sp) (hr : Room k X.A) (hx : Passes CX X E)
    (ht : eval (.Call (.Attribute o m apos) [] [] pos) X.env = (do
      let ov ← eval o X.env
      standAt apos.atName
      let (f, first) ← holding [ov] (getMethod ov m pl)
      callWith pos f first (backTo pos (starEach [] X.env)) (backToKw pos (keywordEach [] X.env))) := by rfl) :
    PE X (.Call (.Attribute o m apos) [] [] pos) (tMeth C m sp dvs E ta tNil) := by
  obtain ⟨f, fd, ds, h1, h2, h3, h4⟩ := h
  exact pe_meth0 (pl := pl) he c h1 h4 hr h3 h2 hx ht
theorem pe_ck0 (h : CKn X.prog X.w X.K X.mg X.base CX k C x ps sp) (hr : Room (k + 1) X.A) (hg : Gl X x) (hx : Passes CX X E)
    (hdb : (x == ("__debug__" : Str)) = false := by decide) : PE X (.Call (.Name x p) [] [] pos) (tMake C sp [] E tNil) := by
  obtain ⟨f, fd, h1, h2, h3, h4⟩ := h
  exact pe_make0 h1 h4 hr hg h2 h3 .nil hx hdb
theorem pe_ck (h : CKn X.prog X.w X.K X.mg X.base CX k C x ps sp) (hr : Room (k + 1) X.A) (hg : Gl X x) (hx : Passes CX X E) (ha : PA X (e :: es) t)
    (hdb : (x == ("__debug__" : Str)) = false := by decide) (he : starEach (e :: es) X.env = (false, eval e X.env) :: starEach es X.env := by rfl) (hpl : (backTo pos (starEach es X.env)).any (·.1) = false := by rfl) :
    PE X (.Call (.Name x p) (e :: es) [] pos) (tMake C sp [] E t) := by
  obtain ⟨f, fd, h1, h2, h3, h4⟩ := h
  exact pe_make h1 h4 hr hg h2 h3 .nil hx ha hdb he hpl
end
/-- what a def that may raise lets out, taken up by a body that wishes the same -/
theorem passE {X : Cx} {E : XK} (tk : Takes X (fun cls d _ H => E cls d H)) : Passes (L2.CX X.prog X.w) X E := passes_call tk fun _ _ _ _ h => h
/-- the end of a body by a raise -/
def tRz (E : XK) (C : Addr) : TS := fun _ _ H => E (.ref C) none H
/-- the built-in names that the texts use -/
structure Bi (mg : Str → Option Value) : Prop where
  all : mg "all" = none
  any : mg "any" = none
  bool : mg "bool" = none
  dict : mg "dict" = none
  enumerate : mg "enumerate" = none
  int : mg "int" = none
  isinstance : mg "isinstance" = none
  len : mg "len" = none
  list : mg "list" = none
  max : mg "max" = none
  min : mg "min" = none
  range : mg "range" = none
  set : mg "set" = none
  sorted : mg "sorted" = none
  str : mg "str" = none
  tuple : mg "tuple" = none
end KW

/-! readings by name, and what they evaluate to -/
namespace KW
open PySem PySem.Spec PyProof.Rows L2 Evl

abbrev rAddI : R2 := rI0 fun i j => .int (i + j)
abbrev rSubI : R2 := rI0 fun i j => .int (i - j)
abbrev rMulI : R2 := rI CMul fun i j => .int (i * j)
abbrev rModI : R2 := rI (fun _ j => 0 < j) fun i j => .int (i % j)
abbrev rFdivI : R2 := rI CDiv fun i j => .int (i / j)
abbrev rNegI : V → Hp → VK → Prop := rU fun i => .int (-i)
abbrev rLtI : R2 := rI0 fun i j => .bl (decide (i < j))
abbrev rLeI : R2 := rI0 fun i j => .bl (decide (i ≤ j))
abbrev rGtI : R2 := rI0 fun i j => .bl (decide (j < i))
abbrev rGeI : R2 := rI0 fun i j => .bl (decide (j ≤ i))
def rCatS : R2 := fun x y H Q => ∃ i j, x = .str i ∧ y = .str j ∧ i.length + j.length ≤ sizeLine ∧ Q (.str (i ++ j)) H
def rLtS : R2 := fun x y H Q => ∃ i j, x = .str i ∧ y = .str j ∧ Q (.bl (decide (i.cps.toList < j.cps.toList))) H
def rLeS : R2 := fun x y H Q => ∃ i j, x = .str i ∧ y = .str j ∧ Q (.bl (!decide (j.cps.toList < i.cps.toList))) H
def rLenS1 : List V → Hp → VK → Prop := fun xs H Q => ∃ z, xs = [.str z] ∧ z.length ≤ sizeLine ∧ Q (.int z.length) H
def rLenD : List V → Hp → VK → Prop := fun xs H Q => ∃ a kvs, xs = [V.ref a] ∧ H a = some (.dK kvs) ∧ Q (.int kvs.length) H
def rInt1 : List V → Hp → VK → Prop := fun xs H Q => (∃ i, xs = [.int i] ∧ Q (.int i) H) ∨ ∃ k, xs = [.bl k] ∧ Q (.int (if k then 1 else 0)) H
def rTupOf (K : PySem.W.Frag) : List V → Hp → VK → Prop := fun xs H Q => ∃ p ys, xs = [.ref p] ∧ ((SqL K H p ys ∧ ∀ l, H l = none → Q (.ref l) (upd H l (.tup ys))) ∨ (SqT K H p ys ∧ Q (.ref p) H))
def rDictD : List V → Hp → VK → Prop := fun xs H Q => ∃ (a : Addr) (kvs : List (Key × V)), xs = [.ref a] ∧ Rd H a (.dK kvs) ∧ ∀ p, H p = none → Q (.ref p) (upd H p (.dK kvs))
section
variable {X : Cx}
theorem op_catS : OpR X (binaryOp .Add) rCatS := op_add_str
theorem op_ltS : OpR X (compareOp .Lt) rLtS := op_lt_str
theorem op_leS : OpR X (compareOp .LtE) rLeS := op_le_str
theorem call_len_str1 : CallR X (.builtin "len") rLenS1 := call_len_str
theorem call_lenD1 : CallR X (.builtin "len") rLenD := call_lenD
theorem call_len_seq1 : CallR X (.builtin "len") (rLenS X.K) := call_len_seq
theorem call_int1a : CallR X (.type "int") rInt1 := call_int1
theorem call_list_of1 : CallR X (.type "list") (rListS X.K) := call_list_of
theorem call_tuple_of1 : CallR X (.type "tuple") (rTupOf X.K) := call_tuple_of
theorem call_dictD1 : CallR X (.type "dict") rDictD := call_dictD
theorem pe_gi {x : Str} {i : Int} {pos : Pos} (h : ∃ t, X.mg x = some (.int i t)) (hg : Gl X x) (hd : (x == ("__debug__" : Str)) = false := by decide) : PE X (.Name x pos) (tC (.int i)) := by
  obtain ⟨t, h⟩ := h
  exact pe_glob hg h ⟨t, rfl⟩ hd
theorem pe_gs {x z : Str} {pos : Pos} (h : ∃ t, X.mg x = some (.str z t)) (hg : Gl X x) (hd : (x == ("__debug__" : Str)) = false := by decide) : PE X (.Name x pos) (tC (.str z)) := by
  obtain ⟨t, h⟩ := h
  exact pe_glob hg h ⟨t, rfl⟩ hd
end
/-! ### a list or a tuple that is walked -/
def iSeq (K : PySem.W.Frag) (tl : TE) : TI := fun σ H R => tl σ H fun x H1 => ∃ a, x = .ref a ∧ ((∃ xs, SqL K H1 a xs ∧ R (Itl K a) H1) ∨ ∃ xs, SqT K H1 a xs ∧ R (Itt K a) H1)
theorem pi_seq {X : Cx} {tg l : Expr} {tl : TE} (hl : PE X l tl) : PI X tg l (iSeq X.K tl) := by
  refine ⟨fun pins s σ H R I h => ?_⟩
  refine thn (hl.run pins s σ H _ I h) fun v s1 ⟨x, H1, I1, r1, q1⟩ => ?_
  obtain ⟨a, e, q⟩ := q1
  subst e
  cases r1
  rcases q with ⟨xs, hq, q⟩ | ⟨xs, hq, q⟩
  · obtain ⟨its, rv, p, hz⟩ := I1.list hq
    refine wpAny_pyIter_list p.isList ?_
    refine ⟨s1.heap.objs.size, [s1.heap.objs.size], _, _, H1, rfl, I1.kept (t' := s1.toks) fun b o e => Heap.get?_push_of_some _ e, turn_list a _, ⟨_, Heap.get?_push_size _ rfl, rfl, rfl⟩, fun b hb => ?_, q⟩
    have e : b = s1.heap.objs.size := by simpa using hb
    subst e
    exact I1.fpOk (Nat.le_refl _) (I1.hok.fresh (Nat.le_refl _))
  · obtain ⟨its, rv, p, hz⟩ := I1.tuple hq
    refine wpAny_pyIter_tuple (show s1.heap.IsTuple a its.toArray from p) ?_
    refine ⟨s1.heap.objs.size, [s1.heap.objs.size], _, _, H1, rfl, I1.kept (t' := s1.toks) fun b o e => Heap.get?_push_of_some _ e, turn_tuple a _, ⟨_, Heap.get?_push_size _ rfl, rfl, rfl⟩, fun b hb => ?_, q⟩
    have e : b = s1.heap.objs.size := by simpa using hb
    subst e
    exact I1.fpOk (Nat.le_refl _) (I1.hok.fresh (Nat.le_refl _))
/-! ### == of plain data -/
def rEqP (K : PySem.W.Frag) : R2 := fun x y H Q => ∃ d e, Dp K H x d ∧ Dp K H y e ∧ d.plain = true ∧ e.plain = true ∧ d.depth ≤ 60 ∧ Q (.bl (PyData.eqv d e)) H
def rNeP (K : PySem.W.Frag) : R2 := fun x y H Q => ∃ d e, Dp K H x d ∧ Dp K H y e ∧ d.plain = true ∧ e.plain = true ∧ d.depth ≤ 60 ∧ Q (.bl (!PyData.eqv d e)) H
section
variable {X : Cx}
theorem room_min {A : Around} {d e : PyData} (hu : A.units + 64 < cLine) (h : d.depth ≤ 60) : A.units + min d.depth e.depth < cLine := by
  have h2 : min d.depth e.depth ≤ d.depth := Nat.min_le_left _ _
  omega
theorem op_eqP (hu : X.A.units + 64 < cLine) : OpR X (compareOp .Eq) (rEqP X.K) := by
  intro pins s σ H x y v u Q I rx ry h
  obtain ⟨d, e, hd, he, sd, se, dd, q⟩ := h
  obtain ⟨as, r1⟩ := Dp.reads I d x v hd rx
  obtain ⟨bs, r2⟩ := Dp.reads I e y u he ry
  exact PySem.SeqAt.eq_plain r1 r2 sd se (room_min hu dd) ⟨.bl _, H, I, rfl, q⟩
theorem op_neP (hu : X.A.units + 64 < cLine) : OpR X (compareOp .NotEq) (rNeP X.K) := by
  intro pins s σ H x y v u Q I rx ry h
  obtain ⟨d, e, hd, he, sd, se, dd, q⟩ := h
  obtain ⟨as, r1⟩ := Dp.reads I d x v hd rx
  obtain ⟨bs, r2⟩ := Dp.reads I e y u he ry
  exact PySem.SeqAt.ne_plain r1 r2 sd se (room_min hu dd) ⟨.bl _, H, I, rfl, q⟩
end
/-- an error class of the text -/
structure XcOk (K : PySem.W.Frag) (mg : Str → Option Value) (x : Str) : Prop where
  gC : mg x = some (.ref (He.ga K x))
  xP : PySem.W.excIn K (He.ga K x) He.veBase "ValueError.__new__" = true
  kP : PySem.W.keepIn K (.ref (He.ga K x)) = true
  bP : PySem.W.subIn K (.ref (He.ga K x)) (.type "BaseException") = some true
  tP : PySem.W.typeIn K (.ref (He.ga K x)) = some (.type "type")
theorem XcOk.pmk {X : Cx} {x m : Str} {j : Nat} {p p2 pos : Pos} (h : XcOk X.K X.mg x) (hg : Gl X x) (hdb : (x == ("__debug__" : Str)) = false := by decide) :
    PMk X (.Call (.Name x p) [.Constant (.str m) j p2] [] pos) (fun _ H Q => Q (.ref (He.ga X.K x)) none H) :=
  pmk_own PySem.F.excBase_ValueError h.xP h.gC h.kP (raises_own h.bP h.tP) hg hdb
def clsHouse (K : PySem.W.Frag) : Addr := He.ga K "House"
def clsHand (K : PySem.W.Frag) : Addr := He.ga K "Hand"

/-! ### tuples stay -/
def Kt (H H' : Hp) : Prop := ∀ a xs, H a = some (.tup xs) → H' a = some (.tup xs)
theorem Kt.refl (H : Hp) : Kt H H := fun _ _ h => h
theorem Kt.trans {H H1 H2 : Hp} (a : Kt H H1) (b : Kt H1 H2) : Kt H H2 := fun x xs h => b x xs (a x xs h)
theorem Ex.kt {H H' : Hp} (e : Ex H H') : Kt H H' := fun a xs h => e a _ h
theorem Kt.upd {H H' : Hp} {a : Addr} {o : HO} (k : Kt H H') (h : ∀ xs, H a ≠ some (.tup xs)) : Kt H (upd H' a o) := fun b xs e => by
  have n : b ≠ a := fun z => h xs (z ▸ e)
  rw [upd_ne n]
  exact k b xs e
theorem ne_tup_of {H : Hp} {a : Addr} {o : HO} (h : H a = some o) (n : ∀ xs, o ≠ .tup xs) : ∀ xs, H a ≠ some (.tup xs) := fun xs e => n xs (by rw [h] at e; exact Option.some.inj e)
theorem ne_tup_none {H : Hp} {a : Addr} (h : H a = none) : ∀ xs, H a ≠ some (.tup xs) := fun xs e => by rw [h] at e; cases e

/-! ### a value that is known by what is true of it -/
def EvP (te : TE) (σ : L2.St) (H : Hp) (P : Hp → V → Prop) : Prop := ∀ H1, Ex H H1 → ∀ Q : VK, (∀ v H2, Ex H1 H2 → P H2 v → Q v H2) → te σ H1 Q
def SpP (sp : Sp) (vs : List V) (H : Hp) (P : Hp → V → Prop) : Prop := ∀ H1, Ex H H1 → ∀ Q : VK, (∀ v H2, Ex H1 H2 → P H2 v → Q v H2) → ∀ E : XK, sp vs H1 Q E
section
variable {K : PySem.W.Frag} {σ : L2.St} {H H' : Hp} {ta tb te tx : TE} {t u : TT} {x y z v : V} {r : R2} {P : Hp → V → Prop}
theorem EvP.mono (e : Ex H H') (h : EvP te σ H P) : EvP te σ H' P := fun H1 a Q q => h H1 (e.trans a) Q q
theorem Ev.p (h : Ev te σ H v) (hp : ∀ H1, Ex H H1 → P H1 v) : EvP te σ H P := fun H1 e Q q => h H1 e Q fun H2 e2 => q v H2 e2 (hp H2 (e.trans e2))
theorem evp_call {sp : Sp} {dvs vs : List V} {E : XK} {ta : TA} (h : EvA ta σ H vs) (hs : SpP sp (vs ++ dvs) H P) : EvP (tCall sp dvs E ta) σ H P := fun H1 e Q q =>
  h H1 e _ fun H2 e2 => hs H2 (e.trans e2) Q (fun v H3 e3 hp => q v H3 (e2.trans e3) hp) E
theorem ev_add {i j : Int} (ha : Ev ta σ H (.int i)) (hb : Ev tb σ H (.int j)) : Ev (tOp rAddI ta tb) σ H (.int (i + j)) := ev_op ha hb rv_I0
theorem ev_sub {i j : Int} (ha : Ev ta σ H (.int i)) (hb : Ev tb σ H (.int j)) : Ev (tOp rSubI ta tb) σ H (.int (i - j)) := ev_op ha hb rv_I0
theorem ev_mul {i j : Int} (ha : Ev ta σ H (.int i)) (hb : Ev tb σ H (.int j)) (h : CMul i j) : Ev (tOp rMulI ta tb) σ H (.int (i * j)) := ev_op ha hb (rv_I h)
theorem ev_mod {i j : Int} (ha : Ev ta σ H (.int i)) (hb : Ev tb σ H (.int j)) (h : 0 < j) : Ev (tOp rModI ta tb) σ H (.int (i % j)) := ev_op ha hb (rv_I (C := fun _ j => 0 < j) h)
theorem ev_fdiv {i j : Int} (ha : Ev ta σ H (.int i)) (hb : Ev tb σ H (.int j)) (h : CDiv i j) : Ev (tOp rFdivI ta tb) σ H (.int (i / j)) := ev_op ha hb (rv_I h)
theorem ev_neg {i : Int} (ha : Ev ta σ H (.int i)) : Ev (tUn rNegI ta) σ H (.int (-i)) := ev_un ha ru_neg
theorem ev_lt {i j : Int} (ha : Ev ta σ H (.int i)) (hb : Ev tb σ H (.int j)) : Ev (tOp rLtI ta tb) σ H (.bl (decide (i < j))) := ev_op ha hb rv_I0
theorem ev_le {i j : Int} (ha : Ev ta σ H (.int i)) (hb : Ev tb σ H (.int j)) : Ev (tOp rLeI ta tb) σ H (.bl (decide (i ≤ j))) := ev_op ha hb rv_I0
theorem ev_gt {i j : Int} (ha : Ev ta σ H (.int i)) (hb : Ev tb σ H (.int j)) : Ev (tOp rGtI ta tb) σ H (.bl (decide (j < i))) := ev_op ha hb rv_I0
theorem ev_ge {i j : Int} (ha : Ev ta σ H (.int i)) (hb : Ev tb σ H (.int j)) : Ev (tOp rGeI ta tb) σ H (.bl (decide (j ≤ i))) := ev_op ha hb rv_I0
theorem ev_eq (ha : Ev ta σ H x) (hb : Ev tb σ H y) (h : scal x y = true) : Ev (tOp rEq ta tb) σ H (.bl (decide (x = y))) := ev_op ha hb (rv_eq h)
theorem ev_ne (ha : Ev ta σ H x) (hb : Ev tb σ H y) (h : scal x y = true) : Ev (tOp rNe ta tb) σ H (.bl (!decide (x = y))) := ev_op ha hb (rv_ne h)
theorem ev_eqI {i j : Int} (ha : Ev ta σ H (.int i)) (hb : Ev tb σ H (.int j)) : Ev (tOp rEq ta tb) σ H (.bl (decide (i = j))) := by
  have h := ev_eq ha hb rfl
  have e : decide (V.int i = V.int j) = decide (i = j) := by simp
  rw [e] at h
  exact h
theorem ev_neI {i j : Int} (ha : Ev ta σ H (.int i)) (hb : Ev tb σ H (.int j)) : Ev (tOp rNe ta tb) σ H (.bl (!decide (i = j))) := by
  have h := ev_ne ha hb rfl
  have e : decide (V.int i = V.int j) = decide (i = j) := by simp
  rw [e] at h
  exact h
theorem ev_eqS {i j : Str} (ha : Ev ta σ H (.str i)) (hb : Ev tb σ H (.str j)) : Ev (tOp rEq ta tb) σ H (.bl (decide (i = j))) := by
  have h := ev_eq ha hb rfl
  have e : decide (V.str i = V.str j) = decide (i = j) := by simp
  rw [e] at h
  exact h
theorem ev_catS {i j : Str} (ha : Ev ta σ H (.str i)) (hb : Ev tb σ H (.str j)) (h : i.length + j.length ≤ 100000) : Ev (tOp rCatS ta tb) σ H (.str (i ++ j)) :=
  ev_op ha hb (rv_val fun _ _ _ q => ⟨i, j, rfl, rfl, sz_of h, q⟩)
theorem ev_leS {i j : Str} (ha : Ev ta σ H (.str i)) (hb : Ev tb σ H (.str j)) : Ev (tOp rLeS ta tb) σ H (.bl (!decide (j.cps.toList < i.cps.toList))) :=
  ev_op ha hb (rv_val fun _ _ _ q => ⟨i, j, rfl, rfl, q⟩)
theorem ev_inS {c : Nat} {w : Str} (ha : Ev ta σ H (.str ⟨#[c]⟩)) (hb : Ev tb σ H (.str w)) : Ev (tOp rInS ta tb) σ H (.bl (decide (c ∈ w.cps.toList))) :=
  ev_op ha hb (rv_val fun _ _ _ q => ⟨c, w, rfl, rfl, q⟩)
theorem ev_isN (ha : Ev ta σ H x) : Ev (tOp rIsN ta (tC .non)) σ H (.bl (decide (x = .non))) := ev_op ha ev_c (rv_val fun _ _ _ q => ⟨rfl, q⟩)
theorem ev_notN (ha : Ev ta σ H x) : Ev (tOp rNotN ta (tC .non)) σ H (.bl (!decide (x = .non))) := ev_op ha ev_c (rv_val fun _ _ _ q => ⟨rfl, q⟩)
theorem ev_ixL {p : Addr} {xs : List V} {i : Int} (ha : Ev ta σ H (.ref p)) (hb : Ev tb σ H (.int i)) (h : SqL K H p xs) (hv : atI xs i = some v) : Ev (tOp (rIxL K) ta tb) σ H v := ev_op ha hb (rv_ixL h hv)
theorem ev_ixT {p : Addr} {xs : List V} {i : Int} (ha : Ev ta σ H (.ref p)) (hb : Ev tb σ H (.int i)) (h : SqT K H p xs) (hv : atI xs i = some v) : Ev (tOp (rIxT K) ta tb) σ H v := ev_op ha hb (rv_ixT h hv)
theorem ev_ixS {w : Str} {i : Int} {c : Nat} (ha : Ev ta σ H (.str w)) (hb : Ev tb σ H (.int i)) (h : w.length ≤ 100000) (hv : atI w.cps.toList i = some c) : Ev (tOp rIxS ta tb) σ H (.str ⟨#[c]⟩) := ev_op ha hb (rv_ixS h hv)
/-- an item of a new list -/
theorem ev_ixN {xs : List V} {i : Int} (ha : EvL ta σ H xs) (hb : ∀ H1, Ex H H1 → Ev tb σ H1 (.int i)) (hv : atI xs i = some v) : Ev (tOp (rIxL K) ta tb) σ H v :=
  ev_opL1 ha hb fun p H1 hp _ => rv_ixL (sq_of hp) hv
theorem ev_lenS {w : Str} (ha : Ev ta σ H (.str w)) (h : w.length ≤ 100000) : Ev (tCB rLenS1 (tCons ta tNil)) σ H (.int (w.length : Int)) := fun H1 e Q q =>
  ha H1 e _ fun H2 e2 => ⟨w, rfl, sz_of h, q H2 e2⟩
theorem ev_chain {r r' : R2} {k kz : Bool} {tc : TE} {w : V} (ha : Ev ta σ H x) (hb : Ev tb σ H y) (h1 : RV r x y H (.bl k)) (hc : k = true → Ev tc σ H w) (h2 : k = true → RV r' y w H (.bl kz)) : Ev (tChain r r' ta tb tc) σ H (.bl (k && kz)) := fun H1 e Q q =>
  ha H1 e _ fun H2 e2 => hb H2 (e.trans e2) _ fun H3 e3 => h1 H3 ((e.trans e2).trans e3) _ fun H4 e4 => ⟨k, rfl, by
    cases k with
    | true =>
      show tc σ H4 _
      exact hc rfl H4 (((e.trans e2).trans e3).trans e4) _ fun H5 e5 => h2 rfl H5 ((((e.trans e2).trans e3).trans e4).trans e5) Q fun H6 e6 => q H6 ((((e2.trans e3).trans e4).trans e5).trans e6)
    | false =>
      show Q (.bl false) H4
      exact q H4 ((e2.trans e3).trans e4)⟩
/-- statements over every heap that extends B -/
def Alw (ts : TS) (D : Ends) (σ : L2.St) (B : Hp) : Prop := ∀ H, Ex B H → ts D σ H
variable {D : Ends} {tu tw : TS} {g : TG} {B : Hp}
theorem alw_seq (h : Alw tu { D with nx := tw D } σ B) : Alw (tSeq tu tw) D σ B := h
theorem alw_set {i : Nat} (h : Ev te σ B v) (k : ∀ H, Ex B H → D.nx (σ.set i (some v)) H) : Alw (tAsg te (gName i)) D σ B := fun H e => h H e _ fun H1 e1 => k H1 (e.trans e1)
theorem alw_setP {i : Nat} (h : EvP te σ B P) (k : ∀ v H1, Ex B H1 → P H1 v → ∀ H, Ex H1 H → D.nx (σ.set i (some v)) H) : Alw (tAsg te (gName i)) D σ B := fun H e => h H e _ fun v H1 e1 hp => k v H1 (e.trans e1) hp H1 (Ex.refl H1)
theorem alw_if {b : Bool} (h : EvT t σ B b) (h1 : b = true → Alw tu D σ B) (h2 : b = false → Alw tw D σ B) : Alw (tIfS t tu tw) D σ B := fun H e => h H e _ fun H1 e1 => by
  cases b with
  | true =>
    show tu D σ H1
    exact h1 rfl H1 (e.trans e1)
  | false =>
    show tw D σ H1
    exact h2 rfl H1 (e.trans e1)
theorem alw_ret (h : Ev te σ B v) (k : ∀ H, Ex B H → D.rt v H) : Alw (tRet te) D σ B := fun H e => h H e _ fun H1 e1 => k H1 (e.trans e1)
theorem alw_retP (h : EvP te σ B P) (k : ∀ v H, Ex B H → P H v → D.rt v H) : Alw (tRet te) D σ B := fun H e => h H e _ fun v H1 e1 hp => k v H1 (e.trans e1) hp
theorem alw_next (k : ∀ H, Ex B H → D.nx σ H) : Alw tNext D σ B := k
theorem alw_here (h : Alw tu D σ B) : tu D σ B := h B (Ex.refl B)
theorem alw_forR1 {ta : TA} {j : Nat} {n : Int} (h : EvA ta σ B [.int n]) (hn : 0 ≤ n ∧ n ≤ 100000) (Pv : Nat → L2.St → Hp → Prop) (h0 : ∀ H1, Ex B H1 → Pv 0 σ H1)
    (hs : ∀ (i : Nat) σ' H', (i : Int) < n → Pv i σ' H' → tu { D with nx := Pv (i + 1), ct := Pv (i + 1), bk := D.nx } (σ'.set j (some (.int (i : Int)))) H') (hd : ∀ σ' H', Pv n.toNat σ' H' → D.nx σ' H') : Alw (tFor (iRng1 ta) (gName j) tu) D σ B :=
  fun H e => s_forR1 (h.mono e) hn Pv (fun H1 e1 => h0 H1 (e.trans e1)) hs hd
theorem alw_app {l : Addr} {xs : List V} (hl : ∀ H, Ex B H → H l = some (.lst xs)) (ha : Ev ta σ B (.ref l)) (h : Ev te σ B v) (hz : xs.length < 100000) (k : ∀ H, Ex B H → D.nx σ (upd H l (.lst (xs ++ [v])))) :
    Alw (tDrop (tBM K "list" rAppend ta (tCons te tNil))) D σ B := fun H e =>
  s_app (hl H e) (ha.mono e) (h.mono e) hz fun H1 e1 => k H1 (e.trans e1)
/-- in a row -/
theorem al_set {i : Nat} (h : Ev te σ B v) (k : Alw tw D (σ.set i (some v)) B) : Alw (tSeq (tAsg te (gName i)) tw) D σ B := fun H e => h H e _ fun H1 e1 => k H1 (e.trans e1)
theorem al_setP {i : Nat} (h : EvP te σ B P) (k : ∀ v H1, Ex B H1 → P H1 v → Alw tw D (σ.set i (some v)) H1) : Alw (tSeq (tAsg te (gName i)) tw) D σ B := fun H e => h H e _ fun v H1 e1 hp => k v H1 (e.trans e1) hp H1 (Ex.refl H1)
theorem al_if {b : Bool} {ty : TS} (h : EvT t σ B b) (h1 : b = true → Alw tu { D with nx := ty D } σ B) (h2 : b = false → Alw tw { D with nx := ty D } σ B) : Alw (tSeq (tIfS t tu tw) ty) D σ B := alw_if (D := { D with nx := ty D }) h h1 h2
theorem al_skip (h : Alw tw D σ B) : Alw tNext { D with nx := tw D } σ B := h
theorem al_drop (h : Ev te σ B v) (k : Alw tw D σ B) : Alw (tSeq (tDrop te) tw) D σ B := fun H e => h H e _ fun H1 e1 => k H1 (e.trans e1)
theorem al_forR1 {ta : TA} {j : Nat} {n : Int} (h : EvA ta σ B [.int n]) (hn : 0 ≤ n ∧ n ≤ 100000) (Pv : Nat → L2.St → Hp → Prop) (h0 : ∀ H1, Ex B H1 → Pv 0 σ H1)
    (hs : ∀ (i : Nat) σ' H', (i : Int) < n → Pv i σ' H' → tu { D with nx := Pv (i + 1), ct := Pv (i + 1), bk := tw D } (σ'.set j (some (.int (i : Int)))) H') (hd : ∀ σ' H', Pv n.toNat σ' H' → tw D σ' H') : Alw (tSeq (tFor (iRng1 ta) (gName j) tu) tw) D σ B :=
  alw_forR1 (D := { D with nx := tw D }) h hn Pv h0 hs hd
end
end KW

/-! plain functions: what the laws draw, what the house keeps -/
namespace KW
open PySem PySem.Spec PyProof.Rows L2 Evl

/-! ### draws -/
def cellAt (ns : List Int) (k : Int) : Int :=
  if k < (ns.length : Int) then ns.getD k.toNat 0 else if ns = [] then 0 else ns.getD (k % (ns.length : Int)).toNat 0 * 31 + k
def drawn (ns : List Int) (k : Int) : Int := (cellAt ns k + 7919 * k + 1) * 48271 % 2147483647
@[irreducible] def mixed (ns : List Int) (k m : Int) : Int := (drawn ns k * drawn ns k + 7 * drawn ns k + k) % 2147483629 % m
theorem mixed_nn (ns : List Int) (k : Int) {m : Int} (h : 0 < m) : 0 ≤ mixed ns k m := by
  unfold mixed
  exact Int.emod_nonneg _ (by omega)
theorem mixed_lt (ns : List Int) (k : Int) {m : Int} (h : 0 < m) : mixed ns k m < m := by
  unfold mixed
  exact Int.emod_lt_of_pos _ h
theorem drawn_nn (ns : List Int) (k : Int) : 0 ≤ drawn ns k := Int.emod_nonneg _ (by decide)
theorem drawn_lt (ns : List Int) (k : Int) : drawn ns k < 2147483647 := Int.emod_lt_of_pos _ (by decide)

/-! ### keys -/
def signs : Str := "abcdefghijklmnopqrstuvwxyz0123456789/"
def signL : List Nat := signs.cps.toList
theorem signL_eq : signL = [97,98,99,100,101,102,103,104,105,106,107,108,109,110,111,112,113,114,115,116,117,118,119,120,121,122,48,49,50,51,52,53,54,55,56,57,47] := by decide +kernel
theorem signL_len : signL.length = 37 := by decide +kernel
def isKey (x : Str) : Bool := decide (1 ≤ x.length) && (decide (x.length ≤ 12) && x.cps.toList.all fun c => decide (c ∈ signL))
theorem isKey_iff {x : Str} : isKey x = true ↔ 1 ≤ x.length ∧ x.length ≤ 12 ∧ ∀ c ∈ x.cps.toList, c ∈ signL := by
  unfold isKey
  simp only [Bool.and_eq_true, decide_eq_true_eq, List.all_eq_true]
def keyLens : List Int := [1, 2, 3, 5, 8, 11, 12]
def keyLen (ns : List Int) (at_ : Int) : Nat := (keyLens.getD (mixed ns at_ 7).toNat 1).toNat
theorem keyLen_le (ns : List Int) (at_ : Int) : 1 ≤ keyLen ns at_ ∧ keyLen ns at_ ≤ 12 := by
  unfold keyLen
  have h1 := mixed_nn ns at_ (m := 7) (by decide)
  have h2 := mixed_lt ns at_ (m := 7) (by decide)
  generalize mixed ns at_ 7 = z at h1 h2
  obtain rfl | rfl | rfl | rfl | rfl | rfl | rfl : z = 0 ∨ z = 1 ∨ z = 2 ∨ z = 3 ∨ z = 4 ∨ z = 5 ∨ z = 6 := by omega
  all_goals decide
def signAt (ns : List Int) (k : Int) : Nat := signL.getD (mixed ns k 37).toNat 0
theorem signAt_mem (ns : List Int) (k : Int) : signAt ns k ∈ signL := by
  unfold signAt
  have h1 := mixed_nn ns k (m := 37) (by decide)
  have h2 := mixed_lt ns k (m := 37) (by decide)
  have h3 : (mixed ns k 37).toNat < signL.length := by rw [signL_len]; omega
  rw [List.getD_eq_getElem?_getD, List.getElem?_eq_getElem h3]
  exact List.getElem_mem h3
def keyPart (ns : List Int) (at_ : Int) (n : Nat) : Str := ⟨((List.range n).map fun k : Nat => signAt ns (at_ + 1 + (k : Int))).toArray⟩
def lawKey (ns : List Int) (at_ : Int) : Str := keyPart ns at_ (keyLen ns at_)
theorem lawKey_len (ns : List Int) (at_ : Int) : (lawKey ns at_).length = keyLen ns at_ := by
  unfold lawKey keyPart Str.length
  simp
theorem lawKey_key (ns : List Int) (at_ : Int) : isKey (lawKey ns at_) = true := by
  rw [isKey_iff, lawKey_len]
  refine ⟨(keyLen_le ns at_).1, (keyLen_le ns at_).2, ?_⟩
  unfold lawKey keyPart
  intro c hc
  simp only [List.mem_map, List.mem_range] at hc
  obtain ⟨k, _, rfl⟩ := hc
  exact signAt_mem _ _
def one (c : Nat) : Str := ⟨#[c]⟩
/-- the next key: another one, one sign more, or one sign changed -/
def nextKey (ns : List Int) (here : Int) (last : Str) : Str :=
  if mixed ns (here + 15) 4 = 0 then lawKey ns here
  else if mixed ns (here + 15) 4 = 1 ∧ last.length < 12 then last ++ one (signAt ns (here + 1))
  else cutS last none (some (mixed ns (here + 16) (last.length : Int))) ++ one (signAt ns (here + 1)) ++ cutS last (some (mixed ns (here + 16) (last.length : Int) + 1)) none
theorem sIx_some {n d : Nat} {i : Int} (h0 : 0 ≤ i) (h1 : i ≤ n) : HT.sIx n d (some i) = i.toNat := by
  show (if i < 0 then (i + (n : Int)).toNat else min i.toNat n) = i.toNat
  rw [if_neg (by omega)]
  omega
theorem str_app (a b : Str) : (a ++ b).cps.toList = a.cps.toList ++ b.cps.toList := by
  show (a.cps ++ b.cps).toList = _
  simp
theorem str_len (a : Str) : a.length = a.cps.toList.length := by simp [Str.length]
theorem str_ext {a b : Str} (h : a.cps.toList = b.cps.toList) : a = b := by
  cases a; cases b
  congr
  exact Array.toList_inj.mp h
theorem cut_pre {z : Str} {i : Int} (h0 : 0 ≤ i) (h1 : i ≤ (z.length : Int)) : (cutS z none (some i)).cps.toList = z.cps.toList.take i.toNat := by
  unfold cutS
  rw [sIx_some h0 h1, HT.sIx_none]
  simp
theorem cut_post {z : Str} {i : Int} (h0 : 0 ≤ i) (h1 : i ≤ (z.length : Int)) : (cutS z (some i) none).cps.toList = z.cps.toList.drop i.toNat := by
  unfold cutS
  rw [sIx_some h0 h1, HT.sIx_none]
  simp only [List.toList_toArray]
  rw [List.take_of_length_le]
  rw [List.length_drop, ← str_len]
  exact Nat.le_refl _
theorem one_toList (c : Nat) : (one c).cps.toList = [c] := rfl
theorem isKey_pos {x : Str} (h : isKey x = true) : 0 < (x.length : Int) := by
  have := (isKey_iff.mp h).1
  omega
theorem isKey_le {x : Str} (h : isKey x = true) : x.length ≤ 12 := (isKey_iff.mp h).2.1
theorem nextKey_key (ns : List Int) (here : Int) {last : Str} (h : isKey last = true) : isKey (nextKey ns here last) = true := by
  have hp := isKey_pos h
  obtain ⟨k1, k2, k3⟩ := isKey_iff.mp h
  have m1 := mixed_nn ns (here + 16) hp
  have m2 := mixed_lt ns (here + 16) hp
  unfold nextKey
  split
  · exact lawKey_key _ _
  · split
    · rename_i hh
      rw [isKey_iff, str_len, str_app, List.length_append, ← str_len]
      refine ⟨by omega, ?_, ?_⟩
      · show last.length + 1 ≤ 12
        omega
      · intro c hc
        rcases List.mem_append.mp hc with hc | hc
        · exact k3 c hc
        · rw [one_toList, List.mem_singleton] at hc
          rw [hc]
          exact signAt_mem _ _
    · rw [isKey_iff, str_len, str_app, str_app, cut_pre m1 (by omega), cut_post (by omega) (by omega), one_toList]
      simp only [List.length_append, List.length_take, List.length_drop, List.length_cons, List.length_nil, ← str_len]
      refine ⟨by omega, by omega, ?_⟩
      intro c hc
      rcases List.mem_append.mp hc with hc | hc
      · rcases List.mem_append.mp hc with hc | hc
        · exact k3 c (List.mem_of_mem_take hc)
        · rw [List.mem_singleton] at hc
          rw [hc]
          exact signAt_mem _ _
      · exact k3 c (List.mem_of_mem_drop hc)
/-- the keys up to the n-th -/
def keysUp (ns : List Int) (at_ : Int) : Nat → List Str
  | 0 => [lawKey ns at_]
  | n + 1 => keysUp ns at_ n ++ [nextKey ns (at_ + 20 * ((n : Int) + 1)) ((keysUp ns at_ n).getD n "a")]
theorem keysUp_len (ns : List Int) (at_ : Int) : ∀ n, (keysUp ns at_ n).length = n + 1
  | 0 => rfl
  | n + 1 => by rw [keysUp, List.length_append, keysUp_len ns at_ n]; rfl
theorem keysUp_key (ns : List Int) (at_ : Int) : ∀ n, ∀ x ∈ keysUp ns at_ n, isKey x = true
  | 0, x, h => by
    rw [keysUp, List.mem_singleton] at h
    rw [h]
    exact lawKey_key _ _
  | n + 1, x, h => by
    rw [keysUp] at h
    rcases List.mem_append.mp h with h | h
    · exact keysUp_key ns at_ n x h
    · rw [List.mem_singleton] at h
      rw [h]
      refine nextKey_key _ _ (keysUp_key ns at_ n _ ?_)
      have hl : n < (keysUp ns at_ n).length := by rw [keysUp_len]; omega
      rw [List.getD_eq_getElem?_getD, List.getElem?_eq_getElem hl]
      exact List.getElem_mem hl
def lawKeys (ns : List Int) (at_ : Int) : List Str := keysUp ns at_ 4
theorem lawKeys_len (ns : List Int) (at_ : Int) : (lawKeys ns at_).length = 5 := keysUp_len _ _ _
theorem lawKeys_key (ns : List Int) (at_ : Int) : ∀ x ∈ lawKeys ns at_, isKey x = true := keysUp_key _ _ _
/-- an item of the keys -/
def pick (xs : List Str) (i : Int) : Str := xs.getD i.toNat "a"
theorem pick_mem {xs : List Str} {i : Int} (h0 : 0 ≤ i) (h1 : i < (xs.length : Int)) : pick xs i ∈ xs := by
  unfold pick
  have hl : i.toNat < xs.length := by omega
  rw [List.getD_eq_getElem?_getD, List.getElem?_eq_getElem hl]
  exact List.getElem_mem hl
theorem atI_pick {xs : List Str} {i : Int} (h0 : 0 ≤ i) (h1 : i < (xs.length : Int)) : atI (xs.map V.str) i = some (.str (pick xs i)) := by
  obtain ⟨n, rfl⟩ := Int.eq_ofNat_of_zero_le h0
  have hl : n < xs.length := by omega
  unfold pick
  refine atI_nat ?_
  rw [Int.toNat_natCast, List.getElem?_map, List.getElem?_eq_getElem hl, List.getD_eq_getElem?_getD, List.getElem?_eq_getElem hl]
  rfl
/-! ### spans -/
def lawSpan (ns : List Int) (at_ : Int) (keys : List Str) : Str × Str :=
  let x := pick keys (mixed ns at_ (keys.length : Int))
  let y := pick keys (mixed ns (at_ + 1) (keys.length : Int))
  if mixed ns (at_ + 2) 3 = 0 then ("/", "zzzzzzzzzzzz")
  else if mixed ns (at_ + 3) 8 = 0 then (maxS x y, minS x y) else (minS x y, maxS x y)
theorem maxS_of {x y : Str} {P : Str → Prop} (hx : P x) (hy : P y) : P (maxS x y) := by
  unfold maxS
  split
  · exact hy
  · exact hx
theorem minS_of {x y : Str} {P : Str → Prop} (hx : P x) (hy : P y) : P (minS x y) := by
  unfold minS
  split
  · exact hy
  · exact hx
theorem lawSpan_key (ns : List Int) (at_ : Int) {keys : List Str} (h : ∀ x ∈ keys, isKey x = true) (hl : 0 < keys.length) : isKey (lawSpan ns at_ keys).1 = true ∧ isKey (lawSpan ns at_ keys).2 = true := by
  have hp : 0 < (keys.length : Int) := by omega
  have hx := h _ (pick_mem (mixed_nn ns at_ hp) (mixed_lt ns at_ hp))
  have hy := h _ (pick_mem (mixed_nn ns (at_ + 1) hp) (mixed_lt ns (at_ + 1) hp))
  unfold lawSpan
  dsimp only
  split
  · exact ⟨by decide +kernel, by decide +kernel⟩
  · split
    · exact ⟨maxS_of (P := fun z => isKey z = true) hx hy, minS_of (P := fun z => isKey z = true) hx hy⟩
    · exact ⟨minS_of (P := fun z => isKey z = true) hx hy, maxS_of (P := fun z => isKey z = true) hx hy⟩

/-! ### the house -/
structure Rec where
  value : Int
  made : Int
  changed : Int
  version : Int
  lease : Option Int
  deriving DecidableEq
inductive Deed where
  | put (k : Str) (v : Int) (l : Option Int)
  | drop (k : Str)
  deriving DecidableEq
def Deed.key : Deed → Str
  | .put k _ _ => k
  | .drop k => k
def Deed.isPut : Deed → Bool
  | .put _ _ _ => true
  | .drop _ => false
structure Evt where
  num : Int
  deed : Deed
  deriving DecidableEq
abbrev Recs := List (Str × Rec)
section
variable {κ α : Type} [DecidableEq κ]
def lookA (rs : List (κ × α)) (k : κ) : Option α := (rs.find? fun p => decide (p.1 = k)).map (·.2)
def putA (rs : List (κ × α)) (k : κ) (r : α) : List (κ × α) :=
  if (rs.any fun p => decide (p.1 = k)) = true then rs.map (fun p => if p.1 = k then (p.1, r) else p) else rs ++ [(k, r)]
def dropA (rs : List (κ × α)) (k : κ) : List (κ × α) := rs.filter fun p => decide (p.1 ≠ k)
def keysA (rs : List (κ × α)) : List κ := rs.map (·.1)
theorem lookA_nil (k : κ) : lookA ([] : List (κ × α)) k = none := rfl
theorem lookA_cons (p : κ × α) (rs : List (κ × α)) (k : κ) : lookA (p :: rs) k = if p.1 = k then some p.2 else lookA rs k := by
  unfold lookA
  rw [List.find?_cons]
  by_cases e : p.1 = k
  · simp [e]
  · simp [e]
theorem any_lookA (rs : List (κ × α)) (k : κ) : (rs.any fun p => decide (p.1 = k)) = (lookA rs k).isSome := by
  induction rs with
  | nil => rfl
  | cons p r ih =>
    rw [List.any_cons, lookA_cons, ih]
    by_cases e : p.1 = k
    · simp [e]
    · simp [e]
theorem lookA_mem {rs : List (κ × α)} {k : κ} {r : α} (h : lookA rs k = some r) : (k, r) ∈ rs := by
  induction rs with
  | nil => cases h
  | cons p q ih =>
    rw [lookA_cons] at h
    by_cases e : p.1 = k
    · rw [if_pos e] at h
      have : p = (k, r) := by rw [← e, ← Option.some.inj h]
      rw [this]
      exact List.mem_cons_self
    · rw [if_neg e] at h
      exact List.mem_cons_of_mem _ (ih h)
theorem lookA_none {rs : List (κ × α)} {k : κ} : lookA rs k = none ↔ k ∉ keysA rs := by
  induction rs with
  | nil => simp [lookA_nil, keysA]
  | cons p q ih =>
    rw [lookA_cons]
    by_cases e : p.1 = k
    · simp [e, keysA]
    · rw [if_neg e, ih]
      show ¬ k ∈ keysA q ↔ ¬ k ∈ p.1 :: keysA q
      rw [List.mem_cons]
      constructor
      · intro h z
        rcases z with z | z
        · exact e z.symm
        · exact h z
      · intro h z
        exact h (.inr z)
theorem lookA_some {rs : List (κ × α)} {k : κ} : (lookA rs k).isSome = true ↔ k ∈ keysA rs := by
  have h := lookA_none (rs := rs) (k := k)
  cases q : lookA rs k with
  | none => simp [h.mp q]
  | some r =>
    simp
    exact Classical.byContradiction fun z => by rw [h.mpr z] at q; cases q
theorem lookA_of_mem {rs : List (κ × α)} (nd : (keysA rs).Nodup) {k : κ} {r : α} (h : (k, r) ∈ rs) : lookA rs k = some r := by
  induction rs with
  | nil => cases h
  | cons p q ih =>
    have nd' : (p.1 :: keysA q).Nodup := nd
    obtain ⟨n1, n2⟩ := List.nodup_cons.mp nd'
    rw [lookA_cons]
    rcases List.mem_cons.mp h with e | h
    · rw [← e]
      simp
    · rw [if_neg, ih n2 h]
      intro e
      exact n1 (by rw [e]; exact List.mem_map.mpr ⟨_, h, rfl⟩)
theorem keysA_putA_old {rs : List (κ × α)} {k : κ} (r : α) (h : (lookA rs k).isSome = true) : keysA (putA rs k r) = keysA rs := by
  unfold putA
  rw [any_lookA, if_pos h]
  unfold keysA
  rw [List.map_map]
  refine List.map_congr_left fun p _ => ?_
  show (if p.1 = k then (p.1, r) else p).1 = p.1
  split <;> rfl
theorem putA_new {rs : List (κ × α)} {k : κ} (r : α) (h : lookA rs k = none) : putA rs k r = rs ++ [(k, r)] := by
  unfold putA
  rw [any_lookA, h]
  simp
theorem lookA_append (a b : List (κ × α)) (k : κ) : lookA (a ++ b) k = (lookA a k).or (lookA b k) := by
  induction a with
  | nil => simp [lookA_nil]
  | cons p q ih =>
    rw [List.cons_append, lookA_cons, lookA_cons, ih]
    by_cases e : p.1 = k
    · simp [e]
    · simp [e]
theorem lookA_map (rs : List (κ × α)) (k j : κ) (r : α) : lookA (rs.map fun p => if p.1 = k then (p.1, r) else p) j = if j = k then (lookA rs k).map (fun _ => r) else lookA rs j := by
  induction rs with
  | nil => simp [lookA_nil]
  | cons p t ih =>
    rw [List.map_cons, lookA_cons, ih, lookA_cons, lookA_cons]
    by_cases e : p.1 = k
    · rw [if_pos e, if_pos e]
      by_cases e2 : j = k
      · rw [if_pos e2, if_pos (by rw [e2]; exact e)]
        simp [e2]
      · rw [if_neg e2, if_neg e2, if_neg (fun z => e2 (by rw [← z]; exact e)), if_neg (fun z => e2 (by rw [← z]; exact e))]
    · rw [if_neg e, if_neg e]
      by_cases e2 : p.1 = j
      · rw [if_pos e2, if_pos e2, if_neg (fun z => e (by rw [e2, z]))]
      · rw [if_neg e2, if_neg e2]
theorem lookA_putA (rs : List (κ × α)) (k j : κ) (r : α) : lookA (putA rs k r) j = if j = k then some r else lookA rs j := by
  cases q : lookA rs k with
  | none =>
    rw [putA_new r q, lookA_append]
    by_cases e : j = k
    · rw [e, if_pos rfl, q, lookA_cons, if_pos rfl]
      rfl
    · rw [if_neg e, lookA_cons, if_neg (fun z => e z.symm), lookA_nil, Option.or_none]
  | some o =>
    unfold putA
    rw [any_lookA, q]
    simp only [Option.isSome_some, if_true]
    rw [lookA_map, q]
    rfl
theorem nodup_putA {rs : List (κ × α)} (nd : (keysA rs).Nodup) (k : κ) (r : α) : (keysA (putA rs k r)).Nodup := by
  cases q : lookA rs k with
  | none =>
    rw [putA_new r q]
    unfold keysA
    rw [List.map_append]
    exact nd_snoc nd (lookA_none.mp q)
  | some o =>
    rw [keysA_putA_old r (by rw [q]; rfl)]
    exact nd
theorem lookA_dropA (rs : List (κ × α)) (k j : κ) : lookA (dropA rs k) j = if j = k then none else lookA rs j := by
  induction rs with
  | nil => simp [dropA, lookA_nil]
  | cons p t ih =>
    unfold dropA at ih ⊢
    rw [List.filter_cons]
    by_cases e : p.1 = k
    · rw [if_neg (by simp [e]), ih, lookA_cons]
      by_cases e2 : j = k
      · rw [if_pos e2, if_pos e2]
      · rw [if_neg e2, if_neg e2, if_neg (fun z => e2 (by rw [← z, e]))]
    · rw [if_pos (by simp [e]), lookA_cons, lookA_cons, ih]
      by_cases e2 : p.1 = j
      · rw [if_pos e2, if_pos e2, if_neg (fun z => e (by rw [e2, z]))]
      · rw [if_neg e2, if_neg e2]
theorem nodup_dropA {rs : List (κ × α)} (nd : (keysA rs).Nodup) (k : κ) : (keysA (dropA rs k)).Nodup := by
  unfold keysA dropA
  exact List.Nodup.sublist (List.Sublist.map _ List.filter_sublist) nd
end
abbrev lookR (rs : Recs) (k : Str) : Option Rec := lookA rs k
abbrev putR (rs : Recs) (k : Str) (r : Rec) : Recs := putA rs k r
abbrev dropR (rs : Recs) (k : Str) : Recs := dropA rs k
def hasR (rs : Recs) (k : Str) : Bool := (lookR rs k).isSome
/-- the record behind a put -/
def newRec (rs : Recs) (n : Int) (k : Str) (v : Int) (l : Option Int) : Rec :=
  match lookR rs k with
  | some r => ⟨v, r.made, n, r.version + 1, l⟩
  | none => ⟨v, n, n, 1, l⟩
def changeR (rs : Recs) (e : Evt) : Recs :=
  match e.deed with
  | .put k v l => putR rs k (newRec rs e.num k v l)
  | .drop k => dropR rs k
structure HS where
  recs : Recs
  old : Recs
  log : List Evt
  last : Int
  base : Int
  ends : List (Int × (Int × Int))
  granted : Int
  now : Int
  spans : List (Option (Str × Str × Int))
  cut : List Int
  deriving DecidableEq
def HS.new : HS := ⟨[], [], [], 0, 0, [], 0, 0, [], []⟩
def realD (rs : Recs) (ds : List Deed) : List Deed := ds.filter fun d => d.isPut || hasR rs d.key
/-- deeds done with one number -/
def HS.write (s : HS) (ds : List Deed) : HS :=
  let real := realD s.recs ds
  if real = [] then s
  else { s with last := s.last + 1, log := s.log ++ real.map (fun d => ⟨s.last + 1, d⟩), recs := real.foldl (fun rs d => changeR rs ⟨s.last + 1, d⟩) s.recs }
/-- keys and records in order -/
def sLe (a b : Str) : Bool := !decide (b.cps.toList < a.cps.toList)
def sortS (xs : List Str) : List Str := xs.mergeSort sLe
def getR (rs : Recs) (k : Str) : Rec := (lookR rs k).getD ⟨0, 0, 0, 0, none⟩
def inRows (rs : Recs) : Recs := (sortS (keysA rs)).map fun k => (k, getR rs k)
def within (k a b : Str) : Bool := sLe a k && sLe k b
def spanRows (rs : Recs) (a b : Str) : Recs := (inRows rs).filter fun p => within p.1 a b
end KW

/-! what stands in the heap -/
namespace KW
open PySem PySem.Spec PyProof.Rows L2 Evl

def optV : Option Int → V
  | none => .non
  | some i => .int i
def recVs (r : Rec) : List V := [.int r.value, .int r.made, .int r.changed, .int r.version, optV r.lease]
def deedVs : Deed → List V
  | .put k v l => [.str "put", .str k, .int v, optV l]
  | .drop k => [.str "drop", .str k]
def evVs (e : Evt) : List V := match e.deed with
  | .put k v l => [.int e.num, .str "put", .str k, .int v, optV l]
  | .drop k => [.int e.num, .str "drop", .str k, .non, .non]
def TAt (H : Hp) (v : V) (xs : List V) : Prop := ∃ a, v = .ref a ∧ H a = some (.tup xs)
theorem TAt.kt {H H' : Hp} {v : V} {xs : List V} (k : Kt H H') (h : TAt H v xs) : TAt H' v xs := by
  obtain ⟨a, e, h⟩ := h
  exact ⟨a, e, k _ _ h⟩
def RecV (H : Hp) (v : V) (r : Rec) : Prop := TAt H v (recVs r)
def EvV (H : Hp) (v : V) (e : Evt) : Prop := TAt H v (evVs e)
def DeedV (H : Hp) (v : V) (d : Deed) : Prop := TAt H v (deedVs d)
def RowV (H : Hp) (v : V) (p : Str × Rec) : Prop := ∃ w, TAt H v [.str p.1, w] ∧ RecV H w p.2
theorem RecV.kt {H H' : Hp} {v : V} {r : Rec} (k : Kt H H') (h : RecV H v r) : RecV H' v r := TAt.kt k h
theorem EvV.kt {H H' : Hp} {v : V} {r : Evt} (k : Kt H H') (h : EvV H v r) : EvV H' v r := TAt.kt k h
theorem DeedV.kt {H H' : Hp} {v : V} {r : Deed} (k : Kt H H') (h : DeedV H v r) : DeedV H' v r := TAt.kt k h
theorem RowV.kt {H H' : Hp} {v : V} {p : Str × Rec} (k : Kt H H') (h : RowV H v p) : RowV H' v p := by
  obtain ⟨w, h1, h2⟩ := h
  exact ⟨w, h1.kt k, RecV.kt k h2⟩

/-! ### lists of things -/
section
variable {α β : Type} {F G : α → β → Prop}
theorem pr_get : ∀ {l : List α} {m : List β} {i : Nat} {a : α}, Paired F l m → l[i]? = some a → ∃ b, m[i]? = some b ∧ F a b
  | _, _, _, _, .nil, e => by simp at e
  | _, _, 0, _, .cons r _, e => by simp at e; subst e; exact ⟨_, rfl, r⟩
  | _, _, i + 1, a, .cons _ t, e => by
    obtain ⟨u, h1, h2⟩ := pr_get (i := i) (a := a) t (by simpa using e)
    exact ⟨u, by simpa using h1, h2⟩
theorem pr_get' : ∀ {l : List α} {m : List β} {i : Nat} {b : β}, Paired F l m → m[i]? = some b → ∃ a, l[i]? = some a ∧ F a b
  | _, _, _, _, .nil, e => by simp at e
  | _, _, 0, _, .cons r _, e => by simp at e; subst e; exact ⟨_, rfl, r⟩
  | _, _, i + 1, a, .cons _ t, e => by
    obtain ⟨u, h1, h2⟩ := pr_get' (i := i) (b := a) t (by simpa using e)
    exact ⟨u, by simpa using h1, h2⟩
theorem pr_len {l : List α} {m : List β} (h : Paired F l m) : l.length = m.length := Paired.length h
theorem pr_mono {l : List α} {m : List β} (h : Paired F l m) (k : ∀ a b, F a b → G a b) : Paired G l m := L2.Paired.mapP h k
theorem pr_append : ∀ {l l' : List α} {m m' : List β}, Paired F l m → Paired F l' m' → Paired F (l ++ l') (m ++ m')
  | _, _, _, _, .nil, s => s
  | _, _, _, _, .cons r t, s => .cons r (pr_append t s)
theorem pr_snoc {l : List α} {m : List β} {a : α} {b : β} (h : Paired F l m) (r : F a b) : Paired F (l ++ [a]) (m ++ [b]) := pr_append h (.cons r .nil)
theorem pr_nil_iff {l : List α} {m : List β} (h : Paired F l m) : l = [] ↔ m = [] := by
  cases h with
  | nil => simp
  | cons _ _ => simp
end
/-- a list at l, its items by P -/
def LsAt {α : Type} (P : Hp → V → α → Prop) (H : Hp) (l : Addr) (xs : List α) : Prop := ∃ vs, H l = some (.lst vs) ∧ Paired (P H) vs xs
abbrev RowsAt : Hp → Addr → Recs → Prop := LsAt RowV
abbrev LogAt : Hp → Addr → List Evt → Prop := LsAt EvV
theorem LsAt.move {α : Type} {P : Hp → V → α → Prop} {H H' : Hp} {l : Addr} {xs : List α} (h : LsAt P H l xs) (k : Kt H H') (s : ∀ v x, P H v x → P H' v x) (e : ∀ o, H l = some o → H' l = some o) : LsAt P H' l xs := by
  obtain ⟨vs, h1, h2⟩ := h
  exact ⟨vs, e _ h1, pr_mono h2 s⟩
/-! ### dicts -/
def DcAt {κ α : Type} (f : κ → Key) (P : Hp → V → α → Prop) (H : Hp) (d : Addr) (rs : List (κ × α)) : Prop :=
  ∃ es : List (Key × V), H d = some (.dK es) ∧ Paired (fun (e : Key × V) (p : κ × α) => e.1 = f p.1 ∧ P H e.2 p.2) es rs
section
variable {κ α : Type} [DecidableEq κ] {f : κ → Key} {R : V → α → Prop}
theorem val_of (inj : ∀ a b, f a = f b → a = b) : ∀ {es : List (Key × V)} {rs : List (κ × α)}, Paired (fun (e : Key × V) (p : κ × α) => e.1 = f p.1 ∧ R e.2 p.2) es rs → ∀ k : κ,
    (∃ v r, valV es (f k) = some v ∧ lookA rs k = some r ∧ R v r) ∨ (valV es (f k) = none ∧ lookA rs k = none)
  | _, _, .nil, k => .inr ⟨rfl, rfl⟩
  | _, _, .cons (a := e) (b := p) (l₁ := es) (l₂ := rs) h t, k => by
    by_cases q : p.1 = k
    · refine .inl ⟨e.2, p.2, valV_pos (by rw [h.1, q]), by rw [lookA_cons, if_pos q], h.2⟩
    · rw [lookA_cons, if_neg q, valV_neg (fun z => q (inj _ _ (by rw [← h.1, z])))]
      exact val_of inj t k
theorem any_of (inj : ∀ a b, f a = f b → a = b) {es : List (Key × V)} {rs : List (κ × α)} (h : Paired (fun (e : Key × V) (p : κ × α) => e.1 = f p.1 ∧ R e.2 p.2) es rs) (k : κ) :
    (es.any fun kv => decide (kv.1 = f k)) = (rs.any fun p => decide (p.1 = k)) := by
  induction h with
  | nil => rfl
  | cons h t ih =>
    rw [List.any_cons, List.any_cons, ih, h.1]
    congr 1
    exact decide_eq_decide.mpr ⟨fun z => inj _ _ z, fun z => by rw [z]⟩
theorem put_of (inj : ∀ a b, f a = f b → a = b) {es : List (Key × V)} {rs : List (κ × α)} (h : Paired (fun (e : Key × V) (p : κ × α) => e.1 = f p.1 ∧ R e.2 p.2) es rs) (k : κ) {v : V} {r : α} (hv : R v r) :
    Paired (fun (e : Key × V) (p : κ × α) => e.1 = f p.1 ∧ R e.2 p.2) (putK es (f k) v) (putA rs k r) := by
  unfold putK putA
  rw [any_of inj h k]
  split
  · rename_i hc
    clear hc
    induction h with
    | nil => exact .nil
    | @cons e p es rs h t ih =>
      rw [List.map_cons, List.map_cons]
      refine .cons ?_ ih
      by_cases q : p.1 = k
      · rw [if_pos q, if_pos (by rw [h.1, q])]
        exact ⟨h.1, hv⟩
      · rw [if_neg q, if_neg (fun z => q (inj _ _ (by rw [← h.1, z])))]
        exact h
  · exact pr_snoc h ⟨rfl, hv⟩
theorem drop_of (inj : ∀ a b, f a = f b → a = b) {es : List (Key × V)} {rs : List (κ × α)} (h : Paired (fun (e : Key × V) (p : κ × α) => e.1 = f p.1 ∧ R e.2 p.2) es rs) (k : κ) :
    Paired (fun (e : Key × V) (p : κ × α) => e.1 = f p.1 ∧ R e.2 p.2) (dropK es (f k)) (dropA rs k) := by
  unfold dropK dropA
  induction h with
  | nil => exact .nil
  | @cons e p es rs h t ih =>
    rw [List.filter_cons, List.filter_cons]
    by_cases q : p.1 = k
    · rw [if_neg (by simp [h.1, q]), if_neg (by simp [q])]
      exact ih
    · rw [if_pos (by simp only [ne_eq, decide_eq_true_eq]; exact fun z => q (inj _ _ (by rw [← h.1, z]))), if_pos (by simp [q])]
      exact .cons h ih
theorem keys_of {es : List (Key × V)} {rs : List (κ × α)} (h : Paired (fun (e : Key × V) (p : κ × α) => e.1 = f p.1 ∧ R e.2 p.2) es rs) : es.map (fun kv => kV kv.1) = (keysA rs).map fun k => kV (f k) := by
  induction h with
  | nil => rfl
  | cons h t ih =>
    rw [List.map_cons, ih, h.1]
    rfl
end
theorem inr_inj (a b : Str) (h : (Sum.inr a : Key) = Sum.inr b) : a = b := Sum.inr.inj h
theorem inl_inj (a b : Int) (h : (Sum.inl a : Key) = Sum.inl b) : a = b := Sum.inl.inj h
abbrev RecsAt : Hp → Addr → Recs → Prop := DcAt (fun k : Str => (Sum.inr k : Key)) RecV
def EndV (H : Hp) (v : V) (p : Int × Int) : Prop := TAt H v [.int p.1, .int p.2]
abbrev EndsAt : Hp → Addr → List (Int × (Int × Int)) → Prop := DcAt (fun k : Int => (Sum.inl k : Key)) EndV
def SpanV (H : Hp) (v : V) : Option (Str × Str × Int) → Prop
  | none => v = .non
  | some (a, b, n) => TAt H v [.str a, .str b, .int n]
abbrev SpansAt : Hp → Addr → List (Option (Str × Str × Int)) → Prop := LsAt SpanV
abbrev CutAt (H : Hp) (d : Addr) (cs : List Int) : Prop := DcAt (fun k : Int => (Sum.inl k : Key)) (fun _ v (_ : Unit) => v = .bl true) H d (cs.map fun c => (c, ()))
theorem SpanV.kt {H H' : Hp} {v : V} {p : Option (Str × Str × Int)} (k : Kt H H') (h : SpanV H v p) : SpanV H' v p := by
  cases p with
  | none => exact h
  | some p => exact TAt.kt k h
theorem DcAt.move {κ α : Type} {f : κ → Key} {P : Hp → V → α → Prop} {H H' : Hp} {d : Addr} {rs : List (κ × α)} (h : DcAt f P H d rs) (s : ∀ v x, P H v x → P H' v x) (e : ∀ o, H d = some o → H' d = some o) : DcAt f P H' d rs := by
  obtain ⟨es, h1, h2⟩ := h
  exact ⟨es, e _ h1, pr_mono h2 fun a b z => ⟨z.1, s _ _ z.2⟩⟩

/-! ### the house -/
def hFlds (r o l : Addr) (last base : Int) (e : Addr) (granted now : Int) (s c : Addr) : List (Str × V) :=
  [("records", .ref r), ("old_records", .ref o), ("log", .ref l), ("last", .int last), ("base", .int base), ("ends", .ref e), ("granted", .int granted), ("now", .int now), ("spans", .ref s), ("cut", .ref c)]
section
variable (r o l : Addr) (last base : Int) (e : Addr) (granted now : Int) (s c : Addr)
theorem hf_records : (hFlds r o l last base e granted now s c).lookup ("records" : Str) = some (V.ref r) := by kernel_rfl
theorem hf_old : (hFlds r o l last base e granted now s c).lookup ("old_records" : Str) = some (V.ref o) := by kernel_rfl
theorem hf_log : (hFlds r o l last base e granted now s c).lookup ("log" : Str) = some (V.ref l) := by kernel_rfl
theorem hf_last : (hFlds r o l last base e granted now s c).lookup ("last" : Str) = some (V.int last) := by kernel_rfl
theorem hf_base : (hFlds r o l last base e granted now s c).lookup ("base" : Str) = some (V.int base) := by kernel_rfl
theorem hf_ends : (hFlds r o l last base e granted now s c).lookup ("ends" : Str) = some (V.ref e) := by kernel_rfl
theorem hf_granted : (hFlds r o l last base e granted now s c).lookup ("granted" : Str) = some (V.int granted) := by kernel_rfl
theorem hf_now : (hFlds r o l last base e granted now s c).lookup ("now" : Str) = some (V.int now) := by kernel_rfl
theorem hf_spans : (hFlds r o l last base e granted now s c).lookup ("spans" : Str) = some (V.ref s) := by kernel_rfl
theorem hf_cut : (hFlds r o l last base e granted now s c).lookup ("cut" : Str) = some (V.ref c) := by kernel_rfl
theorem hp_last (x : Int) : putF "last" (.int x) (hFlds r o l last base e granted now s c) = hFlds r o l x base e granted now s c := by kernel_rfl
theorem hp_base (x : Int) : putF "base" (.int x) (hFlds r o l last base e granted now s c) = hFlds r o l last x e granted now s c := by kernel_rfl
theorem hp_granted (x : Int) : putF "granted" (.int x) (hFlds r o l last base e granted now s c) = hFlds r o l last base e x now s c := by kernel_rfl
theorem hp_now (x : Int) : putF "now" (.int x) (hFlds r o l last base e granted now s c) = hFlds r o l last base e granted x s c := by kernel_rfl
theorem hp_old (x : Addr) : putF "old_records" (.ref x) (hFlds r o l last base e granted now s c) = hFlds r x l last base e granted now s c := by kernel_rfl
theorem hp_log (x : Addr) : putF "log" (.ref x) (hFlds r o l last base e granted now s c) = hFlds r o x last base e granted now s c := by kernel_rfl
theorem hp_records (x : Addr) : putF "records" (.ref x) (hFlds r o l last base e granted now s c) = hFlds x o l last base e granted now s c := by kernel_rfl
theorem hp_ends (x : Addr) : putF "ends" (.ref x) (hFlds r o l last base e granted now s c) = hFlds r o l last base x granted now s c := by kernel_rfl
theorem hp_spans (x : Addr) : putF "spans" (.ref x) (hFlds r o l last base e granted now s c) = hFlds r o l last base e granted now x c := by kernel_rfl
theorem hp_cut (x : Addr) : putF "cut" (.ref x) (hFlds r o l last base e granted now s c) = hFlds r o l last base e granted now s x := by kernel_rfl
theorem hf_len : (hFlds r o l last base e granted now s c).length < 1000 := by
  show 10 < 1000
  decide
end
def houseMeths : List Str := (["__init__", "write", "put", "drop", "deal", "number", "folded", "records_at", "records_when", "look", "rows", "since", "changes", "fold_to", "need_lease", "need_term", "grant", "renew", "left", "keys_of", "end", "give_back", "wait", "clock", "leases", "need_watcher", "watch", "unheard", "heard", "hear", "hear_some", "stop", "watchers", "fold"] : List String).map Str.ofString
theorem hf_meth (r o l : Addr) (last base : Int) (e : Addr) (granted now : Int) (s c : Addr) {m : Str} (h : m ∈ houseMeths) : (hFlds r o l last base e granted now s c).lookup m = none := by
  have k : ∀ m ∈ houseMeths, (m == "records") = false ∧ (m == "old_records") = false ∧ (m == "log") = false ∧ (m == "last") = false ∧ (m == "base") = false ∧ (m == "ends") = false ∧ (m == "granted") = false ∧ (m == "now") = false ∧ (m == "spans") = false ∧ (m == "cut") = false := by decide +kernel
  obtain ⟨k1, k2, k3, k4, k5, k6, k7, k8, k9, k10⟩ := k m h
  unfold hFlds
  simp only [List.lookup_cons, k1, k2, k3, k4, k5, k6, k7, k8, k9, k10, List.lookup_nil]
/-- the cells of a house -/
structure HCell where
  r : Addr
  o : Addr
  l : Addr
  e : Addr
  s : Addr
  c : Addr
def HCell.fp (p : Addr) (z : HCell) : List Addr := [p, z.r, z.o, z.l, z.e, z.s, z.c]
structure HouseAt (C : Addr) (H : Hp) (p : Addr) (s : HS) (z : HCell) : Prop where
  ob : ∃ dx, H p = some (.ins C dx (hFlds z.r z.o z.l s.last s.base z.e s.granted s.now z.s z.c))
  recs : RecsAt H z.r s.recs
  old : RecsAt H z.o s.old
  log : LogAt H z.l s.log
  ends : EndsAt H z.e s.ends
  spans : SpansAt H z.s s.spans
  cut : CutAt H z.c s.cut
  ro : z.r ≠ z.o
  re : z.r ≠ z.e
  rc : z.r ≠ z.c
  oe : z.o ≠ z.e
  oc : z.o ≠ z.c
  ec : z.e ≠ z.c
  ls : z.l ≠ z.s
/-- what is not of the cells F stays; the cells F' behind are old ones or new -/
structure Keep (F F' : List Addr) (H H' : Hp) : Prop where
  kp : ∀ b o, H b = some o → b ∉ F → H' b = some o
  fr : ∀ b ∈ F', b ∈ F ∨ H b = none
  kt : Kt H H'
theorem Keep.ex {F : List Addr} {H H' : Hp} (e : Ex H H') : Keep F F H H' := ⟨fun b o h _ => e b o h, fun b h => .inl h, Ex.kt e⟩
theorem Keep.trans {F F1 F2 : List Addr} {H H1 H2 : Hp} (a : Keep F F1 H H1) (b : Keep F1 F2 H1 H2) : Keep F F2 H H2 where
  kp := fun c o h n => b.kp c o (a.kp c o h n) fun z => (a.fr c z).elim n fun q => by rw [h] at q; cases q
  fr := fun c h => by
    rcases b.fr c h with h | h
    · exact a.fr c h
    · by_cases n : c ∈ F
      · exact .inl n
      · refine .inr ?_
        cases q : H c with
        | none => rfl
        | some o => rw [a.kp c o q n] at h; cases h
  kt := a.kt.trans b.kt
/-- a thing that stands apart from F -/
def Out (F : List Addr) (H : Hp) (a : Addr) (o : HO) : Prop := H a = some o ∧ a ∉ F
theorem Out.keep {F F' : List Addr} {H H' : Hp} {a : Addr} {o : HO} (h : Out F H a o) (k : Keep F F' H H') : Out F' H' a o :=
  ⟨k.kp a o h.1 h.2, fun z => (k.fr a z).elim h.2 fun q => by rw [h.1] at q; cases q⟩
theorem HouseAt.move {C : Addr} {H H' : Hp} {p : Addr} {s : HS} {z : HCell} (h : HouseAt C H p s z) (k : Kt H H') (e : ∀ b ∈ z.fp p, ∀ o, H b = some o → H' b = some o) : HouseAt C H' p s z where
  ob := by
    obtain ⟨dx, q⟩ := h.ob
    exact ⟨dx, e p (by simp [HCell.fp]) _ q⟩
  recs := h.recs.move (fun v x q => RecV.kt k q) (e z.r (by simp [HCell.fp]))
  old := h.old.move (fun v x q => RecV.kt k q) (e z.o (by simp [HCell.fp]))
  log := h.log.move k (fun v x q => EvV.kt k q) (e z.l (by simp [HCell.fp]))
  ends := h.ends.move (fun v x q => TAt.kt k q) (e z.e (by simp [HCell.fp]))
  spans := h.spans.move k (fun v x q => SpanV.kt k q) (e z.s (by simp [HCell.fp]))
  cut := h.cut.move (fun v x q => q) (e z.c (by simp [HCell.fp]))
  ro := h.ro
  re := h.re
  rc := h.rc
  oe := h.oe
  oc := h.oc
  ec := h.ec
  ls := h.ls
theorem HouseAt.ex {C : Addr} {H H' : Hp} {p : Addr} {s : HS} {z : HCell} (h : HouseAt C H p s z) (e : Ex H H') : HouseAt C H' p s z := h.move (Ex.kt e) fun b _ o q => e b o q
end KW

/-! comprehensions whose turns change nothing -/
namespace KW
open PySem PySem.Spec PyProof.Rows L2 Evl
/-- what is walked over: items that stand -/
structure Walk1 (J : It) (B : Hp) (xs : List V) : Prop where
  go : ∀ i x H, Ex B H → xs[i]? = some x → J.go i H
  stop : ∀ H, Ex B H → J.stop xs.length H
  yld : ∀ i x H v H', Ex B H → xs[i]? = some x → J.yld i H v H' → H' = H ∧ v = x
theorem walk_list {K : PySem.W.Frag} {B : Hp} {a : Addr} {xs : List V} (h : SqL K B a xs) : Walk1 (Itl K a) B xs :=
  ⟨fun i x H e hx => ⟨xs, x, ex_l e h, hx⟩, fun H e => ⟨xs, ex_l e h, Nat.le_refl _⟩, fun i x H v H' e hx hy => ⟨hy.1, Option.some.inj ((hy.2 xs (ex_l e h)).symm.trans hx)⟩⟩
theorem walk_tup {K : PySem.W.Frag} {B : Hp} {a : Addr} {xs : List V} (h : SqT K B a xs) : Walk1 (Itt K a) B xs :=
  ⟨fun i x H e hx => ⟨xs, x, ex_t e h, hx⟩, fun H e => ⟨xs, ex_t e h, Nat.le_refl _⟩, fun i x H v H' e hx hy => ⟨hy.1, Option.some.inj ((hy.2 xs (ex_t e h)).symm.trans hx)⟩⟩
def signV (c : Nat) : V := .str ⟨#[c]⟩
theorem walk_str {B : Hp} (x : Str) : Walk1 (Its x) B (x.cps.toList.map signV) where
  go := fun i v H e hx => by
    rw [List.getElem?_map] at hx
    obtain ⟨c, hc, _⟩ := Option.map_eq_some_iff.mp hx
    have := (List.getElem?_eq_some_iff.mp hc).1
    show i < x.cps.size
    simpa using this
  stop := fun H e => by
    show x.cps.size ≤ _
    simp
  yld := fun i v H u H' e hx hy => by
    obtain ⟨h1, c, h2, h3⟩ := hy
    refine ⟨h1, ?_⟩
    rw [List.getElem?_map, Array.getElem?_toList, h2] at hx
    rw [h3]
    exact Option.some.inj hx
def rngV (lo : Int) (n : Nat) : List V := (List.range n).map fun i : Nat => V.int (lo + (i : Int))
theorem walk_rng {B : Hp} (lo : Int) (n : Nat) : Walk1 (Itr lo n) B (rngV lo n) where
  go := fun i v H e hx => by
    have h := (List.getElem?_eq_some_iff.mp hx).1
    unfold rngV at h
    show i < n
    simpa using h
  stop := fun H e => by
    show n ≤ _
    simp [rngV]
  yld := fun i v H u H' e hx hy => by
    refine ⟨hy.1, ?_⟩
    unfold rngV at hx
    rw [List.getElem?_map] at hx
    obtain ⟨c, hc, h2⟩ := Option.map_eq_some_iff.mp hx
    have h3 := (List.getElem?_eq_some_iff.mp hc)
    obtain ⟨h4, h5⟩ := h3
    rw [List.getElem_range] at h5
    rw [hy.2, ← h2, h5]
def EvI (wi : TI) (σ : L2.St) (B : Hp) (xs : List V) : Prop := ∀ H1, Ex B H1 → ∀ R : It → Hp → Prop, (∀ J H2, Ex H1 H2 → Walk1 J H2 xs → R J H2) → wi σ H1 R
section
variable {K : PySem.W.Frag} {σ : L2.St} {B : Hp} {tl te : TE} {xs : List V} {a : Addr}
theorem ei_list (h : Ev tl σ B (.ref a)) (hx : SqL K B a xs) : EvI (iList K tl) σ B xs := fun H1 e R q => h H1 e _ fun H2 e2 => ⟨a, rfl, ⟨xs, ex_l (e.trans e2) hx⟩, q _ H2 e2 (walk_list (ex_l (e.trans e2) hx))⟩
theorem ei_listN (h : EvL tl σ B xs) : EvI (iList K tl) σ B xs := fun H1 e R q => h H1 e _ fun p H2 hp e2 h2 => ⟨p, rfl, ⟨xs, sq_of h2⟩, q _ H2 e2 (walk_list (sq_of h2))⟩
theorem ei_tup (h : Ev tl σ B (.ref a)) (hx : SqT K B a xs) : EvI (iTup K tl) σ B xs := fun H1 e R q => h H1 e _ fun H2 e2 => ⟨a, rfl, ⟨xs, ex_t (e.trans e2) hx⟩, q _ H2 e2 (walk_tup (ex_t (e.trans e2) hx))⟩
theorem ei_str {x : Str} (h : Ev tl σ B (.str x)) : EvI (iStr tl) σ B (x.cps.toList.map signV) := fun H1 e R q => h H1 e _ fun H2 e2 => ⟨x, rfl, q _ H2 e2 (walk_str x)⟩
theorem ei_seqL (h : Ev tl σ B (.ref a)) (hx : SqL K B a xs) : EvI (iSeq K tl) σ B xs := fun H1 e R q => h H1 e _ fun H2 e2 => ⟨a, rfl, .inl ⟨xs, ex_l (e.trans e2) hx, q _ H2 e2 (walk_list (ex_l (e.trans e2) hx))⟩⟩
theorem ei_seqT (h : Ev tl σ B (.ref a)) (hx : SqT K B a xs) : EvI (iSeq K tl) σ B xs := fun H1 e R q => h H1 e _ fun H2 e2 => ⟨a, rfl, .inr ⟨xs, ex_t (e.trans e2) hx, q _ H2 e2 (walk_tup (ex_t (e.trans e2) hx))⟩⟩
theorem ei_rng {ta : TA} {n : Int} (h : EvA ta σ B [.int n]) (hn : 0 ≤ n ∧ n ≤ 100000) : EvI (iRng1 ta) σ B (rngV 0 n.toNat) := fun H1 e R q => h H1 e _ fun H2 e2 => ⟨n, rfl, by omega, by omega, q _ H2 e2 (walk_rng 0 n.toNat)⟩
end
theorem paired_eq_of : ∀ {l m : List V}, Paired (fun (a b : V) => a = b) l m → l = m
  | _, _, .nil => rfl
  | _, _, .cons r t => by rw [r, paired_eq_of t]
/-- a new list whose items are known by P -/
def EvLP {α : Type} (te : TE) (σ : L2.St) (B : Hp) (P : Hp → V → α → Prop) (ys : List α) : Prop := ∀ H1, Ex B H1 → ∀ Q : VK, (∀ p H2, H1 p = none → Ex H1 H2 → LsAt P H2 p ys → Q (.ref p) H2) → te σ H1 Q
section
variable {α β : Type} {σ : L2.St} {B : Hp} {te : TE} {P : Hp → V → α → Prop} {ys : List α}
theorem EvLP.mono {B' : Hp} (e : Ex B B') (h : EvLP te σ B P ys) : EvLP te σ B' P ys := fun H1 a Q q => h H1 (e.trans a) Q q
theorem EvLP.toL {ys : List V} (h : EvLP te σ B (fun _ v y => v = y) ys) : EvL te σ B ys := fun H1 e Q q => h H1 e Q fun p H2 hp e2 hl => by
  obtain ⟨vs, h1, h2⟩ := hl
  have : vs = ys := paired_eq_of h2
  subst this
  exact q p H2 hp e2 h1
theorem EvLP.p (h : EvLP te σ B P ys) : EvP te σ B (fun H v => ∃ p, v = .ref p ∧ LsAt P H p ys) := fun H1 e Q q => h H1 e Q fun p H2 hp e2 hl => q _ H2 e2 ⟨p, rfl, hl⟩
theorem lc_typed {J : It} {xs : List V} {ds : List β} {R : V → β → Prop} {wi : TI} {tt : TT} {j : Nat} {vs : List Nat} (hi : EvI wi σ B xs) (hp : Paired R xs ds) (f : β → Option α) (st : ∀ H H' v y, Kt H H' → P H v y → P H' v y)
    (hw : ∀ x : V, wipe ((wipe σ vs).set j (some x)) vs = wipe σ vs)
    (ht : ∀ x d, R x d → EvT tt ((wipe σ vs).set j (some x)) B (f d).isSome) (he : ∀ x d y, R x d → f d = some y → EvP te ((wipe σ vs).set j (some x)) B (fun H v => P H v y)) (hl : xs.length ≤ 100000) :
    EvLP (tLc wi (gName j) tt te vs) σ B P (ds.filterMap f) := fun H1 e Q q => by
  refine hi H1 e _ fun J H2 e2 W => ?_
  intro D hD
  have hlen := pr_len hp
  refine ⟨fun i m H => m = xs.length - i ∧ i ≤ xs.length ∧ Ex H2 H ∧ ∃ acc, H D = some (.lst acc) ∧ Paired (P H) acc ((ds.take i).filterMap f), ⟨xs.length, by simp, Nat.zero_le _, Ex.new hD, [], upd_same, .nil⟩, ?_⟩
  rintro i m H ⟨rfl, hi2, eH, acc, hacc, pacc⟩
  by_cases hlt : i < xs.length
  · refine .inr ?_
    obtain ⟨x, hx⟩ : ∃ x, xs[i]? = some x := ⟨_, List.getElem?_eq_getElem hlt⟩
    obtain ⟨d, hd, hR⟩ := pr_get hp hx
    have htake : ds.take (i + 1) = ds.take i ++ [d] := by
      rw [List.take_succ, hd]
      rfl
    refine ⟨W.go i x H eH hx, fun H' => i + 1 ≤ xs.length ∧ Ex H2 H' ∧ ∃ acc, H' D = some (.lst acc) ∧ Paired (P H') acc ((ds.take (i + 1)).filterMap f), fun H' h' => ⟨xs.length - (i + 1), by omega, rfl, h'⟩, ?_⟩
    intro v H' hy
    obtain ⟨rfl, rfl⟩ := W.yld i x H v H' eH hx hy
    refine ⟨hw v, ?_⟩
    have eB : Ex B H' := (e.trans e2).trans eH
    have hflen : acc.length ≤ i := by
      have h1 := pr_len pacc
      have h2 : ((ds.take i).filterMap f).length ≤ (ds.take i).length := List.length_filterMap_le _ _
      rw [List.length_take] at h2
      omega
    refine ht v d hR H' eB _ fun H3 e3 => ?_
    cases hf : f d with
    | none =>
      show (if false = true then _ else _)
      rw [if_neg Bool.false_ne_true]
      refine ⟨hlt, eH.trans e3, acc, e3 D _ hacc, ?_⟩
      rw [htake, List.filterMap_append]
      have : List.filterMap f [d] = [] := by simp [hf]
      rw [this, List.append_nil]
      exact pr_mono pacc fun a b z => st _ _ _ _ (Ex.kt e3) z
    | some y =>
      show (if true = true then _ else _)
      rw [if_pos rfl]
      refine he v d y hR hf H3 (eB.trans e3) _ fun u H4 e4 hu => ?_
      have hD4 : H4 D = some (.lst acc) := e4 D _ (e3 D _ hacc)
      have kt5 : Kt H4 (upd H4 D (.lst (acc ++ [u]))) := (Kt.refl H4).upd (ne_tup_of hD4 fun xs z => by cases z)
      refine ⟨acc, hD4, Nat.lt_of_le_of_lt hflen (Nat.lt_of_lt_of_le hlt (sz_of hl)), hlt, ?_, acc ++ [u], upd_same, ?_⟩
      · exact Ex.mut ((eH.trans e3).trans e4) hD
      · rw [htake, List.filterMap_append]
        have : List.filterMap f [d] = [y] := by simp [hf]
        rw [this]
        exact pr_append (pr_mono pacc fun a b z => st _ _ _ _ ((Ex.kt e3).trans ((Ex.kt e4).trans kt5)) z) (.cons (st _ _ _ _ kt5 hu) .nil)
  · have hi3 : i = xs.length := by omega
    subst hi3
    refine .inl ⟨W.stop H eH, q D H (fresh_back e2 hD) (e2.trans eH) ⟨acc, hacc, ?_⟩⟩
    rw [hlen, List.take_length] at pacc
    exact pacc
theorem paired_eq (xs : List V) : Paired (fun (a b : V) => a = b) xs xs := by
  induction xs with
  | nil => exact .nil
  | cons a r ih => exact .cons rfl ih
theorem paired_map {γ : Type} (g : γ → V) (xs : List γ) : Paired (fun (a : V) (b : γ) => a = g b) (xs.map g) xs := by
  induction xs with
  | nil => exact .nil
  | cons a r ih => exact .cons rfl ih
theorem paired_mem {γ : Type} {F : V → γ → Prop} : ∀ {l : List V} {m : List γ}, Paired F l m → Paired (fun a b => F a b ∧ b ∈ m) l m
  | _, _, .nil => .nil
  | _, _, .cons r t => .cons ⟨r, List.mem_cons_self⟩ (pr_mono (paired_mem t) fun a b z => ⟨z.1, List.mem_cons_of_mem _ z.2⟩)
end
end KW

/-! the promises -/
namespace KW
open PySem PySem.Spec PyProof.Rows L2 Evl

/-- things of any kind -/
inductive Thing (K : PySem.W.Frag) (H : Hp) : V → Prop where
  | non : Thing K H .non
  | bl (b : Bool) : Thing K H (.bl b)
  | int (i : Int) : Thing K H (.int i)
  | str (x : Str) (h : x.length ≤ 100000) : Thing K H (.str x)
  | lst {a : Addr} {xs : List V} (e : H a = some (.lst xs)) : Thing K H (.ref a)
  | tup {a : Addr} {xs : List V} (e : H a = some (.tup xs)) : Thing K H (.ref a)
  | dK {a : Addr} {kvs : List (Key × V)} (e : H a = some (.dK kvs)) : Thing K H (.ref a)
theorem Thing.ex {K : PySem.W.Frag} {H H' : Hp} {v : V} (e : Ex H H') (h : Thing K H v) : Thing K H' v := by
  cases h with
  | non => exact .non
  | bl b => exact .bl b
  | int i => exact .int i
  | str x h => exact .str x h
  | lst q => exact .lst (e _ _ q)
  | tup q => exact .tup (e _ _ q)
  | dK q => exact .dK (e _ _ q)
theorem thing_key {K : PySem.W.Frag} {H : Hp} {x : Str} (h : isKey x = true) : Thing K H (.str x) := .str x (by have := isKey_le h; omega)
def isKeyV : V → Bool
  | .str x => isKey x
  | _ => false
def isWholeV (v : V) (low : Int) : Bool := match v with
  | .int i => decide (low ≤ i)
  | _ => false
def isValueV (v : V) : Bool := match v with
  | .int i => decide (0 ≤ i) && decide (i ≤ 9999)
  | _ => false
section
variable (K : PySem.W.Frag)
def sp_is_key : Sp := fun vs H Q _ => ∃ v, vs = [v] ∧ Thing K H v ∧ ∀ H', Ex H H' → Q (.bl (isKeyV v)) H'
def sp_is_whole : Sp := fun vs H Q _ => ∃ v low, vs = [v, .int low] ∧ Thing K H v ∧ ∀ H', Ex H H' → Q (.bl (isWholeV v low)) H'
def sp_is_value : Sp := fun vs H Q _ => ∃ v, vs = [v] ∧ Thing K H v ∧ ∀ H', Ex H H' → Q (.bl (isValueV v)) H'
def spNeed (t : V → Bool) (x : Str) : Sp := fun vs H Q E => ∃ v, vs = [v] ∧ Thing K H v ∧ ∀ H', Ex H H' → (t v = true → Q .non H') ∧ (t v = false → E (.ref (He.ga K x)) none H')
def sp_need_key : Sp := spNeed K isKeyV "NoKey"
def sp_need_value : Sp := spNeed K isValueV "NoValue"
def sp_need_whole : Sp := fun vs H Q E => ∃ v low, vs = [v, .int low] ∧ Thing K H v ∧ ∀ H', Ex H H' → (isWholeV v low = true → Q .non H') ∧ (isWholeV v low = false → E (.ref (He.ga K "NoNumber")) none H')
def sp_is_within (_ : PySem.W.Frag) : Sp := fun vs H Q _ => ∃ k a b, vs = [.str k, .str a, .str b] ∧ Q (.bl (within k a b)) H
/-- one thing alone is changed -/
def Keep1 (d : Addr) (H H' : Hp) : Prop := ∀ b o, b ≠ d → H b = some o → H' b = some o
def evOk (rs : Recs) (e : Evt) : Prop := ∀ k, e.deed = .drop k → hasR rs k = true
def sp_change (_ : PySem.W.Frag) : Sp := fun vs H Q _ => ∃ d v rs e, vs = [.ref d, v] ∧ RecsAt H d rs ∧ EvV H v e ∧ evOk rs e ∧ rs.length ≤ 100000 ∧ ∀ H', RecsAt H' d (changeR rs e) → Keep1 d H H' → Kt H H' → Q .non H'
def sp_in_rows (_ : PySem.W.Frag) : Sp := fun vs H Q _ => ∃ d rs, vs = [.ref d] ∧ RecsAt H d rs ∧ (keysA rs).Nodup ∧ rs.length < 64 ∧ ∀ H' l, Ex H H' → H l = none → RowsAt H' l (inRows rs) → Q (.ref l) H'
/-- methods of a house -/
def sp_h_init : Sp := fun vs H Q _ => ∃ p dx, vs = [.ref p] ∧ H p = some (.ins (clsHouse K) dx []) ∧ ∀ H' z, HouseAt (clsHouse K) H' p HS.new z → Keep [p] (z.fp p) H H' → Q .non H'
def DeedsAt (K : PySem.W.Frag) (H : Hp) (a : Addr) (ds : List Deed) : Prop := ∃ vs, (H a = some (.lst vs) ∨ H a = some (.tup vs)) ∧ Paired (DeedV H) vs ds
def HS.small (s : HS) (n : Nat) : Prop := s.recs.length + n ≤ 50000 ∧ s.log.length + n ≤ 50000
def sp_h_write : Sp := fun vs H Q _ => ∃ p s z a ds, vs = [.ref p, .ref a] ∧ HouseAt (clsHouse K) H p s z ∧ DeedsAt K H a ds ∧ a ∉ z.fp p ∧ s.small ds.length ∧ (ds.map Deed.key).Nodup ∧
  ∀ H' z', HouseAt (clsHouse K) H' p (s.write ds) z' → Keep (z.fp p) (z'.fp p) H H' → Q (.bl (!decide (realD s.recs ds = []))) H'
def sp_h_need_lease : Sp := fun vs H Q E => ∃ p s z v, vs = [.ref p, v] ∧ HouseAt (clsHouse K) H p s z ∧ Thing K H v ∧ ∀ H', Ex H H' →
  (∀ i, v = .int i → 1 ≤ i → i ∈ keysA s.ends → Q .non H') ∧ ((∀ i, v = .int i → 1 ≤ i → i ∉ keysA s.ends) → E (.ref (He.ga K "NoLease")) none H')
/-- put and drop: good keys and values -/
def leaseOk (s : HS) (l : Option Int) : Prop := ∀ i, l = some i → 1 ≤ i ∧ i ∈ keysA s.ends
def sp_h_put : Sp := fun vs H Q E => ∃ p s z k v l, vs = [.ref p, .str k, .int v, optV l] ∧ HouseAt (clsHouse K) H p s z ∧ isKey k = true ∧ 0 ≤ v ∧ v ≤ 9999 ∧ leaseOk s l ∧ s.small 1 ∧
  ∀ H' z', HouseAt (clsHouse K) H' p (s.write [.put k v l]) z' → Keep (z.fp p) (z'.fp p) H H' → Q (.int (s.last + 1)) H'
def sp_h_drop : Sp := fun vs H Q E => ∃ p s z k, vs = [.ref p, .str k] ∧ HouseAt (clsHouse K) H p s z ∧ isKey k = true ∧ s.small 1 ∧
  ∀ H' z', HouseAt (clsHouse K) H' p (s.write [.drop k]) z' → Keep (z.fp p) (z'.fp p) H H' → Q (.bl (hasR s.recs k)) H'
def sp_h_number : Sp := fun vs H Q _ => ∃ p s z, vs = [.ref p] ∧ HouseAt (clsHouse K) H p s z ∧ Q (.int s.last) H
/-- the records at a number -/
def HS.at (s : HS) (n : Int) : Recs := if n = s.last then s.recs else (s.log.filter fun e => decide (e.num ≤ n)).foldl changeR s.old
/-- every drop in the log drops what is there -/
def HS.logOk (s : HS) : Prop := ∀ n : Int, ∀ pre e post, (s.log.filter fun e => decide (e.num ≤ n)) = pre ++ e :: post → evOk (pre.foldl changeR s.old) e
def sp_h_records_at : Sp := fun vs H Q _ => ∃ p s z n, vs = [.ref p, .int n] ∧ HouseAt (clsHouse K) H p s z ∧ s.logOk ∧ s.log.length + s.old.length ≤ 50000 ∧
  ∀ H' d, Ex H H' → RecsAt H' d (s.at n) → Q (.ref d) H'
/-- a number that is asked: none, or one there was -/
def numV (s : HS) (n : Option Int) : Int := n.getD s.last
def numBad (s : HS) (n : Option Int) : Prop := ∃ i, n = some i ∧ (i < 0 ∨ s.last < i)
def numFold (s : HS) (n : Option Int) : Prop := ∃ i, n = some i ∧ 0 ≤ i ∧ i ≤ s.last ∧ i < s.base
def numOk (s : HS) (n : Option Int) : Prop := ∀ i, n = some i → 0 ≤ i ∧ i ≤ s.last ∧ s.base ≤ i
def sp_h_records_when : Sp := fun vs H Q E => ∃ p s z n, vs = [.ref p, optV n] ∧ HouseAt (clsHouse K) H p s z ∧ s.logOk ∧ s.log.length + s.old.length ≤ 50000 ∧
  ∀ H', Ex H H' → (numBad s n → E (.ref (He.ga K "NoNumber")) none H') ∧ (numFold s n → E (.ref (He.ga K "Folded")) none H') ∧ (numOk s n → ∀ d, RecsAt H' d (s.at (numV s n)) → Q (.ref d) H')
def recOV (H : Hp) (v : V) : Option Rec → Prop
  | none => v = .non
  | some r => RecV H v r
def sp_h_look : Sp := fun vs H Q E => ∃ p s z k n, vs = [.ref p, .str k, optV n] ∧ HouseAt (clsHouse K) H p s z ∧ isKey k = true ∧ s.logOk ∧ s.log.length + s.old.length ≤ 50000 ∧
  ∀ H', Ex H H' → (numBad s n → E (.ref (He.ga K "NoNumber")) none H') ∧ (numFold s n → E (.ref (He.ga K "Folded")) none H') ∧ (numOk s n → ∀ v, recOV H' v (lookR (s.at (numV s n)) k) → Q v H')
def sp_h_rows : Sp := fun vs H Q E => ∃ p s z a b n, vs = [.ref p, .str a, .str b, optV n] ∧ HouseAt (clsHouse K) H p s z ∧ isKey a = true ∧ isKey b = true ∧ s.logOk ∧ s.log.length + s.old.length ≤ 50000 ∧
  (keysA (s.at (numV s n))).Nodup ∧ (s.at (numV s n)).length < 64 ∧
  ∀ H', Ex H H' → (numBad s n → E (.ref (He.ga K "NoNumber")) none H') ∧ (numFold s n → E (.ref (He.ga K "Folded")) none H') ∧ (numOk s n → ∀ l, H l = none → RowsAt H' l (spanRows (s.at (numV s n)) a b) → Q (.ref l) H')
/-! the laws' defs -/
def Scr (H : Hp) (a : Addr) (ns : List Int) : Prop := ((∃ o, H a = some (.frz o (.lst (ns.map V.int)))) ∨ SqL K (fun _ => none) a (ns.map V.int)) ∧ ns.length ≤ 63
def sp_l_cell_at : Sp := fun vs H Q _ => ∃ a ns k, vs = [.ref a, .int k] ∧ Scr K H a ns ∧ 0 ≤ k ∧ ∀ H', Ex H H' → Q (.int (cellAt ns k)) H'
def sp_l_mixed : Sp := fun vs H Q _ => ∃ a ns k m, vs = [.ref a, .int k, .int m] ∧ Scr K H a ns ∧ 0 ≤ k ∧ 0 < m ∧ ∀ H', Ex H H' → Q (.int (mixed ns k m)) H'
def sp_l_key : Sp := fun vs H Q _ => ∃ a ns k, vs = [.ref a, .int k] ∧ Scr K H a ns ∧ 0 ≤ k ∧ ∀ H', Ex H H' → Q (.str (lawKey ns k)) H'
def sp_l_keys : Sp := fun vs H Q _ => ∃ a ns k, vs = [.ref a, .int k] ∧ Scr K H a ns ∧ 0 ≤ k ∧ ∀ H' l, Ex H H' → H l = none → H' l = some (.lst ((lawKeys ns k).map V.str)) → Q (.ref l) H'
def sp_l_span : Sp := fun vs H Q _ => ∃ a ns k l keys, vs = [.ref a, .int k, .ref l] ∧ Scr K H a ns ∧ 0 ≤ k ∧ H l = some (.lst (keys.map V.str)) ∧ 0 < keys.length ∧ (∀ x ∈ keys, isKey x = true) ∧
  ∀ H' t, Ex H H' → H' t = some (.tup [.str (lawSpan ns k keys).1, .str (lawSpan ns k keys).2]) → Q (.ref t) H'
def sp_l_rows (_ : PySem.W.Frag) : Sp := fun vs H Q _ => ∃ d rs a b, vs = [.ref d, .str a, .str b] ∧ RecsAt H d rs ∧ (keysA rs).Nodup ∧ rs.length < 64 ∧ ∀ H' l, Ex H H' → H l = none → RowsAt H' l (spanRows rs a b) → Q (.ref l) H'
def sp_law : Sp := fun vs H Q _ => ∃ a ns, vs = [.ref a] ∧ Scr K H a ns ∧ ∀ H', Q (.bl true) H'
end
theorem Scr.sq {K : PySem.W.Frag} {H : Hp} {a : Addr} {ns : List Int} (h : Scr K H a ns) : SqL K H a (ns.map V.int) := by
  rcases h.1 with ⟨o, h⟩ | h
  · exact .inl (.inr ⟨o, h⟩)
  · rcases h with h | h
    · rcases h with h | ⟨o, h⟩
      · cases h
      · cases h
    · exact .inr h
theorem Scr.ex {K : PySem.W.Frag} {H H' : Hp} {a : Addr} {ns : List Int} (e : Ex H H') (h : Scr K H a ns) : Scr K H' a ns := by
  refine ⟨?_, h.2⟩
  rcases h.1 with ⟨o, h⟩ | h
  · exact .inl ⟨o, e _ _ h⟩
  · exact .inr h
theorem Scr.of {K : PySem.W.Frag} {H : Hp} {a : Addr} {ns : List Int} (hl : ns.length ≤ 63) (h : SqL K H a (ns.map V.int)) (o : Only H) : Scr K H a ns := by
  refine ⟨?_, hl⟩
  rcases h with h | h
  · rcases h with h | h
    · rcases o a with q | ⟨u, xs, q⟩
      · rw [h] at q; cases q
      · rw [h] at q; cases q
    · exact .inl h
  · exact .inr (.inr h)
end KW

/-! readings, printed by mkT.py -/
namespace KW
open PySem PySem.Spec PyProof.Rows L2 Evl
def t_is_key (K : PySem.W.Frag) : TS := (tRet (tAndV (tCB (rIsi K) (tCons (tVar 0) (tCons (tC (.ty "str")) tNil))) (tAndV (tChain rLeI rLeI (tC (.int 1)) (tCB rLenS1 (tCons (tVar 0) tNil)) (tC (.int 12))) (tCB (rAll K) (tCons (tLc (iStr (tVar 0)) (gName 1) tYes (tOp rInS (tVar 1) (tC (.str "abcdefghijklmnopqrstuvwxyz0123456789/"))) [1]) tNil)))))
abbrev N_is_key : List Str := ["thing", "sign"]
def t_is_whole (K : PySem.W.Frag) : TS := (tRet (tAndV (tCB (rIsi K) (tCons (tVar 0) (tCons (tC (.ty "int")) tNil))) (tAndV (tNotV (tCB (rIsi K) (tCons (tVar 0) (tCons (tC (.ty "bool")) tNil)))) (tOp rLeI (tVar 1) (tVar 0)))))
abbrev N_is_whole : List Str := ["thing", "low"]
def t_is_value (K : PySem.W.Frag) : TS := (tRet (tAndV (tCall (sp_is_whole K) [] E0 (tCons (tVar 0) (tCons (tC (.int 0)) tNil))) (tOp rLeI (tVar 0) (tC (.int 9999)))))
abbrev N_is_value : List Str := ["thing"]
def t_need_key (K : PySem.W.Frag) (E : XK) : TS := (tIfS (tNot (tB (tCall (sp_is_key K) [] E0 (tCons (tVar 0) tNil)))) (tRz E (He.ga K "NoKey")) tNext)
abbrev N_need_key : List Str := ["key"]
def t_need_value (K : PySem.W.Frag) (E : XK) : TS := (tIfS (tNot (tB (tCall (sp_is_value K) [] E0 (tCons (tVar 0) tNil)))) (tRz E (He.ga K "NoValue")) tNext)
abbrev N_need_value : List Str := ["value"]
def t_need_whole (K : PySem.W.Frag) (E : XK) : TS := (tIfS (tNot (tB (tCall (sp_is_whole K) [] E0 (tCons (tVar 0) (tCons (tVar 1) tNil))))) (tRz E (He.ga K "NoNumber")) tNext)
abbrev N_need_whole : List Str := ["number", "low"]
def t_is_within (K : PySem.W.Frag) : TS := (tRet (tChain rLeS rLeS (tVar 1) (tVar 0) (tVar 2)))
abbrev N_is_within : List Str := ["key", "first", "last"]
def t_change (K : PySem.W.Frag) : TS := (tSeq (tAsg (tVar 1) (gTup K 5 (gCons (gName 2) (gCons (gName 3) (gCons (gName 4) (gCons (gName 5) (gCons (gName 6) gNil)))))))
  (tIfS (tTest (tOp rEq (tVar 3) (tC (.str "drop")))) (tDrop (tDPop1 (tVar 0) (tVar 4))) (tIfS (tB (tDIn (tVar 4) (tVar 0))) (sDPut (tVar 0) (tVar 4) (tTup (tCons (tVar 5) (tCons (tOp (rIxT K) (tDGet (tVar 0) (tVar 4)) (tC (.int 1))) (tCons (tVar 2) (tCons (tOp rAddI (tOp (rIxT K) (tDGet (tVar 0) (tVar 4)) (tC (.int 3))) (tC (.int 1))) (tCons (tVar 6) tNil))))))) (sDPut (tVar 0) (tVar 4) (tTup (tCons (tVar 5) (tCons (tVar 2) (tCons (tVar 2) (tCons (tC (.int 1)) (tCons (tVar 6) tNil))))))))))
abbrev N_change : List Str := ["records", "event", "number", "kind", "key", "value", "lease"]
def t_in_rows (K : PySem.W.Frag) : TS := (tRet (tLc (iList K (tCB (rSortedS K) (tCons (tCB rListD (tCons (tVar 0) tNil)) tNil))) (gName 1) tYes (tTup (tCons (tVar 1) (tCons (tDGet (tVar 0) (tVar 1)) tNil))) [1]))
abbrev N_in_rows : List Str := ["records", "key"]
def t_h_init (K : PySem.W.Frag) : TS := (tSeq (sFld K (tVar 0) tDNewK "records")
  (tSeq (sFld K (tVar 0) tDNewK "old_records")
  (tSeq (sFld K (tVar 0) (tLst tNil) "log")
  (tSeq (sFld K (tVar 0) (tC (.int 0)) "last")
  (tSeq (sFld K (tVar 0) (tC (.int 0)) "base")
  (tSeq (sFld K (tVar 0) tDNewK "ends")
  (tSeq (sFld K (tVar 0) (tC (.int 0)) "granted")
  (tSeq (sFld K (tVar 0) (tC (.int 0)) "now")
  (tSeq (sFld K (tVar 0) (tLst tNil) "spans")
  (sFld K (tVar 0) tDNewK "cut"))))))))))
abbrev N_h_init : List Str := ["self"]
def t_h_write (K : PySem.W.Frag) : TS := (tSeq (tAsg (tLc (iSeq K (tVar 1)) (gName 3) (tOr (tTest (tOp rEq (tOp (rIxT K) (tVar 3) (tC (.int 0))) (tC (.str "put")))) (tB (tDIn (tOp (rIxT K) (tVar 3) (tC (.int 1))) (tFld K (tVar 0) "records")))) (tVar 3) [3]) (gName 2))
  (tSeq (tIfS (tTest (tOp (rNeP K) (tVar 2) (tLst tNil))) (sFld K (tVar 0) (tOp rAddI (tFld K (tVar 0) "last") (tC (.int 1))) "last") tNext)
  (tSeq (tFor (iList K (tVar 2)) (gName 3)
  (tSeq (tAsg (tOp (rCatA K) (tOp (rCatA K) (tTup (tCons (tFld K (tVar 0) "last") tNil)) (tVar 3)) (tOp (rRep01 K) (tTup (tCons (tC .non) (tCons (tC .non) tNil))) (tCB rInt1 (tCons (tOp rEq (tOp (rIxT K) (tVar 3) (tC (.int 0))) (tC (.str "drop"))) tNil)))) (gName 4))
  (tSeq (tDrop (tBM K "list" rAppend (tFld K (tVar 0) "log") (tCons (tVar 4) tNil)))
  (tDrop (tCall (sp_change K) [] E0 (tCons (tFld K (tVar 0) "records") (tCons (tVar 4) tNil)))))))
  (tRet (tOp (rNeP K) (tVar 2) (tLst tNil))))))
abbrev N_h_write : List Str := ["self", "deeds", "real", "deed", "event"]
def t_h_put (K : PySem.W.Frag) (E : XK) : TS := (tSeq (tDrop (tCall (sp_need_key K) [] E (tCons (tVar 1) tNil)))
  (tSeq (tDrop (tCall (sp_need_value K) [] E (tCons (tVar 2) tNil)))
  (tSeq (tIfS (tTest (tOp rNotN (tVar 3) (tC .non))) (tDrop (tMeth (clsHouse K) "need_lease" (sp_h_need_lease K) [] E (tVar 0) (tCons (tVar 3) tNil))) tNext)
  (tSeq (tDrop (tMeth (clsHouse K) "write" (sp_h_write K) [] E0 (tVar 0) (tCons (tLst (tCons (tTup (tCons (tC (.str "put")) (tCons (tVar 1) (tCons (tVar 2) (tCons (tVar 3) tNil))))) tNil)) tNil)))
  (tRet (tFld K (tVar 0) "last"))))))
abbrev N_h_put : List Str := ["self", "key", "value", "lease"]
def t_h_drop (K : PySem.W.Frag) (E : XK) : TS := (tSeq (tDrop (tCall (sp_need_key K) [] E (tCons (tVar 1) tNil)))
  (tRet (tMeth (clsHouse K) "write" (sp_h_write K) [] E0 (tVar 0) (tCons (tLst (tCons (tTup (tCons (tC (.str "drop")) (tCons (tVar 1) tNil))) tNil)) tNil))))
abbrev N_h_drop : List Str := ["self", "key"]
def t_h_number (K : PySem.W.Frag) : TS := (tRet (tFld K (tVar 0) "last"))
abbrev N_h_number : List Str := ["self"]
def t_h_records_at (K : PySem.W.Frag) : TS := (tSeq (tIfS (tTest (tOp rEq (tVar 1) (tFld K (tVar 0) "last"))) (tRet (tFld K (tVar 0) "records")) tNext)
  (tSeq (tAsg (tCB rDictD (tCons (tFld K (tVar 0) "old_records") tNil)) (gName 2))
  (tSeq (tFor (iList K (tFld K (tVar 0) "log")) (gName 3)
  (tIfS (tTest (tOp rLeI (tOp (rIxT K) (tVar 3) (tC (.int 0))) (tVar 1))) (tDrop (tCall (sp_change K) [] E0 (tCons (tVar 2) (tCons (tVar 3) tNil)))) tNext))
  (tRet (tVar 2)))))
abbrev N_h_records_at : List Str := ["self", "number", "made", "event"]
def t_h_records_when (K : PySem.W.Frag) (E : XK) : TS := (tSeq (tIfS (tTest (tOp rIsN (tVar 1) (tC .non))) (tRet (tFld K (tVar 0) "records")) tNext)
  (tSeq (tIfS (tOr (tNot (tB (tCall (sp_is_whole K) [] E0 (tCons (tVar 1) (tCons (tC (.int 0)) tNil))))) (tTest (tOp rGtI (tVar 1) (tFld K (tVar 0) "last")))) (tRz E (He.ga K "NoNumber")) tNext)
  (tSeq (tIfS (tTest (tOp rLtI (tVar 1) (tFld K (tVar 0) "base"))) (tRz E (He.ga K "Folded")) tNext)
  (tRet (tMeth (clsHouse K) "records_at" (sp_h_records_at K) [] E0 (tVar 0) (tCons (tVar 1) tNil))))))
abbrev N_h_records_when : List Str := ["self", "number"]
def t_h_look (K : PySem.W.Frag) (E : XK) : TS := (tSeq (tDrop (tCall (sp_need_key K) [] E (tCons (tVar 1) tNil)))
  (tRet (tDGet1 (tMeth (clsHouse K) "records_when" (sp_h_records_when K) [] E (tVar 0) (tCons (tVar 2) tNil)) (tVar 1))))
abbrev N_h_look : List Str := ["self", "key", "number"]
def t_h_rows (K : PySem.W.Frag) (E : XK) : TS := (tSeq (tDrop (tCall (sp_need_key K) [] E (tCons (tVar 1) tNil)))
  (tSeq (tDrop (tCall (sp_need_key K) [] E (tCons (tVar 2) tNil)))
  (tRet (tLc (iList K (tCall (sp_in_rows K) [] E0 (tCons (tMeth (clsHouse K) "records_when" (sp_h_records_when K) [] E (tVar 0) (tCons (tVar 3) tNil)) tNil))) (gName 4) (tB (tCall (sp_is_within K) [] E0 (tCons (tOp (rIxT K) (tVar 4) (tC (.int 0))) (tCons (tVar 1) (tCons (tVar 2) tNil))))) (tVar 4) [4]))))
abbrev N_h_rows : List Str := ["self", "first", "last", "number", "row"]
def t_h_need_lease (K : PySem.W.Frag) (E : XK) : TS := (tIfS (tOr (tNot (tB (tCall (sp_is_whole K) [] E0 (tCons (tVar 1) (tCons (tC (.int 1)) tNil))))) (tB (tDNotIn (tVar 1) (tFld K (tVar 0) "ends")))) (tRz E (He.ga K "NoLease")) tNext)
abbrev N_h_need_lease : List Str := ["self", "lease"]
def t_l_cell_at (K : PySem.W.Frag) : TS := (tSeq (tIfS (tTest (tOp rLtI (tVar 1) (tCB (rLenS K) (tCons (tVar 0) tNil)))) (tRet (tOp (rIxL K) (tVar 0) (tVar 1))) tNext)
  (tSeq (tIfS (tTest (tOp (rEqP K) (tVar 0) (tLst tNil))) (tRet (tC (.int 0))) tNext)
  (tRet (tOp rAddI (tOp rMulI (tOp (rIxL K) (tVar 0) (tOp rModI (tVar 1) (tCB (rLenS K) (tCons (tVar 0) tNil)))) (tC (.int 31))) (tVar 1)))))
abbrev N_l_cell_at : List Str := ["script", "k"]
def t_l_mixed (K : PySem.W.Frag) : TS := (tSeq (tAsg (tOp rModI (tOp rMulI (tOp rAddI (tOp rAddI (tCall (sp_l_cell_at K) [] E0 (tCons (tVar 0) (tCons (tVar 1) tNil))) (tOp rMulI (tC (.int 7919)) (tVar 1))) (tC (.int 1))) (tC (.int 48271))) (tC (.int 2147483647))) (gName 3))
  (tRet (tOp rModI (tOp rModI (tOp rAddI (tOp rAddI (tOp rMulI (tVar 3) (tVar 3)) (tOp rMulI (tC (.int 7)) (tVar 3))) (tVar 1)) (tC (.int 2147483629))) (tVar 2))))
abbrev N_l_mixed : List Str := ["script", "k", "many", "drawn"]
def t_l_key (K : PySem.W.Frag) : TS := (tSeq (tAsg (tC (.str "abcdefghijklmnopqrstuvwxyz0123456789/")) (gName 2))
  (tSeq (tAsg (tC (.str "")) (gName 3))
  (tSeq (tFor (iRng1 (tCons (tOp (rIxL K) (tLst (tCons (tC (.int 1)) (tCons (tC (.int 2)) (tCons (tC (.int 3)) (tCons (tC (.int 5)) (tCons (tC (.int 8)) (tCons (tC (.int 11)) (tCons (tC (.int 12)) tNil)))))))) (tCall (sp_l_mixed K) [] E0 (tCons (tVar 0) (tCons (tVar 1) (tCons (tC (.int 7)) tNil))))) tNil)) (gName 4)
  (tAsg (tOp rCatS (tVar 3) (tOp rIxS (tVar 2) (tCall (sp_l_mixed K) [] E0 (tCons (tVar 0) (tCons (tOp rAddI (tOp rAddI (tVar 1) (tC (.int 1))) (tVar 4)) (tCons (tC (.int 37)) tNil)))))) (gName 3)))
  (tRet (tVar 3)))))
abbrev N_l_key : List Str := ["script", "at", "signs", "made", "k"]
def t_l_keys (K : PySem.W.Frag) : TS := (tSeq (tAsg (tLst (tCons (tCall (sp_l_key K) [] E0 (tCons (tVar 0) (tCons (tVar 1) tNil))) tNil)) (gName 2))
  (tSeq (tFor (iRng1 (tCons (tC (.int 4)) tNil)) (gName 3)
  (tSeq (tAsg (tOp rAddI (tVar 1) (tOp rMulI (tC (.int 20)) (tOp rAddI (tVar 3) (tC (.int 1))))) (gName 4))
  (tSeq (tAsg (tOp (rIxL K) (tVar 2) (tUn rNegI (tC (.int 1)))) (gName 5))
  (tSeq (tAsg (tCall (sp_l_mixed K) [] E0 (tCons (tVar 0) (tCons (tOp rAddI (tVar 4) (tC (.int 15))) (tCons (tC (.int 4)) tNil)))) (gName 6))
  (tSeq (tAsg (tCall (sp_l_mixed K) [] E0 (tCons (tVar 0) (tCons (tOp rAddI (tVar 4) (tC (.int 16))) (tCons (tCB rLenS1 (tCons (tVar 5) tNil)) tNil)))) (gName 7))
  (tIfS (tTest (tOp rEq (tVar 6) (tC (.int 0)))) (tDrop (tBM K "list" rAppend (tVar 2) (tCons (tCall (sp_l_key K) [] E0 (tCons (tVar 0) (tCons (tVar 4) tNil))) tNil))) (tIfS (tAnd (tTest (tOp rEq (tVar 6) (tC (.int 1)))) (tTest (tOp rLtI (tCB rLenS1 (tCons (tVar 5) tNil)) (tC (.int 12))))) (tDrop (tBM K "list" rAppend (tVar 2) (tCons (tOp rCatS (tVar 5) (tOp rIxS (tCall (sp_l_key K) [] E0 (tCons (tVar 0) (tCons (tVar 4) tNil))) (tC (.int 0)))) tNil))) (tDrop (tBM K "list" rAppend (tVar 2) (tCons (tOp rCatS (tOp rCatS (tSl rSlS (tVar 5) tNoPart (tPart (tVar 7))) (tOp rIxS (tCall (sp_l_key K) [] E0 (tCons (tVar 0) (tCons (tVar 4) tNil))) (tC (.int 0)))) (tSl rSlS (tVar 5) (tPart (tOp rAddI (tVar 7) (tC (.int 1)))) tNoPart)) tNil))))))))))
  (tRet (tVar 2))))
abbrev N_l_keys : List Str := ["script", "at", "made", "k", "here", "last", "way", "place"]
def t_l_span (K : PySem.W.Frag) : TS := (tSeq (tAsg (tLst (tCons (tOp (rIxL K) (tVar 2) (tCall (sp_l_mixed K) [] E0 (tCons (tVar 0) (tCons (tVar 1) (tCons (tCB (rLenS K) (tCons (tVar 2) tNil)) tNil))))) (tCons (tOp (rIxL K) (tVar 2) (tCall (sp_l_mixed K) [] E0 (tCons (tVar 0) (tCons (tOp rAddI (tVar 1) (tC (.int 1))) (tCons (tCB (rLenS K) (tCons (tVar 2) tNil)) tNil))))) tNil))) (gName 3))
  (tSeq (tIfS (tTest (tOp rEq (tCall (sp_l_mixed K) [] E0 (tCons (tVar 0) (tCons (tOp rAddI (tVar 1) (tC (.int 2))) (tCons (tC (.int 3)) tNil)))) (tC (.int 0)))) (tRet (tTup (tCons (tC (.str "/")) (tCons (tC (.str "zzzzzzzzzzzz")) tNil)))) tNext)
  (tSeq (tIfS (tTest (tOp rEq (tCall (sp_l_mixed K) [] E0 (tCons (tVar 0) (tCons (tOp rAddI (tVar 1) (tC (.int 3))) (tCons (tC (.int 8)) tNil)))) (tC (.int 0)))) (tRet (tTup (tCons (tCB (rMaxS K) (tCons (tVar 3) tNil)) (tCons (tCB (rMinS K) (tCons (tVar 3) tNil)) tNil)))) tNext)
  (tRet (tTup (tCons (tCB (rMinS K) (tCons (tVar 3) tNil)) (tCons (tCB (rMaxS K) (tCons (tVar 3) tNil)) tNil)))))))
abbrev N_l_span : List Str := ["script", "at", "keys", "ends"]
def t_l_rows (K : PySem.W.Frag) : TS := (tRet (tLc (iList K (tCB (rSortedS K) (tCons (tCB rListD (tCons (tVar 0) tNil)) tNil))) (gName 3) (tTest (tChain rLeS rLeS (tVar 1) (tVar 3) (tVar 2))) (tTup (tCons (tVar 3) (tCons (tDGet (tVar 0) (tVar 3)) tNil))) [3]))
abbrev N_l_rows : List Str := ["records", "first", "last", "key"]
end KW

/-! the laws' draws, keys, spans -/
namespace KW
open PySem PySem.Spec PyProof.Rows L2 Evl
theorem dpAll_ints {K : PySem.W.Frag} {H : Hp} : ∀ ns : List Int, DpAll K H (ns.map V.int) (ns.map PyData.int)
  | [] => .nil
  | n :: r => .cons (.int n) (dpAll_ints r)
theorem plain_ints : ∀ ns : List Int, PyData.plainAll (ns.map PyData.int) = true
  | [] => rfl
  | n :: r => by
    rw [List.map_cons, PyData.plainAll, plain_ints r]
    rfl
theorem depth_ints : ∀ ns : List Int, PyData.depthAll (ns.map PyData.int) = 0
  | [] => rfl
  | n :: r => by
    rw [List.map_cons, PyData.depthAll, depth_ints r]
    rfl
theorem eqv_nil (xs : List PyData) : PyData.eqv (.list xs) (.list []) = decide (xs = []) := by
  cases xs with
  | nil => simp [PyData.eqv, PyData.eqvAll]
  | cons a b => simp [PyData.eqv, PyData.eqvAll]
section
variable {K : PySem.W.Frag} {σ : L2.St} {H H' : Hp} {ta tb te tx : TE} {a : Addr} {ns : List Int} {k m : Int}
theorem ev_lenScr (ha : Ev ta σ H (.ref a)) (h : Scr K H a ns) : Ev (tCB (rLenS K) (tCons ta tNil)) σ H (.int (ns.length : Int)) := by
  have e := ev_len ha h.sq
  rw [List.length_map] at e
  exact e
theorem ev_nilScr (ha : Ev ta σ H (.ref a)) (h : Scr K H a ns) : Ev (tOp (rEqP K) ta (tLst tNil)) σ H (.bl (decide (ns = []))) := by
  refine ev_opL ha (el_lst ea_nil (by decide)) fun p H1 hp e => rv_val fun H2 e2 Q q => ?_
  refine ⟨.list (ns.map PyData.int), .list [], .lst (h.ex (e.trans e2)).sq (dpAll_ints ns), .lst (sq_of (e2 p _ hp)) .nil, plain_ints ns, rfl, ?_, ?_⟩
  · show PyData.depthAll _ + 1 ≤ 60
    rw [depth_ints]
    decide
  · rw [eqv_nil]
    have : decide (ns.map PyData.int = []) = decide (ns = []) := by simp
    rw [this]
    exact q
theorem atI_getD {i : Int} (h0 : 0 ≤ i) (h1 : i < (ns.length : Int)) : atI (ns.map V.int) i = some (.int (ns.getD i.toNat 0)) := by
  obtain ⟨n, rfl⟩ := Int.eq_ofNat_of_zero_le h0
  have hl : n < ns.length := by omega
  refine atI_nat ?_
  rw [Int.toNat_natCast, List.getElem?_map, List.getElem?_eq_getElem hl, List.getD_eq_getElem?_getD, List.getElem?_eq_getElem hl]
  rfl
theorem ev_mixed (h : EvA (tCons ta (tCons tb (tCons tx tNil))) σ H [.ref a, .int k, .int m]) (hs : Scr K H a ns) (hk : 0 ≤ k) (hm : 0 < m) {E : XK} : Ev (tCall (sp_l_mixed K) [] E (tCons ta (tCons tb (tCons tx tNil)))) σ H (.int (mixed ns k m)) :=
  ev_call h fun H1 e Q q E => ⟨a, ns, k, m, rfl, hs.ex e, hk, hm, fun H2 e2 => q H2 e2⟩
theorem ev_cell (h : EvA (tCons ta (tCons tb tNil)) σ H [.ref a, .int k]) (hs : Scr K H a ns) (hk : 0 ≤ k) {E : XK} : Ev (tCall (sp_l_cell_at K) [] E (tCons ta (tCons tb tNil))) σ H (.int (cellAt ns k)) :=
  ev_call h fun H1 e Q q E => ⟨a, ns, k, rfl, hs.ex e, hk, fun H2 e2 => q H2 e2⟩
theorem ev_key (h : EvA (tCons ta (tCons tb tNil)) σ H [.ref a, .int k]) (hs : Scr K H a ns) (hk : 0 ≤ k) {E : XK} : Ev (tCall (sp_l_key K) [] E (tCons ta (tCons tb tNil))) σ H (.str (lawKey ns k)) :=
  ev_call h fun H1 e Q q E => ⟨a, ns, k, rfl, hs.ex e, hk, fun H2 e2 => q H2 e2⟩
end
section
variable {K : PySem.W.Frag} {vs : List V} {H : Hp} {Q : VK} {E : XK}
theorem pure_l_cell_at (h : sp_l_cell_at K vs H Q E) : t_l_cell_at K { nx := fun _ H' => Q .non H', rt := Q } (start N_l_cell_at vs) H := by
  obtain ⟨a, ns, k, rfl, hs, hk, q⟩ := h
  refine alw_here (alw_seq (alw_if (et_test (ev_lt (ev_var rfl) (ev_lenScr (ev_var rfl) hs))) (fun hb => ?_) fun hb => alw_next fun H1 e1 => ?_))
  · have hb := of_decide_eq_true hb
    refine alw_ret (ev_ixL (ev_var rfl) (ev_var rfl) hs.sq (atI_getD hk hb)) fun H1 e1 => ?_
    have e : cellAt ns k = ns.getD k.toNat 0 := by
      unfold cellAt
      rw [if_pos hb]
    rw [← e]
    exact q H1 e1
  · have hb := of_decide_eq_false hb
    refine alw_seq (alw_if (et_test (ev_nilScr (ev_var rfl) hs)) (fun hn => ?_) fun hn => alw_next fun H2 e2 => ?_) H1 e1
    · have hn := of_decide_eq_true hn
      refine alw_ret ev_c fun H2 e2 => ?_
      have e : cellAt ns k = 0 := by
        unfold cellAt
        rw [if_neg hb, if_pos hn]
      have q2 := q H2 e2
      rw [e] at q2
      exact q2
    · have hn := of_decide_eq_false hn
      have hl : 0 < (ns.length : Int) := by
        have : ns.length ≠ 0 := fun z => hn (List.eq_nil_of_length_eq_zero z)
        omega
      refine alw_ret (ev_add (ev_mul (ev_ixL (ev_var rfl) (ev_mod (ev_var rfl) (ev_lenScr (ev_var rfl) hs) hl) hs.sq (atI_getD (Int.emod_nonneg _ (by omega)) (Int.emod_lt_of_pos _ hl))) ev_c (.inr ⟨by decide, by decide⟩)) (ev_var rfl)) (fun H3 e3 => ?_) H2 e2
      have e : cellAt ns k = ns.getD (k % (ns.length : Int)).toNat 0 * 31 + k := by
        unfold cellAt
        rw [if_neg hb, if_neg hn]
      rw [← e]
      exact q H3 e3
theorem pure_l_mixed (h : sp_l_mixed K vs H Q E) : t_l_mixed K { nx := fun _ H' => Q .non H', rt := Q } (start N_l_mixed vs) H := by
  obtain ⟨a, ns, k, m, rfl, hs, hk, hm, q⟩ := h
  have d1 := drawn_nn ns k
  have d2 := drawn_lt ns k
  have e : (cellAt ns k + 7919 * k + 1) * 48271 % 2147483647 = drawn ns k := rfl
  refine alw_here (alw_seq (alw_set (v := .int (drawn ns k)) ?_ fun H1 e1 => ?_))
  · exact ev_mod (ev_mul (ev_add (ev_add (ev_cell (ea_cons (ev_var rfl) (ea_cons (ev_var rfl) ea_nil)) hs hk) (ev_mul ev_c (ev_var rfl) (.inl ⟨by decide, by decide⟩))) ev_c) ev_c (.inr ⟨by decide, by decide⟩)) ev_c (by decide)
  · refine alw_ret (ev_mod (ev_mod (ev_add (ev_add (ev_mul (ev_var rfl) (ev_var rfl) (.inl ⟨by omega, by omega⟩)) (ev_mul ev_c (ev_var rfl) (.inl ⟨by decide, by decide⟩))) (ev_var rfl)) ev_c (by decide)) (ev_var rfl) hm) (fun H2 e2 => ?_) H1 e1
    have e3 : mixed ns k m = (drawn ns k * drawn ns k + 7 * drawn ns k + k) % 2147483629 % m := by unfold mixed; rfl
    rw [← e3]
    exact q H2 e2
end
end KW

/-! keys and spans of the laws -/
namespace KW
open PySem PySem.Spec PyProof.Rows L2 Evl
theorem keyPart_succ (ns : List Int) (k : Int) (i : Nat) : keyPart ns k (i + 1) = keyPart ns k i ++ (⟨#[signAt ns (k + 1 + (i : Int))]⟩ : Str) := by
  refine str_ext ?_
  rw [str_app]
  unfold keyPart
  simp [List.range_succ]
theorem keyPart_len (ns : List Int) (k : Int) (i : Nat) : (keyPart ns k i).length = i := by
  unfold keyPart Str.length
  simp
theorem sign_at (ns : List Int) (k : Int) : atI signs.cps.toList (mixed ns k 37) = some (signAt ns k) := by
  have h0 := mixed_nn ns k (m := 37) (by decide)
  have h1 := mixed_lt ns k (m := 37) (by decide)
  unfold signAt
  generalize mixed ns k 37 = z at h0 h1
  obtain ⟨n, rfl⟩ := Int.eq_ofNat_of_zero_le h0
  have hl : n < signL.length := by rw [signL_len]; omega
  refine atI_nat ?_
  rw [Int.toNat_natCast, List.getD_eq_getElem?_getD, List.getElem?_eq_getElem hl]
  exact List.getElem?_eq_getElem hl
theorem len_at (ns : List Int) (k : Int) : atI [V.int 1, V.int 2, V.int 3, V.int 5, V.int 8, V.int 11, V.int 12] (mixed ns k 7) = some (.int (keyLen ns k : Int)) := by
  have h0 := mixed_nn ns k (m := 7) (by decide)
  have h1 := mixed_lt ns k (m := 7) (by decide)
  unfold keyLen
  generalize mixed ns k 7 = z at h0 h1
  obtain rfl | rfl | rfl | rfl | rfl | rfl | rfl : z = 0 ∨ z = 1 ∨ z = 2 ∨ z = 3 ∨ z = 4 ∨ z = 5 ∨ z = 6 := by omega
  all_goals rfl
section
variable {K : PySem.W.Frag} {vs : List V} {H : Hp} {Q : VK} {E : XK}
theorem pure_l_key (h : sp_l_key K vs H Q E) : t_l_key K { nx := fun _ H' => Q .non H', rt := Q } (start N_l_key vs) H := by
  obtain ⟨a, ns, k, rfl, hs, hk, q⟩ := h
  obtain ⟨l1, l2⟩ := keyLen_le ns k
  refine alw_here (al_set ev_c (al_set ev_c (al_forR1 (n := (keyLen ns k : Int)) ?_ ⟨by omega, by omega⟩
    (fun i σ' H' => ∃ kv, σ' = [some (.ref a), some (.int k), some (.str signs), some (.str (keyPart ns k i)), kv] ∧ Ex H H') ?_ ?_ ?_)))
  · refine ea_cons (ev_ixN (el_lst (ea_cons ev_c (ea_cons ev_c (ea_cons ev_c (ea_cons ev_c (ea_cons ev_c (ea_cons ev_c (ea_cons ev_c ea_nil))))))) (by decide)) (fun H3 e3 => ?_) (len_at ns k)) ea_nil
    exact ev_mixed (ea_cons (ev_var rfl) (ea_cons (ev_var rfl) (ea_cons ev_c ea_nil))) (hs.ex e3) hk (by decide)
  · intro H3 e3
    exact ⟨none, rfl, e3⟩
  · rintro i σ' H' hi ⟨kv, rfl, e3⟩
    refine alw_here (alw_set (ev_catS (ev_var rfl) (ev_ixS (ev_var rfl) (ev_mixed (ea_cons (ev_var rfl) (ea_cons (ev_add (ev_add (ev_var rfl) ev_c) (ev_var rfl)) (ea_cons ev_c ea_nil))) (hs.ex e3) (by omega) (by decide)) (by decide +kernel) (sign_at ns _)) ?_) fun H4 e4 => ?_)
    · rw [keyPart_len]
      show i + 1 ≤ 100000
      omega
    · refine ⟨some (.int (i : Int)), ?_, e3.trans e4⟩
      rw [keyPart_succ]
      rfl
  · rintro σ' H' ⟨kv, rfl, e3⟩
    refine alw_here (alw_ret (ev_var rfl) fun H4 e4 => ?_)
    have e : keyPart ns k ((keyLen ns k : Int)).toNat = lawKey ns k := by
      rw [Int.toNat_natCast]
      rfl
    rw [e]
    exact q H4 (e3.trans e4)
theorem atI_last {xs : List V} {v : V} {n : Nat} (hl : xs.length = n + 1) (h : xs[n]? = some v) : atI xs (-1) = some v := by
  unfold atI ixN
  rw [if_neg (by decide), if_pos (by omega)]
  show xs[((-1 : Int) + (xs.length : Int)).toNat]? = some v
  have : ((-1 : Int) + (xs.length : Int)).toNat = n := by omega
  rw [this]
  exact h
theorem ev_slPre {σ : L2.St} {H : Hp} {te tx : TE} {z : Str} {i : Int} (h : Ev te σ H (.str z)) (hi : Ev tx σ H (.int i)) (hz : z.length ≤ 100000) : Ev (tSl rSlS te tNoPart (tPart tx)) σ H (.str (cutS z none (some i))) := fun H1 e Q q =>
  h H1 e _ fun H2 e2 => hi H2 (e.trans e2) _ fun H3 e3 => ⟨i, rfl, z, rfl, sz_of hz, q H3 (e2.trans e3)⟩
theorem ev_slPost {σ : L2.St} {H : Hp} {te tx : TE} {z : Str} {i : Int} (h : Ev te σ H (.str z)) (hi : Ev tx σ H (.int i)) (hz : z.length ≤ 100000) : Ev (tSl rSlS te (tPart tx) tNoPart) σ H (.str (cutS z (some i) none)) := fun H1 e Q q =>
  h H1 e _ fun H2 e2 => hi H2 (e.trans e2) _ fun H3 e3 => ⟨i, rfl, z, rfl, sz_of hz, q H3 (e2.trans e3)⟩
theorem key_first (ns : List Int) (k : Int) : atI (lawKey ns k).cps.toList 0 = some (signAt ns (k + 1)) := by
  have h := (keyLen_le ns k).1
  refine atI_nat (j := 0) ?_
  unfold lawKey keyPart
  simp only [List.toList_toArray]
  rw [List.getElem?_map, List.getElem?_range (by omega)]
  simp
theorem pure_l_keys (h : sp_l_keys K vs H Q E) : t_l_keys K { nx := fun _ H' => Q .non H', rt := Q } (start N_l_keys vs) H := by
  obtain ⟨a, ns, k, rfl, hs, hk, q⟩ := h
  refine alw_here (al_setP (P := fun H' v => ∃ l, v = .ref l ∧ H l = none ∧ H' l = some (.lst ((keysUp ns k 0).map V.str))) ?_ fun v H1 e1 hv => ?_)
  · intro H1 e1 Q1 q1
    refine el_lst (ea_cons (ev_key (ea_cons (ev_var rfl) (ea_cons (ev_var rfl) ea_nil)) hs hk) ea_nil) (show 1 ≤ 100000 by decide) H1 e1 Q1 fun p H2 hp e2 h2 => q1 _ H2 e2 ⟨p, rfl, fresh_back e1 hp, h2⟩
  · obtain ⟨l, rfl, hl0, hl1⟩ := hv
    refine al_forR1 (n := 4) (ea_cons ev_c ea_nil) ⟨by decide, by decide⟩
      (fun i σ' H' => ∃ v1 v2 v3 v4 v5, σ' = [some (.ref a), some (.int k), some (.ref l), v1, v2, v3, v4, v5] ∧ Ex H H' ∧ H' l = some (.lst ((keysUp ns k i).map V.str))) ?_ ?_ ?_
    · intro H2 e2
      exact ⟨none, none, none, none, none, rfl, e1.trans e2, e2 l _ hl1⟩
    · rintro i σ' H2 hi ⟨v1, v2, v3, v4, v5, rfl, e2, hl⟩
      have hs2 := hs.ex e2
      have hlen := keysUp_len ns k i
      generalize hlast : (keysUp ns k i).getD i "a" = last
      have hix : (keysUp ns k i)[i]? = some last := by
        have hl2 : i < (keysUp ns k i).length := by omega
        rw [← hlast, List.getD_eq_getElem?_getD, List.getElem?_eq_getElem hl2]
        rfl
      have hkey : isKey last = true := keysUp_key ns k i last (List.mem_of_getElem? hix)
      have hp := isKey_pos hkey
      have hle := isKey_le hkey
      have hlast2 : atI ((keysUp ns k i).map V.str) (-1) = some (.str last) := atI_last (n := i) (by simp [hlen]) (by rw [List.getElem?_map, hix]; rfl)
      have hst : ∀ {H3 : Hp}, Ex H H3 → H3 l = some (.lst ((keysUp ns k i ++ [nextKey ns (k + 20 * ((i : Int) + 1)) last]).map V.str)) → H3 l = some (.lst ((keysUp ns k (i + 1)).map V.str)) := fun _ h => by
        rw [keysUp, hlast]
        exact h
      have hnx : ∀ {v1 v2 v3 v4 v5 : Option V} {H3 : Hp} {z : Str}, Ex H2 H3 → z = nextKey ns (k + 20 * ((i : Int) + 1)) last →
          ∃ v1' v2' v3' v4' v5', [some (.ref a), some (.int k), some (.ref l), v1, v2, v3, v4, v5] = [some (V.ref a), some (.int k), some (.ref l), v1', v2', v3', v4', v5'] ∧ Ex H (upd H3 l (.lst ((keysUp ns k i).map V.str ++ [V.str z]))) ∧ (upd H3 l (.lst ((keysUp ns k i).map V.str ++ [V.str z]))) l = some (.lst ((keysUp ns k (i + 1)).map V.str)) := fun {v1 v2 v3 v4 v5 H3 z} e3 hz => by
        refine ⟨v1, v2, v3, v4, v5, rfl, Ex.mut (e2.trans e3) hl0, ?_⟩
        rw [upd_same, keysUp, hlast, hz, List.map_append]
        rfl
      refine alw_here (al_set (ev_add (ev_var rfl) (ev_mul ev_c (ev_add (ev_var rfl) ev_c) (.inl ⟨by decide, by decide⟩))) (al_set (ev_ixL (ev_var rfl) (ev_neg ev_c) (sq_of hl) hlast2)
        (al_set (ev_mixed (ea_cons (ev_var rfl) (ea_cons (ev_add (ev_var rfl) ev_c) (ea_cons ev_c ea_nil))) hs2 (by omega) (by decide))
        (al_set (ev_mixed (ea_cons (ev_var rfl) (ea_cons (ev_add (ev_var rfl) ev_c) (ea_cons (ev_lenS (ev_var rfl) (by omega)) ea_nil))) hs2 (by omega) hp)
        (alw_if (et_test (ev_eqI (ev_var rfl) ev_c)) (fun hb => ?_) fun hb => alw_if (et_and (et_test (ev_eqI (ev_var rfl) ev_c)) fun _ => et_test (ev_lt (ev_lenS (ev_var rfl) (by omega)) ev_c)) (fun hc => ?_) fun hc => ?_)))))
      · have hb := of_decide_eq_true hb
        refine alw_app (fun H3 e3 => e3 l _ hl) (ev_var rfl) (ev_key (ea_cons (ev_var rfl) (ea_cons (ev_var rfl) ea_nil)) hs2 (by omega)) (by simp [hlen]; omega) fun H3 e3 => hnx e3 ?_
        unfold nextKey
        rw [if_pos hb]
      · have hb := of_decide_eq_false hb
        have hc := Bool.and_eq_true_iff.mp hc
        have hc1 := of_decide_eq_true hc.1
        have hc2 := of_decide_eq_true hc.2
        refine alw_app (fun H3 e3 => e3 l _ hl) (ev_var rfl) (ev_catS (ev_var rfl) (ev_ixS (ev_key (ea_cons (ev_var rfl) (ea_cons (ev_var rfl) ea_nil)) hs2 (by omega)) ev_c (by have := isKey_le (lawKey_key ns (k + 20 * ((i : Int) + 1))); omega) (key_first ns _)) ?_) (by simp [hlen]; omega) fun H3 e3 => hnx e3 ?_
        · show last.length + 1 ≤ 100000
          omega
        · unfold nextKey
          rw [if_neg hb, if_pos ⟨hc1, by omega⟩]
          rfl
      · have hb := of_decide_eq_false hb
        have m1 := mixed_nn ns (k + 20 * ((i : Int) + 1) + 16) hp
        have m2 := mixed_lt ns (k + 20 * ((i : Int) + 1) + 16) hp
        have hcc : ¬ (mixed ns (k + 20 * ((i : Int) + 1) + 15) 4 = 1 ∧ last.length < 12) := fun z => by
          rw [decide_eq_true z.1, decide_eq_true (show (last.length : Int) < 12 by omega)] at hc
          cases hc
        have l1 : (cutS last none (some (mixed ns (k + 20 * ((i : Int) + 1) + 16) (last.length : Int)))).length ≤ 12 := by
          rw [str_len, cut_pre m1 (by omega), List.length_take, ← str_len]
          omega
        have l2 : (cutS last (some (mixed ns (k + 20 * ((i : Int) + 1) + 16) (last.length : Int) + 1)) none).length ≤ 12 := by
          rw [str_len, cut_post (by omega) (by omega), List.length_drop, ← str_len]
          omega
        refine alw_app (fun H3 e3 => e3 l _ hl) (ev_var rfl) (ev_catS (ev_catS (ev_slPre (ev_var rfl) (ev_var rfl) (by omega)) (ev_ixS (ev_key (ea_cons (ev_var rfl) (ea_cons (ev_var rfl) ea_nil)) hs2 (by omega)) ev_c (by have := isKey_le (lawKey_key ns (k + 20 * ((i : Int) + 1))); omega) (key_first ns _)) ?_) (ev_slPost (ev_var rfl) (ev_add (ev_var rfl) ev_c) (by omega)) ?_) (by simp [hlen]; omega) fun H3 e3 => hnx e3 ?_
        · show _ + 1 ≤ 100000
          omega
        · rw [str_len (_ ++ _), str_app, List.length_append, ← str_len]
          show _ + 1 + _ ≤ 100000
          omega
        · unfold nextKey
          rw [if_neg hb, if_neg hcc]
          rfl
    · rintro σ' H2 ⟨v1, v2, v3, v4, v5, rfl, e2, hl⟩
      exact alw_here (alw_ret (ev_var rfl) fun H3 e3 => q H3 l (e2.trans e3) hl0 (e3 l _ hl))
end
end KW

/-! keys, values, numbers: what is asked of things -/
namespace KW
open PySem PySem.Spec PyProof.Rows L2 Evl
def tyO : Option HO → String
  | some (.lst _) => "list"
  | some (.tup _) => "tuple"
  | _ => "dict"
def tyName (H : Hp) : V → String
  | .non => "NoneType"
  | .bl _ => "bool"
  | .int _ => "int"
  | .str _ => "str"
  | .ref a => tyO (H a)
  | _ => "object"
theorem Thing.ty {K : PySem.W.Frag} {H : Hp} {v : V} (h : Thing K H v) : TyX K H v (.type (tyName H v)) := by
  cases h with
  | non => exact .base .non
  | bl b => exact .base (.bl b)
  | int i => exact .base (.int i)
  | str x _ => exact .base (.str x)
  | @lst a xs e =>
    show TyX K H (.ref a) (.type (tyO (H a)))
    rw [e]
    exact .base (.lst e)
  | @tup a xs e =>
    show TyX K H (.ref a) (.type (tyO (H a)))
    rw [e]
    exact .base (.tup e)
  | @dK a xs e =>
    show TyX K H (.ref a) (.type (tyO (H a)))
    rw [e]
    exact .base (.dK e)
theorem Thing.ty_ex {K : PySem.W.Frag} {H H' : Hp} {v : V} (h : Thing K H v) (e : Ex H H') : tyName H' v = tyName H v := by
  cases h with
  | non => rfl
  | bl b => rfl
  | int i => rfl
  | str x _ => rfl
  | @lst a xs q =>
    show tyO (H' a) = tyO (H a)
    rw [q, e _ _ q]
  | @tup a xs q =>
    show tyO (H' a) = tyO (H a)
    rw [q, e _ _ q]
  | @dK a xs q =>
    show tyO (H' a) = tyO (H a)
    rw [q, e _ _ q]
theorem tyO_cases (o : Option HO) : tyO o = "list" ∨ tyO o = "tuple" ∨ tyO o = "dict" := by
  unfold tyO
  split
  · exact .inl rfl
  · exact .inr (.inl rfl)
  · exact .inr (.inr rfl)
section
variable {K : PySem.W.Frag} {σ : L2.St} {H H' : Hp} {ta tb te tx : TE} {v : V}
theorem ev_isi {n : String} {b : Bool} (ha : Ev ta σ H v) (h : Thing K H v) (hk : kitB (tyName H v) n = some b) : Ev (tCB (rIsi K) (tCons ta (tCons (tC (.ty n)) tNil))) σ H (.bl b) := fun H1 e Q q =>
  ha H1 e _ fun H2 e2 => ⟨v, .ty n, .type (tyName H2 v), .type n, b, rfl, .ty n, (h.ex (e.trans e2)).ty, kit_ty (by rw [h.ty_ex (e.trans e2)]; exact hk), q H2 e2⟩
theorem ev_all {bs : List Bool} (ha : EvL ta σ H (bs.map V.bl)) : Ev (tCB (rAll K) (tCons ta tNil)) σ H (.bl (bs.all id)) := fun H1 e Q q =>
  ha H1 e _ fun p H2 hp e2 h2 => ⟨p, bs, rfl, sq_of h2, q H2 e2⟩
theorem ev_any {bs : List Bool} (ha : EvL ta σ H (bs.map V.bl)) : Ev (tCB (rAny K) (tCons ta tNil)) σ H (.bl (bs.any id)) := fun H1 e Q q =>
  ha H1 e _ fun p H2 hp e2 h2 => ⟨p, bs, rfl, sq_of h2, q H2 e2⟩
theorem ev_isWhole {low : Int} {E : XK} (ha : Ev ta σ H v) (hb : Ev tb σ H (.int low)) (h : Thing K H v) : Ev (tCall (sp_is_whole K) [] E (tCons ta (tCons tb tNil))) σ H (.bl (isWholeV v low)) :=
  ev_call (ea_cons ha (ea_cons hb ea_nil)) fun H1 e Q q E => ⟨v, low, rfl, h.ex e, q⟩
theorem ev_isKey {E : XK} (ha : Ev ta σ H v) (h : Thing K H v) : Ev (tCall (sp_is_key K) [] E (tCons ta tNil)) σ H (.bl (isKeyV v)) :=
  ev_call (ea_cons ha ea_nil) fun H1 e Q q E => ⟨v, rfl, h.ex e, q⟩
theorem ev_isValue {E : XK} (ha : Ev ta σ H v) (h : Thing K H v) : Ev (tCall (sp_is_value K) [] E (tCons ta tNil)) σ H (.bl (isValueV v)) :=
  ev_call (ea_cons ha ea_nil) fun H1 e Q q E => ⟨v, rfl, h.ex e, q⟩
end
theorem kit_not {H : Hp} {v : V} (h : v = .non ∨ (∃ b, v = .bl b) ∨ (∃ i, v = .int i) ∨ ∃ a, v = .ref a) : kitB (tyName H v) "str" = some false := by
  rcases h with rfl | ⟨b, rfl⟩ | ⟨i, rfl⟩ | ⟨a, rfl⟩
  · show kitB "NoneType" "str" = some false
    decide +kernel
  · show kitB "bool" "str" = some false
    decide +kernel
  · show kitB "int" "str" = some false
    decide +kernel
  · show kitB (tyO (H a)) "str" = some false
    rcases tyO_cases (H a) with e | e | e
    · rw [e]; decide +kernel
    · rw [e]; decide +kernel
    · rw [e]; decide +kernel
theorem kit_nint {H : Hp} {v : V} (h : v = .non ∨ (∃ x, v = .str x) ∨ ∃ a, v = .ref a) : kitB (tyName H v) "int" = some false := by
  rcases h with rfl | ⟨i, rfl⟩ | ⟨a, rfl⟩
  · show kitB "NoneType" "int" = some false
    decide +kernel
  · show kitB "str" "int" = some false
    decide +kernel
  · show kitB (tyO (H a)) "int" = some false
    rcases tyO_cases (H a) with e | e | e
    · rw [e]; decide +kernel
    · rw [e]; decide +kernel
    · rw [e]; decide +kernel
section
variable {K : PySem.W.Frag} {vs : List V} {H : Hp} {Q : VK} {E : XK}
theorem pure_is_key (h : sp_is_key K vs H Q E) : t_is_key K { nx := fun _ H' => Q .non H', rt := Q } (start N_is_key vs) H := by
  obtain ⟨v, rfl, ht, q⟩ := h
  have no : (v = .non ∨ (∃ b, v = .bl b) ∨ (∃ i, v = .int i) ∨ ∃ a, v = .ref a) → isKeyV v = false → t_is_key K { nx := fun _ H' => Q .non H', rt := Q } (start N_is_key [v]) H := fun hn hf => by
    refine alw_here (alw_ret (ev_andV (b := false) (ev_isi (ev_var rfl) ht (kit_not hn)) (fun z => by cases z)) fun H1 e1 => ?_)
    have q2 := q H1 e1
    rw [hf] at q2
    exact q2
  cases ht with
  | non => exact no (.inl rfl) rfl
  | bl b => exact no (.inr (.inl ⟨b, rfl⟩)) rfl
  | int i => exact no (.inr (.inr (.inl ⟨i, rfl⟩))) rfl
  | lst e => exact no (.inr (.inr (.inr ⟨_, rfl⟩))) rfl
  | tup e => exact no (.inr (.inr (.inr ⟨_, rfl⟩))) rfl
  | dK e => exact no (.inr (.inr (.inr ⟨_, rfl⟩))) rfl
  | str x hl =>
    by_cases hx : x.length ≤ 12
    · have hcomp : EvL (tLc (iStr (tVar 0)) (gName 1) tYes (tOp rInS (tVar 1) (tC (.str "abcdefghijklmnopqrstuvwxyz0123456789/"))) [1]) (start N_is_key [V.str x]) H ((x.cps.toList.map fun c => decide (c ∈ signL)).map V.bl) := by
        have h1 := lc_typed (α := V) (J := Itr 0 0) (P := fun _ v y => v = y) (tt := tYes) (te := tOp rInS (tVar 1) (tC (.str "abcdefghijklmnopqrstuvwxyz0123456789/"))) (j := 1) (vs := [1]) (σ := start N_is_key [V.str x]) (B := H) (wi := iStr (tVar 0))
          (ei_str (x := x) (ev_var rfl)) (paired_map signV x.cps.toList) (fun c => some (V.bl (decide (c ∈ signL)))) (fun _ _ _ _ _ z => z) (fun _ => rfl) (fun x d r H1 e Q q => q H1 (Ex.refl H1))
          (fun u c y r hy => by
            cases hy
            subst r
            exact Ev.p (ev_inS (c := c) (w := signs) (ev_var rfl) ev_c) fun _ _ => rfl) (by rw [List.length_map, ← str_len]; omega)
        have e : List.filterMap (fun c => some (V.bl (decide (c ∈ signL)))) x.cps.toList = (x.cps.toList.map fun c => decide (c ∈ signL)).map V.bl := by
          rw [List.map_map, ← List.filterMap_eq_map]
          rfl
        rw [e] at h1
        exact h1.toL
      refine alw_here (alw_ret (ev_andV (ev_isi (ev_var rfl) (.str x hl) (show kitB "str" "str" = some true by decide +kernel)) fun _ => ev_andV (ev_chain ev_c (ev_lenS (ev_var rfl) hl) rv_I0 (fun _ => ev_c) fun _ => rv_I0) fun _ => ev_all hcomp) fun H1 e1 => ?_)
      have e : isKeyV (.str x) = (true && ((decide (1 ≤ (x.length : Int)) && decide ((x.length : Int) ≤ 12)) && (x.cps.toList.map fun c => decide (c ∈ signL)).all id)) := by
        show isKey x = _
        unfold isKey
        rw [List.all_map, Bool.true_and, Bool.and_assoc]
        congr 1
        · exact decide_eq_decide.mpr (by omega)
        · congr 1
          exact decide_eq_decide.mpr (by omega)
      rw [← e]
      exact q H1 e1
    · refine alw_here (alw_ret (ev_andV (ev_isi (ev_var rfl) (.str x hl) (show kitB "str" "str" = some true by decide +kernel)) fun _ => ev_andV (b := false) (ev_chain ev_c (ev_lenS (ev_var rfl) hl) rv_I0 (fun _ => ev_c) fun _ => rv_I0) fun z => ?_) fun H1 e1 => ?_)
      · have z2 := of_decide_eq_true (Bool.and_eq_true_iff.mp z).2
        omega
      · have e : isKeyV (.str x) = false := by
          show isKey x = false
          unfold isKey
          rw [decide_eq_false hx]
          simp
        have q2 := q H1 e1
        rw [e] at q2
        simpa using q2
theorem pure_is_whole (h : sp_is_whole K vs H Q E) : t_is_whole K { nx := fun _ H' => Q .non H', rt := Q } (start N_is_whole vs) H := by
  obtain ⟨v, low, rfl, ht, q⟩ := h
  have no : (v = .non ∨ (∃ x, v = .str x) ∨ ∃ a, v = .ref a) → isWholeV v low = false → t_is_whole K { nx := fun _ H' => Q .non H', rt := Q } (start N_is_whole [v, .int low]) H := fun hn hf => by
    refine alw_here (alw_ret (ev_andV (b := false) (ev_isi (ev_var rfl) ht (kit_nint hn)) (fun z => by cases z)) fun H1 e1 => ?_)
    have q2 := q H1 e1
    rw [hf] at q2
    exact q2
  cases ht with
  | non => exact no (.inl rfl) rfl
  | str x _ => exact no (.inr (.inl ⟨x, rfl⟩)) rfl
  | lst e => exact no (.inr (.inr ⟨_, rfl⟩)) rfl
  | tup e => exact no (.inr (.inr ⟨_, rfl⟩)) rfl
  | dK e => exact no (.inr (.inr ⟨_, rfl⟩)) rfl
  | bl b =>
    refine alw_here (alw_ret (ev_andV (ev_isi (ev_var rfl) (.bl b) (show kitB "bool" "int" = some true by decide +kernel)) fun _ => ev_andV (b := false) (ev_notV (ev_isi (ev_var rfl) (.bl b) (show kitB "bool" "bool" = some true by decide +kernel))) fun z => by cases z) fun H1 e1 => ?_)
    exact q H1 e1
  | int i =>
    refine alw_here (alw_ret (ev_andV (ev_isi (ev_var rfl) (.int i) (show kitB "int" "int" = some true by decide +kernel)) fun _ => ev_andV (ev_notV (ev_isi (ev_var rfl) (.int i) (show kitB "int" "bool" = some false by decide +kernel))) fun _ => ev_le (ev_var rfl) (ev_var rfl)) fun H1 e1 => ?_)
    exact q H1 e1
theorem pure_is_value (h : sp_is_value K vs H Q E) : t_is_value K { nx := fun _ H' => Q .non H', rt := Q } (start N_is_value vs) H := by
  obtain ⟨v, rfl, ht, q⟩ := h
  by_cases hv : ∃ i, v = .int i
  · obtain ⟨i, rfl⟩ := hv
    refine alw_here (alw_ret (ev_andV (ev_isWhole (ev_var rfl) ev_c ht) fun _ => ev_le (ev_var rfl) ev_c) fun H1 e1 => ?_)
    exact q H1 e1
  · have hf : isWholeV v 0 = false := by
      cases v with
      | int i => exact absurd ⟨i, rfl⟩ hv
      | _ => rfl
    have hg : isValueV v = false := by
      cases v with
      | int i => exact absurd ⟨i, rfl⟩ hv
      | _ => rfl
    have h1 := ev_isWhole (K := K) (σ := start N_is_value [v]) (E := E0) (ev_var (i := 0) rfl) (ev_c (v := .int 0)) ht
    rw [hf] at h1
    refine alw_here (alw_ret (ev_andV (b := false) h1 fun z => by cases z) fun H1 e1 => ?_)
    have q2 := q H1 e1
    rw [hg] at q2
    exact q2
theorem pure_need_key (h : sp_need_key K vs H Q E) : t_need_key K E { nx := fun _ H' => Q .non H', rt := Q } (start N_need_key vs) H := by
  obtain ⟨v, rfl, ht, q⟩ := h
  refine alw_here (alw_if (et_not (et_B (ev_isKey (ev_var rfl) ht))) (fun hb H1 e1 => ?_) fun hb H1 e1 => ?_)
  · exact (q H1 e1).2 (by simpa using hb)
  · exact (q H1 e1).1 (by simpa using hb)
theorem pure_need_value (h : sp_need_value K vs H Q E) : t_need_value K E { nx := fun _ H' => Q .non H', rt := Q } (start N_need_value vs) H := by
  obtain ⟨v, rfl, ht, q⟩ := h
  refine alw_here (alw_if (et_not (et_B (ev_isValue (ev_var rfl) ht))) (fun hb H1 e1 => ?_) fun hb H1 e1 => ?_)
  · exact (q H1 e1).2 (by simpa using hb)
  · exact (q H1 e1).1 (by simpa using hb)
theorem pure_need_whole (h : sp_need_whole K vs H Q E) : t_need_whole K E { nx := fun _ H' => Q .non H', rt := Q } (start N_need_whole vs) H := by
  obtain ⟨v, low, rfl, ht, q⟩ := h
  refine alw_here (alw_if (et_not (et_B (ev_isWhole (ev_var rfl) (ev_var rfl) ht))) (fun hb H1 e1 => ?_) fun hb H1 e1 => ?_)
  · exact (q H1 e1).2 (by simpa using hb)
  · exact (q H1 e1).1 (by simpa using hb)
theorem pure_is_within (h : sp_is_within K vs H Q E) : t_is_within K { nx := fun _ H' => Q .non H', rt := Q } (start N_is_within vs) H := by
  obtain ⟨k, a, b, rfl, q⟩ := h
  refine ⟨_, rfl, _, rfl, a, k, rfl, rfl, _, rfl, ?_⟩
  cases h1 : (!decide (k.cps.toList < a.cps.toList)) with
  | true =>
    rw [if_pos rfl]
    refine ⟨_, rfl, k, b, rfl, rfl, ?_⟩
    have e : within k a b = !decide (b.cps.toList < k.cps.toList) := by
      unfold within sLe
      rw [h1]
      rfl
    have q2 := q
    rw [e] at q2
    exact q2
  | false =>
    rw [if_neg Bool.false_ne_true]
    have e : within k a b = false := by
      unfold within sLe
      rw [h1]
      rfl
    have q2 := q
    rw [e] at q2
    exact q2
theorem pure_l_span (h : sp_l_span K vs H Q E) : t_l_span K { nx := fun _ H' => Q .non H', rt := Q } (start N_l_span vs) H := by
  obtain ⟨a, ns, k, l, keys, rfl, hs, hk, hl, h0, hkeys, q⟩ := h
  have hp : 0 < (keys.length : Int) := by omega
  have hlen : Ev (tCB (rLenS K) (tCons (tVar 2) tNil)) (start N_l_span [.ref a, .int k, .ref l]) H (.int (keys.length : Int)) := by
    have e := ev_len (K := K) (σ := start N_l_span [.ref a, .int k, .ref l]) (ev_var (i := 2) rfl) (sq_of hl)
    rw [List.length_map] at e
    exact e
  refine alw_here (al_setP (P := fun H' v => ∃ p, v = .ref p ∧ H' p = some (.lst [.str (pick keys (mixed ns k (keys.length : Int))), .str (pick keys (mixed ns (k + 1) (keys.length : Int)))])) ?_ fun v H1 e1 hv => ?_)
  · intro H1 e1 Q1 q1
    refine el_lst (ea_cons (ev_ixL (ev_var rfl) (ev_mixed (ea_cons (ev_var rfl) (ea_cons (ev_var rfl) (ea_cons hlen ea_nil))) hs hk hp) (sq_of hl) (atI_pick (mixed_nn ns k hp) (mixed_lt ns k hp))) (ea_cons (ev_ixL (ev_var rfl) (ev_mixed (ea_cons (ev_var rfl) (ea_cons (ev_add (ev_var rfl) ev_c) (ea_cons hlen ea_nil))) hs (by omega) hp) (sq_of hl) (atI_pick (mixed_nn ns (k + 1) hp) (mixed_lt ns (k + 1) hp))) ea_nil)) (show 2 ≤ 100000 by decide) H1 e1 Q1 fun p H2 hp2 e2 h2 => q1 _ H2 e2 ⟨p, rfl, h2⟩
  · obtain ⟨p, rfl, hp1⟩ := hv
    have hs1 := hs.ex e1
    have emax : ∀ {σ : L2.St} {i : Nat}, σ[i]? = some (some (.ref p)) → Ev (tCB (rMaxS K) (tCons (tVar i) tNil)) σ H1 (.str (maxS (pick keys (mixed ns k (keys.length : Int))) (pick keys (mixed ns (k + 1) (keys.length : Int))))) := fun hi H2 e2 Q2 q2 => ⟨_, hi, p, _, _, rfl, sq_of (e2 p _ hp1), q2 H2 (Ex.refl H2)⟩
    have emin : ∀ {σ : L2.St} {i : Nat}, σ[i]? = some (some (.ref p)) → Ev (tCB (rMinS K) (tCons (tVar i) tNil)) σ H1 (.str (minS (pick keys (mixed ns k (keys.length : Int))) (pick keys (mixed ns (k + 1) (keys.length : Int))))) := fun hi H2 e2 Q2 q2 => ⟨_, hi, p, _, _, rfl, sq_of (e2 p _ hp1), q2 H2 (Ex.refl H2)⟩
    have fin : ∀ {te : TE} {σ : L2.St} {x y : Str}, EvU te σ H1 [.str x, .str y] → lawSpan ns k keys = (x, y) → Alw (tRet te) { nx := fun _ H' => Q .non H', rt := Q } σ H1 := fun {te σ x y} hu he H2 e2 => hu H2 e2 _ fun t H3 ht e3 h3 => q H3 t ((e1.trans e2).trans e3) (by rw [he]; exact h3)
    refine al_if (et_test (ev_eqI (ev_mixed (ea_cons (ev_var rfl) (ea_cons (ev_add (ev_var rfl) ev_c) (ea_cons ev_c ea_nil))) hs1 (by omega) (by decide)) ev_c)) (fun hb => ?_) (fun hb => al_skip (al_if (et_test (ev_eqI (ev_mixed (ea_cons (ev_var rfl) (ea_cons (ev_add (ev_var rfl) ev_c) (ea_cons ev_c ea_nil))) hs1 (by omega) (by decide)) ev_c)) (fun hc => ?_) fun hc => al_skip ?_))
    · have hb := of_decide_eq_true hb
      refine fin (eu_tup (ea_cons ev_c (ea_cons ev_c ea_nil)) (show 2 ≤ 100000 by decide)) ?_
      unfold lawSpan
      rw [if_pos hb]
    · have hb := of_decide_eq_false hb
      have hc := of_decide_eq_true hc
      refine fin (eu_tup (ea_cons (emax rfl) (ea_cons (emin rfl) ea_nil)) (show 2 ≤ 100000 by decide)) ?_
      unfold lawSpan
      rw [if_neg hb, if_pos hc]
    · have hb := of_decide_eq_false hb
      have hc := of_decide_eq_false hc
      refine fin (eu_tup (ea_cons (emin rfl) (ea_cons (emax rfl) ea_nil)) (show 2 ≤ 100000 by decide)) ?_
      unfold lawSpan
      rw [if_neg hb, if_neg hc]
end
end KW

/-! texts in order -/
namespace KW
open PySem PySem.Spec PyProof.Rows L2 Evl
theorem sLe_iff {a b : Str} : sLe a b = true ↔ a.cps.toList ≤ b.cps.toList := by
  unfold sLe
  simp only [Bool.not_eq_true', decide_eq_false_iff_not]
  exact List.not_lt
theorem sLe_trans (a b c : Str) (h : sLe a b = true) (h' : sLe b c = true) : sLe a c = true := by
  rw [sLe_iff] at *
  exact List.le_trans h h'
theorem sLe_total (a b : Str) : (sLe a b || sLe b a) = true := by
  rw [Bool.or_eq_true, sLe_iff, sLe_iff]
  exact List.le_total _ _
theorem sLe_anti {a b : Str} (h : sLe a b = true) (h' : sLe b a = true) : a = b := by
  rw [sLe_iff] at *
  exact str_ext (List.le_antisymm h h')
theorem sLe_refl (a : Str) : sLe a a = true := by
  have := sLe_total a a
  rw [Bool.or_self] at this
  exact this
theorem risingS_pair : ∀ (p : Str) (l : List Str), risingS p l = true → (p :: l).Pairwise fun a b => sLe a b = true
  | p, [], _ => List.pairwise_singleton _ _
  | p, x :: r, h => by
    have h2 : (!ltCps x.cps.toList p.cps.toList && risingS x r) = true := h
    obtain ⟨h3, h4⟩ := Bool.and_eq_true_iff.mp h2
    have ih := risingS_pair x r h4
    have hpx : sLe p x = true := by
      unfold sLe
      rw [ltCps_eq] at h3
      exact h3
    refine List.pairwise_cons.mpr ⟨fun b hb => ?_, ih⟩
    rcases List.mem_cons.mp hb with e | hb
    · rw [e]
      exact hpx
    · exact sLe_trans _ _ _ hpx ((List.pairwise_cons.mp ih).1 b hb)
theorem sortedS_pair : ∀ (l : List Str), sortedS l = true → l.Pairwise fun a b => sLe a b = true
  | [], _ => List.Pairwise.nil
  | x :: r, h => risingS_pair x r h
theorem sortS_perm (xs : List Str) : (sortS xs).Perm xs := List.mergeSort_perm _ _
theorem sortS_pair (xs : List Str) : (sortS xs).Pairwise fun a b => sLe a b = true := List.pairwise_mergeSort sLe_trans sLe_total xs
theorem sorted_eq {xs ys : List Str} (h : ys.Perm xs) (hs : ys.Pairwise fun a b => sLe a b = true) : ys = sortS xs :=
  List.Perm.eq_of_pairwise (fun a b _ _ h1 h2 => sLe_anti h1 h2) hs (sortS_pair xs) (h.trans (sortS_perm xs).symm)
theorem sortS_len (xs : List Str) : (sortS xs).length = xs.length := (sortS_perm xs).length_eq
theorem mem_sortS {xs : List Str} {x : Str} : x ∈ sortS xs ↔ x ∈ xs := (sortS_perm xs).mem_iff
theorem sortS_congr {xs ys : List Str} (h : xs.Perm ys) : sortS xs = sortS ys := sorted_eq ((sortS_perm xs).trans h) (sortS_pair xs)
theorem sortS_of_sorted {xs : List Str} (h : xs.Pairwise fun a b => sLe a b = true) : sortS xs = xs := (sorted_eq (List.Perm.refl xs) h).symm
theorem inRows_len (rs : Recs) : (inRows rs).length = rs.length := by
  unfold inRows keysA
  rw [List.length_map, sortS_len, List.length_map]
/-- two sets of records with the same keys and the same records have the same rows -/
theorem inRows_congr {rs qs : Recs} (h : (keysA rs).Perm (keysA qs)) (he : ∀ k ∈ keysA rs, lookR rs k = lookR qs k) : inRows rs = inRows qs := by
  unfold inRows
  rw [sortS_congr h]
  refine List.map_congr_left fun k hk => ?_
  have hk2 : k ∈ keysA rs := h.mem_iff.mpr (mem_sortS.mp hk)
  unfold getR
  rw [he k hk2]
end KW

/-! records: changes, rows -/
namespace KW
open PySem PySem.Spec PyProof.Rows L2 Evl
theorem RecsAt.ex {H H' : Hp} {d : Addr} {rs : Recs} (e : Ex H H') (h : RecsAt H d rs) : RecsAt H' d rs := h.move (fun v x q => RecV.kt (Ex.kt e) q) fun o q => e _ _ q
theorem dget_recs {H : Hp} {d : Addr} {rs : Recs} (h : RecsAt H d rs) (k : Str) : (∃ v r, DGet H d (.str k) (some v) ∧ lookR rs k = some r ∧ RecV H v r) ∨ (DGet H d (.str k) none ∧ lookR rs k = none) := by
  obtain ⟨es, h1, h2⟩ := h
  rcases val_of inr_inj h2 k with ⟨v, r, e1, e2, e3⟩ | ⟨e1, e2⟩
  · refine .inl ⟨v, r, ?_, e2, e3⟩
    rw [← e1]
    exact DGet.k (k := Sum.inr k) h1
  · refine .inr ⟨?_, e2⟩
    rw [← e1]
    exact DGet.k (k := Sum.inr k) h1
section
variable {K : PySem.W.Frag} {σ : L2.St} {H H' : Hp} {ta tb te tx td ty : TE} {d : Addr} {rs : Recs} {k : Str}
theorem ev_inD (ha : Ev ty σ H (.str k)) (hd : Ev td σ H (.ref d)) (h : RecsAt H d rs) : Ev (tDIn ty td) σ H (.bl (hasR rs k)) := fun H1 e Q q =>
  ha H1 e _ fun H2 e2 => hd H2 (e.trans e2) _ fun H3 e3 => by
    unfold hasR at q
    rcases dget_recs (h.ex ((e.trans e2).trans e3)) k with ⟨v, r, g, l, _⟩ | ⟨g, l⟩
    · rw [l] at q
      exact ⟨d, some v, rfl, g, q H3 (e2.trans e3)⟩
    · rw [l] at q
      exact ⟨d, none, rfl, g, q H3 (e2.trans e3)⟩
theorem evp_getD {r : Rec} (hd : Ev td σ H (.ref d)) (ha : Ev ty σ H (.str k)) (h : RecsAt H d rs) (hl : lookR rs k = some r) : EvP (tDGet td ty) σ H (fun H v => RecV H v r) := fun H1 e Q q =>
  hd H1 e _ fun H2 e2 => ha H2 (e.trans e2) _ fun H3 e3 => by
    rcases dget_recs (h.ex ((e.trans e2).trans e3)) k with ⟨v, r', g, l, hr⟩ | ⟨g, l⟩
    · rw [hl] at l
      cases l
      exact ⟨d, v, rfl, g, q v H3 (e2.trans e3) hr⟩
    · rw [hl] at l
      cases l
/-- an item of a tuple that is known so -/
theorem ev_ixP {xs : List V} {i : Int} {v : V} (ha : EvP ta σ H (fun H v => TAt H v xs)) (hb : ∀ H1, Ex H H1 → Ev tb σ H1 (.int i)) (hv : atI xs i = some v) : Ev (tOp (rIxT K) ta tb) σ H v := fun H1 e Q q =>
  ha H1 e _ fun u H2 e2 hu => hb H2 (e.trans e2) H2 (Ex.refl H2) _ fun H3 e3 => by
    obtain ⟨a, rfl, h⟩ := hu
    exact ⟨a, xs, i, v, rfl, rfl, st_of (e3 a _ h), hv, q H3 (e2.trans e3)⟩
theorem ev_ixA {xs : List V} {i : Int} {u v : V} (ha : Ev ta σ H u) (ht : TAt H u xs) (hb : Ev tb σ H (.int i)) (hv : atI xs i = some v) : Ev (tOp (rIxT K) ta tb) σ H v :=
  ev_ixP (Ev.p ha fun H1 e => ht.kt (Ex.kt e)) (fun H1 e => hb.mono e) hv
end
section
variable {K : PySem.W.Frag} {vs : List V} {H : Hp} {Q : VK} {E : XK}
theorem recs_put {H H' : Hp} {d : Addr} {rs : Recs} {k : Str} {r : Rec} {v : V} {es : List (Key × V)} (h1 : H d = some (.dK es)) (h2 : Paired (fun (e : Key × V) (p : Str × Rec) => e.1 = Sum.inr p.1 ∧ RecV H e.2 p.2) es rs) (hv : RecV H v r) :
    RecsAt (upd H d (.dK (putK es (Sum.inr k) v))) d (putR rs k r) := by
  have kt : Kt H (upd H d (.dK (putK es (Sum.inr k) v))) := (Kt.refl H).upd (ne_tup_of h1 fun xs z => by cases z)
  exact ⟨_, upd_same, put_of (f := fun k : Str => (Sum.inr k : Key)) (R := RecV _) inr_inj (pr_mono h2 fun a b z => ⟨z.1, RecV.kt kt z.2⟩) k (RecV.kt kt hv)⟩
theorem recs_drop {H H' : Hp} {d : Addr} {rs : Recs} {k : Str} {es : List (Key × V)} (h1 : H d = some (.dK es)) (h2 : Paired (fun (e : Key × V) (p : Str × Rec) => e.1 = Sum.inr p.1 ∧ RecV H e.2 p.2) es rs) :
    RecsAt (upd H d (.dK (dropK es (Sum.inr k)))) d (dropR rs k) := by
  have kt : Kt H (upd H d (.dK (dropK es (Sum.inr k)))) := (Kt.refl H).upd (ne_tup_of h1 fun xs z => by cases z)
  exact ⟨_, upd_same, drop_of (f := fun k : Str => (Sum.inr k : Key)) (R := RecV _) inr_inj (pr_mono h2 fun a b z => ⟨z.1, RecV.kt kt z.2⟩) k⟩
theorem keep1_upd {H H1 : Hp} {d : Addr} {o : HO} (e : Ex H H1) : Keep1 d H (upd H1 d o) := fun b o n h => by rw [upd_ne n]; exact e b _ h
theorem ev_num (e : Evt) : (evVs e)[0]? = some (.int e.num) := by
  obtain ⟨n, d⟩ := e
  cases d <;> rfl
theorem al_tup5 {σ : L2.St} {B : Hp} {te : TE} {tw : TS} {D : Ends} {v x1 x2 x3 x4 x5 : V} {i1 i2 i3 i4 i5 : Nat} (h : Ev te σ B v) (ht : TAt B v [x1, x2, x3, x4, x5])
    (k : Alw tw D (((((σ.set i1 (some x1)).set i2 (some x2)).set i3 (some x3)).set i4 (some x4)).set i5 (some x5)) B) :
    Alw (tSeq (tAsg te (gTup K 5 (gCons (gName i1) (gCons (gName i2) (gCons (gName i3) (gCons (gName i4) (gCons (gName i5) gNil))))))) tw) D σ B := fun H e => h H e _ fun H1 e1 => by
  obtain ⟨a, rfl, ha⟩ := ht
  exact ⟨a, _, rfl, st_of ((e.trans e1) a _ ha), rfl, _, _, rfl, _, _, rfl, _, _, rfl, _, _, rfl, _, _, rfl, rfl, k H1 (e.trans e1)⟩
theorem al_tup3 {σ : L2.St} {B : Hp} {te : TE} {tw : TS} {D : Ends} {v x1 x2 x3 : V} {i1 i2 i3 : Nat} (h : Ev te σ B v) (ht : TAt B v [x1, x2, x3])
    (k : Alw tw D (((σ.set i1 (some x1)).set i2 (some x2)).set i3 (some x3)) B) :
    Alw (tSeq (tAsg te (gTup K 3 (gCons (gName i1) (gCons (gName i2) (gCons (gName i3) gNil))))) tw) D σ B := fun H e => h H e _ fun H1 e1 => by
  obtain ⟨a, rfl, ha⟩ := ht
  exact ⟨a, _, rfl, st_of ((e.trans e1) a _ ha), rfl, _, _, rfl, _, _, rfl, _, _, rfl, rfl, k H1 (e.trans e1)⟩
theorem pure_change (h : sp_change K vs H Q E) : t_change K { nx := fun _ H' => Q .non H', rt := Q } (start N_change vs) H := by
  obtain ⟨d, v, rs, e, rfl, hr, hv, hok, hl, q⟩ := h
  obtain ⟨n, dd⟩ := e
  cases dd with
  | drop k =>
    have hhas : hasR rs k = true := hok k rfl
    refine alw_here (al_tup5 (ev_var rfl) hv (alw_if (et_test (ev_eqS (ev_var rfl) ev_c)) (fun hb H1 e1 => ?_) fun hb => absurd (of_decide_eq_false hb) (by decide +kernel)))
    obtain ⟨es, h1, h2⟩ := hr.ex e1
    refine ⟨_, rfl, d, rfl, .inl ⟨es, .inl h1⟩, _, rfl, ?_⟩
    rcases val_of inr_inj h2 k with ⟨v, r, z1, z2, z3⟩ | ⟨z1, z2⟩
    · refine ⟨es, Sum.inr k, v, h1, rfl, z1, ?_⟩
      exact q _ (recs_drop (H' := H) h1 h2) (keep1_upd e1) ((Ex.kt e1).upd (by
        obtain ⟨es0, g1, _⟩ := hr
        exact ne_tup_of g1 fun xs z => by cases z))
    · unfold hasR at hhas
      rw [show lookR rs k = none from z2] at hhas
      cases hhas
  | put k x l =>
    have hst : ∀ {te : TE} {r : Rec} {σ : L2.St}, σ[0]? = some (some (.ref d)) → σ[4]? = some (some (.str k)) → EvU te σ H (recVs r) → r = newRec rs n k x l → Alw (sDPut (tVar 0) (tVar 4) te) { nx := fun _ H' => Q .non H', rt := Q } σ H := fun {te r σ} s0 s4 hu he H0 e0 => by
      refine hu H0 e0 _ fun p H1 hp e1 hp1 => ?_
      obtain ⟨es, h1, h2⟩ := hr.ex (e0.trans e1)
      have hlen := pr_len h2
      refine ⟨_, s0, _, s4, d, _, rfl, .inl ⟨es, Sum.inr k, h1, rfl, Nat.lt_of_le_of_lt (Nat.le_of_eq hlen) (Nat.lt_of_le_of_lt hl (by decide)), rfl⟩, ?_⟩
      refine q _ ?_ (keep1_upd (e0.trans e1)) ((Ex.kt (e0.trans e1)).upd (by
        obtain ⟨es0, g1, _⟩ := hr
        exact ne_tup_of g1 fun xs z => by cases z))
      have := recs_put (H' := H1) (k := k) (r := r) h1 h2 ⟨p, rfl, hp1⟩
      rw [he] at this
      exact this
    refine alw_here (al_tup5 (ev_var rfl) hv (alw_if (et_test (ev_eqS (ev_var rfl) ev_c)) (fun hb => absurd (of_decide_eq_true hb) (by decide +kernel)) fun hb => alw_if (et_B (ev_inD (ev_var rfl) (ev_var rfl) hr)) (fun hc => ?_) fun hc => ?_))
    · obtain ⟨r, hlk⟩ : ∃ r, lookR rs k = some r := Option.isSome_iff_exists.mp hc
      have hg : ∀ {σ : L2.St}, σ[0]? = some (some (.ref d)) → σ[4]? = some (some (.str k)) → EvP (tDGet (tVar 0) (tVar 4)) σ H (fun H v => TAt H v (recVs r)) := fun s0 s4 => evp_getD (ev_var s0) (ev_var s4) hr hlk
      refine hst (r := ⟨x, r.made, n, r.version + 1, l⟩) rfl rfl (eu_tup (ea_cons (ev_var rfl) (ea_cons (ev_ixP (hg rfl rfl) (fun _ _ => ev_c) rfl) (ea_cons (ev_var rfl) (ea_cons (ev_add (ev_ixP (hg rfl rfl) (fun _ _ => ev_c) rfl) ev_c) (ea_cons (ev_var rfl) ea_nil))))) (show 5 ≤ 100000 by decide)) ?_
      unfold newRec
      rw [hlk]
    · have hlk : lookR rs k = none := Option.not_isSome_iff_eq_none.mp (by unfold hasR at hc; rw [hc]; exact Bool.false_ne_true)
      refine hst (r := ⟨x, n, n, 1, l⟩) rfl rfl (eu_tup (ea_cons (ev_var rfl) (ea_cons (ev_var rfl) (ea_cons (ev_var rfl) (ea_cons ev_c (ea_cons (ev_var rfl) ea_nil))))) (show 5 ≤ 100000 by decide)) ?_
      unfold newRec
      rw [hlk]
end
end KW

/-! rows -/
namespace KW
open PySem PySem.Spec PyProof.Rows L2 Evl
section
variable {K : PySem.W.Frag} {σ : L2.St} {H H' : Hp} {ta tb te tx td ty : TE} {d : Addr} {rs : Recs} {k : Str}
theorem el_keys (hd : Ev td σ H (.ref d)) (h : RecsAt H d rs) : EvL (tCB rListD (tCons td tNil)) σ H ((keysA rs).map V.str) := fun H1 e Q q =>
  hd H1 e _ fun H2 e2 => by
    obtain ⟨es, h1, h2⟩ := h.ex (e.trans e2)
    refine ⟨d, es, rfl, h1, fun p hp => ?_⟩
    have ek := keys_of h2
    rw [ek]
    exact q p _ (fresh_back e2 hp) (e2.trans (Ex.new hp)) upd_same
theorem el_sortedS {xs : List Str} (ha : EvL ta σ H (xs.map V.str)) (hl : xs.length < 64) : EvL (tCB (rSortedS K) (tCons ta tNil)) σ H ((sortS xs).map V.str) := fun H1 e Q q =>
  ha H1 e _ fun p H2 hp e2 h2 => ⟨p, xs, rfl, sq_of h2, hl, fun ys l hperm hs hn => by
    rw [sorted_eq hperm (sortedS_pair ys hs)]
    exact q l _ (fresh_back e2 hn) (e2.trans (Ex.new hn)) upd_same⟩
theorem lookR_getR {rs : Recs} {k : Str} (h : k ∈ keysA rs) : lookR rs k = some (getR rs k) := by
  have h2 := lookA_some.mpr h
  obtain ⟨r, hr⟩ := Option.isSome_iff_exists.mp h2
  unfold getR
  rw [show lookR rs k = some r from hr]
  rfl
/-- (key, records[key]) -/
theorem evp_row (hk : Ev tx σ H (.str k)) (hd : Ev td σ H (.ref d)) (ha : Ev ty σ H (.str k)) (h : RecsAt H d rs) (hm : k ∈ keysA rs) : EvP (tTup (tCons tx (tCons (tDGet td ty) tNil))) σ H (fun H v => RowV H v (k, getR rs k)) := fun H1 e Q q =>
  hk H1 e _ fun H2 e2 => evp_getD hd ha h (lookR_getR hm) H2 (e.trans e2) _ fun w H3 e3 hw => ⟨(show 2 ≤ sizeLine by decide), fun p hp =>
    q _ _ ((e2.trans e3).trans (Ex.new hp)) ⟨w, ⟨p, rfl, upd_same⟩, RecV.kt (Ex.kt (Ex.new hp)) hw⟩⟩
end
section
variable {K : PySem.W.Frag} {vs : List V} {H : Hp} {Q : VK} {E : XK}
theorem rs_len_keys (rs : Recs) : (keysA rs).length = rs.length := List.length_map ..
theorem pure_in_rows (h : sp_in_rows K vs H Q E) : t_in_rows K { nx := fun _ H' => Q .non H', rt := Q } (start N_in_rows vs) H := by
  obtain ⟨d, rs, rfl, hr, hn, hl, q⟩ := h
  have hk : (keysA rs).length < 64 := by rw [rs_len_keys]; exact hl
  have h1 := lc_typed (α := Str × Rec) (J := Itr 0 0) (P := RowV) (tt := tYes) (te := tTup (tCons (tVar 1) (tCons (tDGet (tVar 0) (tVar 1)) tNil))) (j := 1) (vs := [1]) (σ := start N_in_rows [V.ref d]) (B := H) (wi := iList K (tCB (rSortedS K) (tCons (tCB rListD (tCons (tVar 0) tNil)) tNil)))
    (ei_listN (el_sortedS (el_keys (ev_var rfl) hr) hk)) (paired_mem (paired_map V.str (sortS (keysA rs)))) (fun k => some (k, getR rs k)) (fun _ _ _ _ k z => RowV.kt k z) (fun _ => rfl) (fun x d r H1 e Q q => q H1 (Ex.refl H1))
    (fun u c y r hy => by
      cases hy
      obtain ⟨r1, r2⟩ := r
      subst r1
      exact evp_row (ev_var rfl) (ev_var rfl) (ev_var rfl) hr (mem_sortS.mp r2)) (by rw [List.length_map, sortS_len]; omega)
  have e : List.filterMap (fun k => some (k, getR rs k)) (sortS (keysA rs)) = inRows rs := by
    unfold inRows
    rw [← List.filterMap_eq_map]
    rfl
  rw [e] at h1
  exact h1 H (Ex.refl H) _ fun p H2 hp e2 hl => q H2 p e2 hp hl
theorem pure_l_rows (h : sp_l_rows K vs H Q E) : t_l_rows K { nx := fun _ H' => Q .non H', rt := Q } (start N_l_rows vs) H := by
  obtain ⟨d, rs, a, b, rfl, hr, hn, hl, q⟩ := h
  have hk : (keysA rs).length < 64 := by rw [rs_len_keys]; exact hl
  have h1 := lc_typed (α := Str × Rec) (J := Itr 0 0) (P := RowV) (tt := tTest (tChain rLeS rLeS (tVar 1) (tVar 3) (tVar 2))) (te := tTup (tCons (tVar 3) (tCons (tDGet (tVar 0) (tVar 3)) tNil))) (j := 3) (vs := [3]) (σ := start N_l_rows [V.ref d, .str a, .str b]) (B := H) (wi := iList K (tCB (rSortedS K) (tCons (tCB rListD (tCons (tVar 0) tNil)) tNil)))
    (ei_listN (el_sortedS (el_keys (ev_var rfl) hr) hk)) (paired_mem (paired_map V.str (sortS (keysA rs)))) (fun k => if within k a b = true then some (k, getR rs k) else none) (fun _ _ _ _ k z => RowV.kt k z) (fun _ => rfl)
    (fun x c r => by
      obtain ⟨r1, r2⟩ := r
      subst r1
      have hch := et_test (ev_chain (r := rLeS) (r' := rLeS) (σ := (wipe (start N_l_rows [V.ref d, .str a, .str b]) [3]).set 3 (some (V.str c))) (H := H) (ta := tVar 1) (tb := tVar 3) (tc := tVar 2) (x := .str a) (y := .str c) (w := .str b) (k := sLe a c) (kz := sLe c b) (ev_var rfl) (ev_var rfl) (rv_val fun _ _ _ q => ⟨a, c, rfl, rfl, q⟩) (fun _ => ev_var rfl) fun _ => rv_val fun _ _ _ q => ⟨c, b, rfl, rfl, q⟩)
      have e : (if within c a b = true then some (c, getR rs c) else none).isSome = (sLe a c && sLe c b) := by
        unfold within
        cases (sLe a c && sLe c b) <;> rfl
      rw [e]
      exact hch)
    (fun u c y r hy => by
      obtain ⟨r1, r2⟩ := r
      subst r1
      split at hy
      · cases hy
        exact evp_row (ev_var rfl) (ev_var rfl) (ev_var rfl) hr (mem_sortS.mp r2)
      · cases hy) (by rw [List.length_map, sortS_len]; omega)
  have e : List.filterMap (fun k => if within k a b = true then some (k, getR rs k) else none) (sortS (keysA rs)) = spanRows rs a b := by
    unfold spanRows inRows
    generalize sortS (keysA rs) = ks
    induction ks with
    | nil => rfl
    | cons x r ih =>
      rw [List.map_cons, List.filter_cons, List.filterMap_cons, ih]
      dsimp only
      split
      · rename_i hh
        rw [if_neg (by intro z; rw [if_pos z] at hh; cases hh)]
      · rename_i y hh
        by_cases z : within x a b = true
        · rw [if_pos z] at hh ⊢
          cases hh
          rfl
        · rw [if_neg z] at hh
          cases hh
  rw [e] at h1
  exact h1 H (Ex.refl H) _ fun p H2 hp e2 hl => q H2 p e2 hp hl
end
end KW

/-! a house: made, written, asked -/
namespace KW
open PySem PySem.Spec PyProof.Rows L2 Evl
def houseFields : List Str := (["records", "old_records", "log", "last", "base", "ends", "granted", "now", "spans", "cut"] : List String).map Str.ofString
structure HCls (K : PySem.W.Frag) : Prop where
  Housecl : Cls K (clsHouse K)
  na : ∀ f ∈ houseFields, NoAttr K (clsHouse K) f
section
variable {K : PySem.W.Frag} {σ : L2.St} {H H' : Hp} {ta tb te tx td ty : TE} {p : Addr} {s : HS} {z : HCell}
theorem ev_fld {dx : Addr} {fs : List (Str × V)} {f : Str} {v : V} (HC : HCls K) (ha : Ev ta σ H (.ref p)) (ho : H p = some (.ins (clsHouse K) dx fs)) (hl : fs.lookup f = some v) (hf : f ∈ houseFields) : Ev (tFld K ta f) σ H v := fun H1 e Q q =>
  ha H1 e _ fun H2 e2 => ⟨p, clsHouse K, dx, fs, v, rfl, (e.trans e2) p _ ho, HC.Housecl, HC.na f hf, hl, q H2 e2⟩
variable (HC : HCls K) (ha : Ev ta σ H (.ref p)) (h : HouseAt (clsHouse K) H p s z)
include HC ha h
theorem ev_records : Ev (tFld K ta "records") σ H (.ref z.r) := by
  obtain ⟨dx, ho⟩ := h.ob
  exact ev_fld HC ha ho (hf_records ..) (by decide +kernel)
theorem ev_old : Ev (tFld K ta "old_records") σ H (.ref z.o) := by
  obtain ⟨dx, ho⟩ := h.ob
  exact ev_fld HC ha ho (hf_old ..) (by decide +kernel)
theorem ev_log : Ev (tFld K ta "log") σ H (.ref z.l) := by
  obtain ⟨dx, ho⟩ := h.ob
  exact ev_fld HC ha ho (hf_log ..) (by decide +kernel)
theorem ev_last : Ev (tFld K ta "last") σ H (.int s.last) := by
  obtain ⟨dx, ho⟩ := h.ob
  exact ev_fld HC ha ho (hf_last ..) (by decide +kernel)
theorem ev_base : Ev (tFld K ta "base") σ H (.int s.base) := by
  obtain ⟨dx, ho⟩ := h.ob
  exact ev_fld HC ha ho (hf_base ..) (by decide +kernel)
theorem ev_ends : Ev (tFld K ta "ends") σ H (.ref z.e) := by
  obtain ⟨dx, ho⟩ := h.ob
  exact ev_fld HC ha ho (hf_ends ..) (by decide +kernel)
theorem ev_granted : Ev (tFld K ta "granted") σ H (.int s.granted) := by
  obtain ⟨dx, ho⟩ := h.ob
  exact ev_fld HC ha ho (hf_granted ..) (by decide +kernel)
theorem ev_now : Ev (tFld K ta "now") σ H (.int s.now) := by
  obtain ⟨dx, ho⟩ := h.ob
  exact ev_fld HC ha ho (hf_now ..) (by decide +kernel)
theorem ev_spans : Ev (tFld K ta "spans") σ H (.ref z.s) := by
  obtain ⟨dx, ho⟩ := h.ob
  exact ev_fld HC ha ho (hf_spans ..) (by decide +kernel)
theorem ev_cut : Ev (tFld K ta "cut") σ H (.ref z.c) := by
  obtain ⟨dx, ho⟩ := h.ob
  exact ev_fld HC ha ho (hf_cut ..) (by decide +kernel)
end
section
variable {K : PySem.W.Frag} {vs : List V} {H : Hp} {Q : VK} {E : XK}
/-! ### __init__ -/
theorem putF_len (f : Str) (v : V) (fs : List (Str × V)) : (putF f v fs).length ≤ fs.length + 1 := by
  induction fs with
  | nil => exact Nat.le_refl _
  | cons a t ih =>
    obtain ⟨g, x⟩ := a
    unfold putF
    split
    · exact Nat.le_succ _
    · exact Nat.succ_le_succ ih
theorem st_dict {σ : L2.St} {D : Ends} {tw : TS} {p dx : Addr} {fs : List (Str × V)} {f : Str} (HC : HCls K) (s0 : σ[0]? = some (some (.ref p))) (hp : H p = some (.ins (clsHouse K) dx fs)) (hf : f ∈ houseFields) {n : Nat} (hl : fs.length ≤ n) (hn : n < 1000)
    (k : ∀ d H', (putF f (.ref d) fs).length ≤ n + 1 → H d = none → H' d = some (.dK []) → H' p = some (.ins (clsHouse K) dx (putF f (.ref d) fs)) → (∀ b o, b ≠ p → H b = some o → H' b = some o) → tw D σ H') : tSeq (sFld K (tVar 0) tDNewK f) tw D σ H := by
  intro d hd
  have npd : p ≠ d := ne_of_none hp hd
  refine ⟨_, s0, p, _, dx, fs, rfl, (by rw [upd_ne npd]; exact hp), HC.Housecl, HC.na f hf, Nat.lt_of_le_of_lt hl hn, ?_⟩
  refine k d _ (Nat.le_trans (putF_len _ _ _) (Nat.succ_le_succ hl)) hd ?_ upd_same fun b o hb e => ?_
  · rw [upd_ne npd.symm, upd_same]
  · rw [upd_ne hb, upd_ne (ne_of_none e hd)]
    exact e
theorem st_list {σ : L2.St} {D : Ends} {tw : TS} {p dx : Addr} {fs : List (Str × V)} {f : Str} (HC : HCls K) (s0 : σ[0]? = some (some (.ref p))) (hp : H p = some (.ins (clsHouse K) dx fs)) (hf : f ∈ houseFields) {n : Nat} (hl : fs.length ≤ n) (hn : n < 1000)
    (k : ∀ d H', (putF f (.ref d) fs).length ≤ n + 1 → H d = none → H' d = some (.lst []) → H' p = some (.ins (clsHouse K) dx (putF f (.ref d) fs)) → (∀ b o, b ≠ p → H b = some o → H' b = some o) → tw D σ H') : tSeq (sFld K (tVar 0) (tLst tNil) f) tw D σ H := by
  refine ⟨Nat.zero_le _, fun d hd => ?_⟩
  have npd : p ≠ d := ne_of_none hp hd
  refine ⟨_, s0, p, _, dx, fs, rfl, (by rw [upd_ne npd]; exact hp), HC.Housecl, HC.na f hf, Nat.lt_of_le_of_lt hl hn, ?_⟩
  refine k d _ (Nat.le_trans (putF_len _ _ _) (Nat.succ_le_succ hl)) hd ?_ upd_same fun b o hb e => ?_
  · rw [upd_ne npd.symm, upd_same]
  · rw [upd_ne hb, upd_ne (ne_of_none e hd)]
    exact e
theorem st_val {σ : L2.St} {D : Ends} {tw : TS} {p dx : Addr} {fs : List (Str × V)} {f : Str} {v : V} (HC : HCls K) (s0 : σ[0]? = some (some (.ref p))) (hp : H p = some (.ins (clsHouse K) dx fs)) (hf : f ∈ houseFields) {n : Nat} (hl : fs.length ≤ n) (hn : n < 1000)
    (k : ∀ H', (putF f v fs).length ≤ n + 1 → H' p = some (.ins (clsHouse K) dx (putF f v fs)) → (∀ b o, b ≠ p → H b = some o → H' b = some o) → tw D σ H') : tSeq (sFld K (tVar 0) (tC v) f) tw D σ H := by
  refine ⟨_, s0, p, _, dx, fs, rfl, hp, HC.Housecl, HC.na f hf, Nat.lt_of_le_of_lt hl hn, ?_⟩
  refine k _ (Nat.le_trans (putF_len _ _ _) (Nat.succ_le_succ hl)) upd_same fun b o hb e => ?_
  rw [upd_ne hb]
  exact e
theorem flds_made (r o l e s c : Addr) : putF "cut" (.ref c) (putF "spans" (.ref s) (putF "now" (.int 0) (putF "granted" (.int 0) (putF "ends" (.ref e) (putF "base" (.int 0) (putF "last" (.int 0) (putF "log" (.ref l) (putF "old_records" (.ref o) (putF "records" (.ref r) []))))))))) = hFlds r o l 0 0 e 0 0 s c := by kernel_rfl
theorem pure_h_init (HC : HCls K) (h : sp_h_init K vs H Q E) : t_h_init K { nx := fun _ H' => Q .non H', rt := Q } (start N_h_init vs) H := by
  obtain ⟨p, dx, rfl, hp, q⟩ := h
  refine st_dict HC rfl hp (by decide +kernel) (n := 0) (Nat.le_refl _) (by decide) fun r H1 L1 nr r1 p1 k1 => ?_
  refine st_dict HC rfl p1 (by decide +kernel) L1 (by decide) fun o H2 L2 no o2 p2 k2 => ?_
  refine st_list HC rfl p2 (by decide +kernel) L2 (by decide) fun l H3 L3 nl l3 p3 k3 => ?_
  refine st_val HC rfl p3 (by decide +kernel) L3 (by decide) fun H4 L4 p4 k4 => ?_
  refine st_val HC rfl p4 (by decide +kernel) L4 (by decide) fun H5 L5 p5 k5 => ?_
  refine st_dict HC rfl p5 (by decide +kernel) L5 (by decide) fun e H6 L6 ne e6 p6 k6 => ?_
  refine st_val HC rfl p6 (by decide +kernel) L6 (by decide) fun H7 L7 p7 k7 => ?_
  refine st_val HC rfl p7 (by decide +kernel) L7 (by decide) fun H8 L8 p8 k8 => ?_
  refine st_list HC rfl p8 (by decide +kernel) L8 (by decide) fun s H9 L9 ns s9 p9 k9 => ?_
  refine st_dict (D := { nx := fun _ H' => Q .non H', rt := Q }) (tw := tNext) HC rfl p9 (by decide +kernel) L9 (by decide) fun c H10 L10 nc c10 p10 k10 => ?_
  rw [flds_made] at p10
  have pr : r ≠ p := (ne_of_none hp nr).symm
  have po : o ≠ p := (ne_of_none p1 no).symm
  have pl : l ≠ p := (ne_of_none p2 nl).symm
  have pe : e ≠ p := (ne_of_none p5 ne).symm
  have ps : s ≠ p := (ne_of_none p8 ns).symm
  have pc : c ≠ p := (ne_of_none p9 nc).symm
  have r9 := k9 _ _ pr (k8 _ _ pr (k7 _ _ pr (k6 _ _ pr (k5 _ _ pr (k4 _ _ pr (k3 _ _ pr (k2 _ _ pr r1)))))))
  have o9 := k9 _ _ po (k8 _ _ po (k7 _ _ po (k6 _ _ po (k5 _ _ po (k4 _ _ po (k3 _ _ po o2))))))
  have l9 := k9 _ _ pl (k8 _ _ pl (k7 _ _ pl (k6 _ _ pl (k5 _ _ pl (k4 _ _ pl l3)))))
  have e9 := k9 _ _ pe (k8 _ _ pe (k7 _ _ pe e6))
  have r5 := k5 _ _ pr (k4 _ _ pr (k3 _ _ pr (k2 _ _ pr r1)))
  have o5 := k5 _ _ po (k4 _ _ po (k3 _ _ po o2))
  have l8 := k8 _ _ pl (k7 _ _ pl (k6 _ _ pl (k5 _ _ pl (k4 _ _ pl l3))))
  have kk : ∀ b u, b ≠ p → H b = some u → H10 b = some u := fun b u n h => k10 _ _ n (k9 _ _ n (k8 _ _ n (k7 _ _ n (k6 _ _ n (k5 _ _ n (k4 _ _ n (k3 _ _ n (k2 _ _ n (k1 _ _ n h)))))))))
  have fresh : ∀ b, b ≠ p → ∀ {Hx : Hp}, Hx b = none → (∀ u, H b = some u → Hx b = some u) → H b = none := fun b n Hx hx k => by
    cases w : H b with
    | none => rfl
    | some u => rw [k u w] at hx; cases hx
  refine q H10 ⟨r, o, l, e, s, c⟩ ⟨⟨dx, p10⟩, ⟨[], k10 _ _ pr r9, .nil⟩, ⟨[], k10 _ _ po o9, .nil⟩, ⟨[], k10 _ _ pl l9, .nil⟩, ⟨[], k10 _ _ pe e9, .nil⟩, ⟨[], k10 _ _ ps s9, .nil⟩, ⟨[], c10, .nil⟩,
    ne_of_none r1 no, ne_of_none r5 ne, ne_of_none r9 nc, ne_of_none o5 ne, ne_of_none o9 nc, ne_of_none e9 nc, ne_of_none l8 ns⟩ ⟨fun b u h n => kk b u (fun z => n (by rw [z]; exact List.mem_cons_self)) h, fun b hb => ?_, fun a xs h => kk a _ (fun z => by rw [z, hp] at h; cases h) h⟩
  have hb2 : b = p ∨ b = r ∨ b = o ∨ b = l ∨ b = e ∨ b = s ∨ b = c := by simpa [HCell.fp] using hb
  rcases hb2 with rfl | rfl | rfl | rfl | rfl | rfl | rfl
  · exact .inl List.mem_cons_self
  · exact .inr nr
  · exact .inr (fresh _ po no fun u h => k1 _ _ po h)
  · exact .inr (fresh _ pl nl fun u h => k2 _ _ pl (k1 _ _ pl h))
  · exact .inr (fresh _ pe ne fun u h => k5 _ _ pe (k4 _ _ pe (k3 _ _ pe (k2 _ _ pe (k1 _ _ pe h)))))
  · exact .inr (fresh _ ps ns fun u h => k8 _ _ ps (k7 _ _ ps (k6 _ _ ps (k5 _ _ ps (k4 _ _ ps (k3 _ _ ps (k2 _ _ ps (k1 _ _ ps h))))))))
  · exact .inr (fresh _ pc nc fun u h => k9 _ _ pc (k8 _ _ pc (k7 _ _ pc (k6 _ _ pc (k5 _ _ pc (k4 _ _ pc (k3 _ _ pc (k2 _ _ pc (k1 _ _ pc h)))))))))
end
end KW

/-! House.write -/
namespace KW
open PySem PySem.Spec PyProof.Rows L2 Evl
section
variable {C : Addr} {H H' : Hp} {p : Addr} {s : HS} {z : HCell}
theorem HouseAt.cells (h : HouseAt C H p s z) : (∃ dx fs, H p = some (.ins C dx fs)) ∧ (∃ es, H z.r = some (.dK es)) ∧ (∃ es, H z.o = some (.dK es)) ∧ (∃ vs, H z.l = some (.lst vs)) ∧ (∃ es, H z.e = some (.dK es)) ∧ (∃ vs, H z.s = some (.lst vs)) ∧ ∃ es, H z.c = some (.dK es) := by
  obtain ⟨dx, h0⟩ := h.ob
  obtain ⟨e1, h1, _⟩ := h.recs
  obtain ⟨e2, h2, _⟩ := h.old
  obtain ⟨e3, h3, _⟩ := h.log
  obtain ⟨e4, h4, _⟩ := h.ends
  obtain ⟨e5, h5, _⟩ := h.spans
  obtain ⟨e6, h6, _⟩ := h.cut
  exact ⟨⟨_, _, h0⟩, ⟨_, h1⟩, ⟨_, h2⟩, ⟨_, h3⟩, ⟨_, h4⟩, ⟨_, h5⟩, ⟨_, h6⟩⟩
/-- the cells hold no tuples -/
theorem HouseAt.notup (h : HouseAt C H p s z) {b : Addr} (hb : b ∈ z.fp p) : ∀ xs, H b ≠ some (.tup xs) := by
  obtain ⟨⟨dx, fs, h0⟩, ⟨e1, h1⟩, ⟨e2, h2⟩, ⟨e3, h3⟩, ⟨e4, h4⟩, ⟨e5, h5⟩, ⟨e6, h6⟩⟩ := h.cells
  have hb2 : b = p ∨ b = z.r ∨ b = z.o ∨ b = z.l ∨ b = z.e ∨ b = z.s ∨ b = z.c := by simpa [HCell.fp] using hb
  rcases hb2 with rfl | rfl | rfl | rfl | rfl | rfl | rfl
  · exact ne_tup_of h0 fun xs q => by cases q
  · exact ne_tup_of h1 fun xs q => by cases q
  · exact ne_tup_of h2 fun xs q => by cases q
  · exact ne_tup_of h3 fun xs q => by cases q
  · exact ne_tup_of h4 fun xs q => by cases q
  · exact ne_tup_of h5 fun xs q => by cases q
  · exact ne_tup_of h6 fun xs q => by cases q
theorem HouseAt.some (h : HouseAt C H p s z) {b : Addr} (hb : b ∈ z.fp p) : ∃ o, H b = some o := by
  obtain ⟨⟨dx, fs, h0⟩, ⟨e1, h1⟩, ⟨e2, h2⟩, ⟨e3, h3⟩, ⟨e4, h4⟩, ⟨e5, h5⟩, ⟨e6, h6⟩⟩ := h.cells
  have hb2 : b = p ∨ b = z.r ∨ b = z.o ∨ b = z.l ∨ b = z.e ∨ b = z.s ∨ b = z.c := by simpa [HCell.fp] using hb
  rcases hb2 with rfl | rfl | rfl | rfl | rfl | rfl | rfl
  · exact ⟨_, h0⟩
  · exact ⟨_, h1⟩
  · exact ⟨_, h2⟩
  · exact ⟨_, h3⟩
  · exact ⟨_, h4⟩
  · exact ⟨_, h5⟩
  · exact ⟨_, h6⟩
theorem mem_fp (p : Addr) (z : HCell) : p ∈ z.fp p ∧ z.r ∈ z.fp p ∧ z.o ∈ z.fp p ∧ z.l ∈ z.fp p ∧ z.e ∈ z.fp p ∧ z.s ∈ z.fp p ∧ z.c ∈ z.fp p := by simp [HCell.fp]
/-- an object's own ints are stored -/
theorem house_ob (h : HouseAt C H p s z) {s' : HS} {dx : Addr} (hr : s'.recs = s.recs) (ho : s'.old = s.old) (hl : s'.log = s.log) (he : s'.ends = s.ends) (hs : s'.spans = s.spans) (hc : s'.cut = s.cut) :
    HouseAt C (upd H p (.ins C dx (hFlds z.r z.o z.l s'.last s'.base z.e s'.granted s'.now z.s z.c))) p s' z := by
  obtain ⟨⟨dx0, fs, h0⟩, ⟨e1, h1⟩, ⟨e2, h2⟩, ⟨e3, h3⟩, ⟨e4, h4⟩, ⟨e5, h5⟩, ⟨e6, h6⟩⟩ := h.cells
  have kt : Kt H (upd H p (.ins C dx (hFlds z.r z.o z.l s'.last s'.base z.e s'.granted s'.now z.s z.c))) := (Kt.refl H).upd (h.notup (mem_fp p z).1)
  have k : ∀ {b : Addr} {o u : HO}, H b = some o → o ≠ (.ins C dx0 fs) → H b = some u → (upd H p (.ins C dx (hFlds z.r z.o z.l s'.last s'.base z.e s'.granted s'.now z.s z.c))) b = some u := fun {b o u} hb n q => by
    rw [upd_ne (ne_of hb h0 n)]
    exact q
  exact ⟨⟨dx, upd_same⟩, by rw [hr]; exact h.recs.move (fun v x q => RecV.kt kt q) fun o => k h1 (by intro q; cases q), by rw [ho]; exact h.old.move (fun v x q => RecV.kt kt q) fun o => k h2 (by intro q; cases q),
    by rw [hl]; exact h.log.move kt (fun v x q => EvV.kt kt q) fun o => k h3 (by intro q; cases q), by rw [he]; exact h.ends.move (fun v x q => TAt.kt kt q) fun o => k h4 (by intro q; cases q),
    by rw [hs]; exact h.spans.move kt (fun v x q => SpanV.kt kt q) fun o => k h5 (by intro q; cases q), by rw [hc]; exact h.cut.move (fun v x q => q) fun o => k h6 (by intro q; cases q), h.ro, h.re, h.rc, h.oe, h.oc, h.ec, h.ls⟩
theorem house_log (h : HouseAt C H p s z) {vs : List V} {v : V} {e : Evt} (hl : H z.l = some (.lst vs)) (hv : EvV H v e) : HouseAt C (upd H z.l (.lst (vs ++ [v]))) p { s with log := s.log ++ [e] } z := by
  obtain ⟨⟨dx0, fs, h0⟩, ⟨e1, h1⟩, ⟨e2, h2⟩, ⟨e3, h3⟩, ⟨e4, h4⟩, ⟨e5, h5⟩, ⟨e6, h6⟩⟩ := h.cells
  have kt : Kt H (upd H z.l (.lst (vs ++ [v]))) := (Kt.refl H).upd (h.notup (mem_fp p z).2.2.2.1)
  have k : ∀ {b : Addr} {u : HO}, b ≠ z.l → H b = some u → (upd H z.l (.lst (vs ++ [v]))) b = some u := fun {b u} hb q => by
    rw [upd_ne hb]
    exact q
  obtain ⟨dx, ho⟩ := h.ob
  obtain ⟨ws, l1, l2⟩ := h.log
  rw [hl] at l1
  cases l1
  exact ⟨⟨dx, k (ne_of h0 h3 (by intro q; cases q)) ho⟩, h.recs.move (fun v x q => RecV.kt kt q) fun o => k (ne_of h1 h3 (by intro q; cases q)), h.old.move (fun v x q => RecV.kt kt q) fun o => k (ne_of h2 h3 (by intro q; cases q)),
    ⟨_, upd_same, pr_snoc (pr_mono l2 fun a b q => EvV.kt kt q) (EvV.kt kt hv)⟩, h.ends.move (fun v x q => TAt.kt kt q) fun o => k (ne_of h4 h3 (by intro q; cases q)),
    h.spans.move kt (fun v x q => SpanV.kt kt q) fun o => k h.ls.symm, h.cut.move (fun v x q => q) fun o => k (ne_of h6 h3 (by intro q; cases q)), h.ro, h.re, h.rc, h.oe, h.oc, h.ec, h.ls⟩
theorem house_recs (h : HouseAt C H p s z) {rs : Recs} (hr : RecsAt H' z.r rs) (k1 : Keep1 z.r H H') (kt : Kt H H') : HouseAt C H' p { s with recs := rs } z := by
  obtain ⟨⟨dx0, fs, h0⟩, ⟨e1, h1⟩, ⟨e2, h2⟩, ⟨e3, h3⟩, ⟨e4, h4⟩, ⟨e5, h5⟩, ⟨e6, h6⟩⟩ := h.cells
  obtain ⟨dx, ho⟩ := h.ob
  exact ⟨⟨dx, k1 _ _ (ne_of h0 h1 (by intro q; cases q)) ho⟩, hr, h.old.move (fun v x q => RecV.kt kt q) fun o => k1 _ _ h.ro.symm, h.log.move kt (fun v x q => EvV.kt kt q) fun o => k1 _ _ (ne_of h3 h1 (by intro q; cases q)),
    h.ends.move (fun v x q => TAt.kt kt q) fun o => k1 _ _ h.re.symm, h.spans.move kt (fun v x q => SpanV.kt kt q) fun o => k1 _ _ (ne_of h5 h1 (by intro q; cases q)), h.cut.move (fun v x q => q) fun o => k1 _ _ h.rc.symm, h.ro, h.re, h.rc, h.oe, h.oc, h.ec, h.ls⟩
end
/-! ### the mathematics of a write -/
theorem hasR_changeR {rs : Recs} {e : Evt} {k : Str} (h : e.deed.key ≠ k) : hasR (changeR rs e) k = hasR rs k := by
  obtain ⟨n, d⟩ := e
  unfold hasR changeR
  cases d with
  | put j v l =>
    show (lookA (putA rs j _) k).isSome = _
    rw [lookA_putA, if_neg (fun q => h q.symm)]
  | drop j =>
    show (lookA (dropA rs j) k).isSome = _
    rw [lookA_dropA, if_neg (fun q => h q.symm)]
theorem changeR_len (rs : Recs) (e : Evt) : (changeR rs e).length ≤ rs.length + 1 := by
  obtain ⟨n, d⟩ := e
  unfold changeR
  cases d with
  | put j v l =>
    show (putA rs j _).length ≤ _
    unfold putA
    split
    · rw [List.length_map]
      exact Nat.le_succ _
    · rw [List.length_append]
      exact Nat.le_refl _
  | drop j =>
    show (dropA rs j).length ≤ _
    unfold dropA
    exact Nat.le_trans (List.length_filter_le _ _) (Nat.le_succ _)
theorem foldC_len (n : Int) : ∀ (ds : List Deed) (rs : Recs), (ds.foldl (fun rs d => changeR rs ⟨n, d⟩) rs).length ≤ rs.length + ds.length
  | [], rs => Nat.le_refl _
  | d :: r, rs => by
    rw [List.foldl_cons, List.length_cons]
    have h1 := foldC_len n r (changeR rs ⟨n, d⟩)
    have h2 := changeR_len rs ⟨n, d⟩
    omega
theorem foldC_has (n : Int) {k : Str} : ∀ (ds : List Deed) (rs : Recs), (∀ d ∈ ds, d.key ≠ k) → hasR (ds.foldl (fun rs d => changeR rs ⟨n, d⟩) rs) k = hasR rs k
  | [], rs, _ => rfl
  | d :: r, rs, h => by
    rw [List.foldl_cons, foldC_has n r _ (fun d hd => h d (List.mem_cons_of_mem _ hd)), hasR_changeR (h d List.mem_cons_self)]
theorem real_drop {rs : Recs} {ds : List Deed} {k : Str} (h : Deed.drop k ∈ realD rs ds) : hasR rs k = true := by
  have := (List.mem_filter.mp h).2
  simpa [Deed.isPut, Deed.key] using this
theorem real_nodup {rs : Recs} {ds : List Deed} (h : (ds.map Deed.key).Nodup) : ((realD rs ds).map Deed.key).Nodup := List.Nodup.sublist (List.Sublist.map _ List.filter_sublist) h
theorem take_ne {ds : List Deed} (h : (ds.map Deed.key).Nodup) {i : Nat} {d : Deed} (hd : ds[i]? = some d) : ∀ x ∈ ds.take i, x.key ≠ d.key := by
  intro x hx e
  obtain ⟨j, hj⟩ := List.mem_iff_getElem?.mp hx
  rw [List.getElem?_take] at hj
  split at hj
  · rename_i hlt
    have h1 : (ds.map Deed.key)[j]? = some d.key := by rw [List.getElem?_map, hj]; simp [e]
    have h2 : (ds.map Deed.key)[i]? = some d.key := by rw [List.getElem?_map, hd]; rfl
    have := nd_ix h h1 h2
    omega
  · cases hj
/-- the house behind the first i real deeds -/
def writeN (s : HS) (ds : List Deed) : Int := if realD s.recs ds = [] then s.last else s.last + 1
def writeTo (s : HS) (ds : List Deed) (i : Nat) : HS :=
  { s with last := writeN s ds, log := s.log ++ ((realD s.recs ds).take i).map (fun d => ⟨writeN s ds, d⟩), recs := ((realD s.recs ds).take i).foldl (fun rs d => changeR rs ⟨writeN s ds, d⟩) s.recs }
theorem writeTo_end (s : HS) (ds : List Deed) : writeTo s ds (realD s.recs ds).length = s.write ds := by
  unfold writeTo HS.write writeN
  rw [List.take_length]
  by_cases h : realD s.recs ds = []
  · rw [if_pos h, h, if_pos rfl]
    simp
  · rw [if_neg h, if_neg h]
theorem writeTo_succ (s : HS) (ds : List Deed) {i : Nat} {d : Deed} (h : (realD s.recs ds)[i]? = some d) :
    writeTo s ds (i + 1) = { { writeTo s ds i with log := (writeTo s ds i).log ++ [(⟨writeN s ds, d⟩ : Evt)] } with recs := changeR (writeTo s ds i).recs ⟨writeN s ds, d⟩ } := by
  unfold writeTo
  rw [List.take_succ, h]
  simp
end KW

/-! House.write, the walk -/
namespace KW
open PySem PySem.Spec PyProof.Rows L2 Evl
theorem fm_ite {α : Type} (c : α → Bool) : ∀ xs : List α, xs.filterMap (fun d => if c d = true then some d else none) = xs.filter c
  | [] => rfl
  | x :: r => by
    rw [List.filterMap_cons, List.filter_cons, fm_ite c r]
    by_cases h : c x = true
    · rw [if_pos h, if_pos h]
    · rw [if_neg h, if_neg h]
theorem seq_lcP {α : Type} {σ : L2.St} {H : Hp} {te : TE} {P : Hp → V → α → Prop} {ys : List α} {i : Nat} {tw : TS} {D : Ends} (h : EvLP te σ H P ys) (k : ∀ p H2, H p = none → Ex H H2 → LsAt P H2 p ys → tw D (σ.set i (some (.ref p))) H2) : tSeq (tAsg te (gName i)) tw D σ H :=
  h H (Ex.refl H) _ k
theorem seq_app {K : PySem.W.Frag} {σ : L2.St} {H : Hp} {ta te : TE} {v : V} {tw : TS} {D : Ends} {l : Addr} {xs : List V} (hl : H l = some (.lst xs)) (ha : Ev ta σ H (.ref l)) (h : Ev te σ H v) (hz : xs.length < 100000) (k : ∀ H1, Ex H H1 → tw D σ (upd H1 l (.lst (xs ++ [v])))) :
    tSeq (tDrop (tBM K "list" rAppend ta (tCons te tNil))) tw D σ H := s_app (D := { D with nx := tw D }) hl ha h hz k
theorem drop_call {σ : L2.St} {H : Hp} {ta : TA} {sp : Sp} {dvs vs : List V} {E : XK} {D : Ends} (h : EvA ta σ H vs) (k : ∀ H1, Ex H H1 → sp (vs ++ dvs) H1 (fun _ H2 => D.nx σ H2) E) : tDrop (tCall sp dvs E ta) D σ H :=
  h H (Ex.refl H) _ fun H1 e => k H1 e
/-- data of a thing -/
def optD : Option Int → PyData
  | none => .none
  | some i => .int i
theorem dp_opt {K : PySem.W.Frag} {H : Hp} (o : Option Int) : Dp K H (optV o) (optD o) := by
  cases o with
  | none => exact .non
  | some i => exact .int i
/-- what is known of a list's items as data: flat tuples -/
def FlatV : V → PyData → Prop
  | .non, d => d = .none
  | .bl b, d => d = .bool b
  | .int i, d => d = .int i
  | .str x, d => d = .str x
  | _, _ => False
def flatD : V → PyData
  | .bl b => .bool b
  | .int i => .int i
  | .str x => .str x
  | _ => .none
def isFlat : V → Bool
  | .non => true
  | .bl _ => true
  | .int _ => true
  | .str _ => true
  | _ => false
theorem dp_flat {K : PySem.W.Frag} {H : Hp} {v : V} (h : isFlat v = true) : Dp K H v (flatD v) := by
  cases v with
  | non => exact .non
  | bl b => exact .bl b
  | int i => exact .int i
  | str x => exact .str x
  | _ => cases h
theorem dp_flats {K : PySem.W.Frag} {H : Hp} : ∀ {vs : List V}, vs.all isFlat = true → DpAll K H vs (vs.map flatD)
  | [], _ => .nil
  | v :: r, h => by
    rw [List.all_cons, Bool.and_eq_true] at h
    exact .cons (dp_flat h.1) (dp_flats h.2)
theorem plain_flat (v : V) : (flatD v).plain = true := by cases v <;> rfl
theorem depth_flat (v : V) : (flatD v).depth = 0 := by cases v <;> rfl
theorem plain_flats : ∀ vs : List V, PyData.plainAll (vs.map flatD) = true
  | [] => rfl
  | v :: r => by
    rw [List.map_cons, PyData.plainAll, plain_flat, plain_flats r]
    rfl
theorem depth_flats : ∀ vs : List V, PyData.depthAll (vs.map flatD) = 0
  | [] => rfl
  | v :: r => by
    rw [List.map_cons, PyData.depthAll, depth_flat, depth_flats r]
    rfl
theorem deed_flat (d : Deed) : (deedVs d).all isFlat = true := by
  cases d with
  | put k v l => cases l <;> rfl
  | drop k => rfl
def deedD (d : Deed) : PyData := .tuple ((deedVs d).map flatD)
theorem dp_deed {K : PySem.W.Frag} {H : Hp} {v : V} {d : Deed} (h : DeedV H v d) : Dp K H v (deedD d) := by
  obtain ⟨a, rfl, h⟩ := h
  exact .tup (st_of h) (dp_flats (deed_flat d))
theorem dp_deeds {K : PySem.W.Frag} {H : Hp} : ∀ {vs : List V} {ds : List Deed}, Paired (DeedV H) vs ds → DpAll K H vs (ds.map deedD)
  | _, _, .nil => .nil
  | _, _, .cons r t => .cons (dp_deed r) (dp_deeds t)
theorem plain_deeds : ∀ ds : List Deed, PyData.plainAll (ds.map deedD) = true
  | [] => rfl
  | d :: r => by
    rw [List.map_cons, PyData.plainAll, plain_deeds r]
    show (PyData.plainAll ((deedVs d).map flatD) && true) = true
    rw [plain_flats]
    rfl
theorem depth_deeds : ∀ ds : List Deed, PyData.depthAll (ds.map deedD) ≤ 1
  | [] => Nat.zero_le _
  | d :: r => by
    rw [List.map_cons, PyData.depthAll]
    refine Nat.max_le.mpr ⟨?_, depth_deeds r⟩
    show PyData.depthAll ((deedVs d).map flatD) + 1 ≤ 1
    rw [depth_flats]
    exact Nat.le_refl _
section
variable {K : PySem.W.Frag} {σ : L2.St} {H H' : Hp} {ta tb te tx td ty : TE} {p : Addr} {s : HS} {z : HCell}
theorem ev_neNil {l : Addr} {ds : List Deed} (ha : Ev ta σ H (.ref l)) (h : LsAt DeedV H l ds) : Ev (tOp (rNeP K) ta (tLst tNil)) σ H (.bl (!decide (ds = []))) := by
  refine ev_opL ha (el_lst ea_nil (by decide)) fun p H1 hp e => rv_val fun H2 e2 Q q => ?_
  obtain ⟨vs, h1, h2⟩ := h
  have h2' : Paired (DeedV H2) vs ds := pr_mono h2 fun a b q => DeedV.kt (Ex.kt (e.trans e2)) q
  refine ⟨.list (ds.map deedD), .list [], .lst (sq_of ((e.trans e2) l _ h1)) (dp_deeds h2'), .lst (sq_of (e2 p _ hp)) .nil, plain_deeds ds, rfl, ?_, ?_⟩
  · show PyData.depthAll _ + 1 ≤ 60
    have := depth_deeds ds
    omega
  · rw [eqv_nil]
    have : decide (ds.map deedD = []) = decide (ds = []) := by simp
    rw [this]
    exact q
theorem deed_0 (d : Deed) : atI (deedVs d) 0 = some (.str (if d.isPut then "put" else "drop")) := by
  cases d <;> rfl
theorem deed_1 (d : Deed) : atI (deedVs d) 1 = some (.str d.key) := by
  cases d <;> rfl
/-- the event's tuple -/
theorem evVs_eq (n : Int) (d : Deed) : evVs ⟨n, d⟩ = [.int n] ++ deedVs d ++ (if d.isPut then [] else [.non, .non]) := by
  cases d <;> rfl
end
section
variable {K : PySem.W.Frag} {vs : List V} {H : Hp} {Q : VK} {E : XK}
/-- (self.last,) + deed + (None, None) * int(deed[0] == 'drop') -/
theorem evp_event {σ : L2.St} {te tl : TE} {v : V} {n : Int} {d : Deed} (hl : Ev tl σ H (.int n)) (hv : Ev te σ H v) (hd : DeedV H v d) :
    EvP (tOp (rCatA K) (tOp (rCatA K) (tTup (tCons tl tNil)) te) (tOp (rRep01 K) (tTup (tCons (tC .non) (tCons (tC .non) tNil))) (tCB rInt1 (tCons (tOp rEq (tOp (rIxT K) te (tC (.int 0))) (tC (.str "drop"))) tNil)))) σ H (fun H v => EvV H v ⟨n, d⟩) := by
  intro H1 e1 Q q
  obtain ⟨a, rfl, ha⟩ := hd
  refine hl H1 e1 _ fun H2 e2 => ⟨(show 1 ≤ sizeLine by decide), fun p1 hp1 => ?_⟩
  refine hv _ ((e1.trans e2).trans (Ex.new hp1)) _ fun H3 e3 => ?_
  have a3 : H3 a = some (.tup (deedVs d)) := (((e1.trans e2).trans (Ex.new hp1)).trans e3) a _ ha
  have p13 : H3 p1 = some (.tup [.int n]) := e3 p1 _ upd_same
  have hne : deedVs d ≠ [] := by cases d <;> (intro q; cases q)
  have hsz : (deedVs d).length ≤ 4 := by cases d <;> simp [deedVs]
  refine ⟨p1, a, _, _, rfl, rfl, st_of p13, st_of a3, ?_, (fun q => absurd q (by simp)), (fun _ q => absurd q hne), fun _ _ p2 hp2 => ?_⟩
  · have : ([V.int n] : List V).length = 1 := rfl
    have h3 : sizeLine = 16777216 := sizeLine_eq
    omega
  refine ⟨(show 2 ≤ sizeLine by decide), fun p3 hp3 => ?_⟩
  have e4 : Ex H1 (upd (upd H3 p2 (.tup ([V.int n] ++ deedVs d))) p3 (.tup [.non, .non])) := ((e2.trans (Ex.new hp1)).trans e3).trans ((Ex.new hp2).trans (Ex.new hp3))
  refine hv _ (e1.trans e4) _ fun H5 e5 => ?_
  have a5 : H5 a = some (.tup (deedVs d)) := ((e1.trans e4).trans e5) a _ ha
  have p25 : H5 p2 = some (.tup ([V.int n] ++ deedVs d)) := e5 p2 _ (by rw [upd_ne (ne_of_none (H := upd H3 p2 (.tup ([V.int n] ++ deedVs d))) upd_same hp3), upd_same])
  have p35 : H5 p3 = some (.tup [.non, .non]) := e5 p3 _ upd_same
  refine ⟨a, _, 0, _, rfl, rfl, st_of a5, deed_0 d, rfl, ?_⟩
  refine .inr ⟨_, rfl, ?_⟩
  have lsz : ([V.int n] ++ deedVs d).length ≤ 5 := by rw [List.length_append]; show 1 + _ ≤ 5; omega
  have h3 : sizeLine = 16777216 := sizeLine_eq
  cases hp : d.isPut with
  | true =>
    refine ⟨p3, 0, _, rfl, ?_, st_of p35, by simp, .inr ⟨rfl, fun p4 hp4 => ?_⟩⟩
    · show V.int (if decide (V.str "put" = V.str "drop") = true then 1 else 0) = .int 0
      rw [if_neg (by decide +kernel)]
    · refine ⟨p2, p4, _, [], rfl, rfl, st_of (by rw [upd_ne (ne_of_none p25 hp4)]; exact p25), st_of upd_same, by simp only [List.length_nil]; omega, fun q => absurd q (by simp), fun _ _ => ?_, fun _ q => absurd rfl q⟩
      refine q _ _ ((e4.trans e5).trans (Ex.new hp4)) ⟨p2, rfl, ?_⟩
      rw [upd_ne (ne_of_none p25 hp4), p25, evVs_eq, hp]
      simp
  | false =>
    refine ⟨p3, 1, _, rfl, ?_, st_of p35, by simp, .inl ⟨rfl, ?_⟩⟩
    · show V.int (if decide (V.str "drop" = V.str "drop") = true then 1 else 0) = .int 1
      rw [if_pos (by decide +kernel)]
    · refine ⟨p2, p3, _, _, rfl, rfl, st_of p25, st_of p35, by simp only [List.length_cons, List.length_nil]; omega, fun q => absurd q (by simp), fun _ q => absurd q (by simp), fun _ _ p4 hp4 => ?_⟩
      refine q _ _ ((e4.trans e5).trans (Ex.new hp4)) ⟨p4, rfl, ?_⟩
      rw [upd_same, evVs_eq, hp]
      simp
theorem house_keep {p : Addr} {s : HS} {z : HCell} {H H' : Hp} (h : HouseAt (clsHouse K) H p s z) (k : ∀ b o, H b = some o → b ∉ z.fp p → H' b = some o) (kt : Kt H H') : Keep (z.fp p) (z.fp p) H H' := ⟨k, fun b hb => .inl hb, kt⟩
theorem pure_h_write (HC : HCls K) (h : sp_h_write K vs H Q E) : t_h_write K { nx := fun _ H' => Q .non H', rt := Q } (start N_h_write vs) H := by
  obtain ⟨p, s, z, a, ds, rfl, hh, hds, hna, hsm, hnd, q⟩ := h
  obtain ⟨ws, ha, hws⟩ := hds
  generalize hreal : realD s.recs ds = real at q
  have hrn : (real.map Deed.key).Nodup := by rw [← hreal]; exact real_nodup hnd
  have hrl : real.length ≤ ds.length := by rw [← hreal]; exact List.length_filter_le _ _
  have hlen := pr_len hws
  -- real = [..]
  have hcomp : EvLP (tLc (iSeq K (tVar 1)) (gName 3) (tOr (tTest (tOp rEq (tOp (rIxT K) (tVar 3) (tC (.int 0))) (tC (.str "put")))) (tB (tDIn (tOp (rIxT K) (tVar 3) (tC (.int 1))) (tFld K (tVar 0) "records")))) (tVar 3) [3]) (start N_h_write [.ref p, .ref a]) H DeedV real := by
    have hi : EvI (iSeq K (tVar 1)) (start N_h_write [.ref p, .ref a]) H ws := by
      rcases ha with ha | ha
      · exact ei_seqL (ev_var rfl) (sq_of ha)
      · exact ei_seqT (ev_var rfl) (st_of ha)
    have h1 := lc_typed (α := Deed) (J := Itr 0 0) (P := DeedV) (tt := tOr (tTest (tOp rEq (tOp (rIxT K) (tVar 3) (tC (.int 0))) (tC (.str "put")))) (tB (tDIn (tOp (rIxT K) (tVar 3) (tC (.int 1))) (tFld K (tVar 0) "records")))) (te := tVar 3) (j := 3) (vs := [3]) hi hws
      (fun d => if (d.isPut || hasR s.recs d.key) = true then some d else none) (fun _ _ _ _ k z => DeedV.kt k z) (fun _ => rfl)
      (fun x d hx => by
        have e : (if (d.isPut || hasR s.recs d.key) = true then some d else none).isSome = (d.isPut || hasR s.recs d.key) := by
          cases (d.isPut || hasR s.recs d.key) <;> rfl
        rw [e]
        refine et_or (a := d.isPut) (et_is (et_test (ev_eqS (ev_ixA (ev_var rfl) hx ev_c (deed_0 d)) ev_c)) ?_) fun _ => et_B (ev_inD (ev_ixA (ev_var rfl) hx ev_c (deed_1 d)) (ev_records HC (ev_var rfl) hh) hh.recs)
        cases d.isPut with
        | true => decide +kernel
        | false => decide +kernel)
      (fun x d y hx hy => by
        split at hy
        · cases hy
          exact Ev.p (ev_var rfl) fun H1 e => DeedV.kt (Ex.kt e) hx
        · cases hy) (by have := hsm.2; omega)
    have e : List.filterMap (fun d : Deed => if (d.isPut || hasR s.recs d.key) = true then some d else none) ds = real := by
      rw [← hreal]
      exact fm_ite _ ds
    rw [e] at h1
    exact h1
  refine seq_lcP hcomp fun l H1 hl0 e1 hl1 => ?_
  have hh1 := hh.ex e1
  have hlfp : l ∉ z.fp p := fun hm => by
    obtain ⟨o, ho⟩ := hh.some hm
    rw [hl0] at ho
    cases ho
  obtain ⟨rs, hlr, hlp⟩ := hl1
  -- the number
  have hNr : writeN s ds = if real = [] then s.last else s.last + 1 := by unfold writeN; rw [hreal]
  have step2 : ∀ H2 : Hp, HouseAt (clsHouse K) H2 p (writeTo s ds 0) z → Keep (z.fp p) (z.fp p) H H2 → H2 l = some (.lst rs) → Kt H1 H2 →
      tSeq (tFor (iList K (tVar 2)) (gName 3)
        (tSeq (tAsg (tOp (rCatA K) (tOp (rCatA K) (tTup (tCons (tFld K (tVar 0) "last") tNil)) (tVar 3)) (tOp (rRep01 K) (tTup (tCons (tC .non) (tCons (tC .non) tNil))) (tCB rInt1 (tCons (tOp rEq (tOp (rIxT K) (tVar 3) (tC (.int 0))) (tC (.str "drop"))) tNil)))) (gName 4))
        (tSeq (tDrop (tBM K "list" rAppend (tFld K (tVar 0) "log") (tCons (tVar 4) tNil)))
        (tDrop (tCall (sp_change K) [] E0 (tCons (tFld K (tVar 0) "records") (tCons (tVar 4) tNil)))))))
        (tRet (tOp (rNeP K) (tVar 2) (tLst tNil))) { nx := fun _ H' => Q .non H', rt := Q } ((start N_h_write [.ref p, .ref a]).set 2 (some (.ref l))) H2 := fun H2 hh2 hk2 hl2 kt2 => by
    have hit : ∀ {H' : Hp}, Kt H1 H' → Paired (DeedV H') rs real := fun k => pr_mono hlp fun a b q => DeedV.kt k q
    refine ⟨_, rfl, l, rfl, ⟨rs, sq_of hl2⟩, for_list (K := K) (a := l) (xs := rs) (fun i σ' H' => ∃ v3 v4, σ' = [some (.ref p), some (.ref a), some (.ref l), v3, v4] ∧ HouseAt (clsHouse K) H' p (writeTo s ds i) z ∧ Keep (z.fp p) (z.fp p) H H' ∧ H' l = some (.lst rs) ∧ Kt H1 H') ?_ ?_ ?_ ?_⟩
    · exact ⟨none, none, rfl, hh2, hk2, hl2, kt2⟩
    · rintro i σ' H' _ ⟨v3, v4, _, _, _, h5, _⟩
      exact sq_of h5
    · rintro i x σ' H3 hx ⟨v3, v4, rfl, hh3, hk3, hl3, kt3⟩
      obtain ⟨d, hd, hdv⟩ := pr_get (hit kt3) hx
      have hi : i < real.length := (List.getElem?_eq_some_iff.mp hd).1
      have hd' : (realD s.recs ds)[i]? = some d := by rw [hreal]; exact hd
      have hdrop : ∀ k, d = .drop k → hasR (writeTo s ds i).recs k = true := fun k e => by
        unfold writeTo
        show hasR (((realD s.recs ds).take i).foldl (fun rs d => changeR rs ⟨writeN s ds, d⟩) s.recs) k = true
        rw [foldC_has _ _ _ (fun x hx => by
          have := take_ne (real_nodup hnd) hd' x hx
          rw [e] at this
          exact this)]
        exact real_drop (by rw [← e]; exact List.mem_of_getElem? hd')
      have hsz := hsm
      have hll : (writeTo s ds i).log.length ≤ 50000 := by
        unfold writeTo
        simp only [List.length_append, List.length_map, List.length_take]
        have := hsm.2
        omega
      have hrr : (writeTo s ds i).recs.length ≤ 50000 := by
        have h1 := foldC_len (writeN s ds) ((realD s.recs ds).take i) s.recs
        have h2 : ((realD s.recs ds).take i).length ≤ ds.length := by rw [hreal, List.length_take]; omega
        have := hsm.1
        show (((realD s.recs ds).take i).foldl (fun rs d => changeR rs ⟨writeN s ds, d⟩) s.recs).length ≤ 50000
        omega
      refine alw_here (al_setP (evp_event (ev_last HC (ev_var rfl) hh3) (ev_var rfl) hdv) fun v H4 e4 hv => ?_)
      intro H4' e4'
      have hh4 := hh3.ex (e4.trans e4')
      have hv4 := EvV.kt (Ex.kt e4') hv
      obtain ⟨lv, hlog, hlogp⟩ := hh4.log
      have hlen4 := pr_len hlogp
      refine seq_app hlog (ev_log HC (ev_var rfl) hh4) (ev_var rfl) (by omega) fun H5 e5 => ?_
      have hh5 := house_log (hh4.ex e5) (e5 _ _ hlog) (EvV.kt (Ex.kt e5) hv4)
      have kt6 : Kt H5 (upd H5 z.l (.lst (lv ++ [v]))) := (Kt.refl H5).upd ((hh4.ex e5).notup (mem_fp p z).2.2.2.1)
      refine drop_call (ea_cons (ev_records HC (ev_var rfl) hh5) (ea_cons (ev_var rfl) ea_nil)) fun H6 e6 => ?_
      have hv6 : EvV H6 v ⟨writeN s ds, d⟩ := EvV.kt (Ex.kt e6) (EvV.kt kt6 (EvV.kt (Ex.kt e5) hv4))
      refine ⟨z.r, v, (writeTo s ds i).recs, ⟨writeN s ds, d⟩, rfl, hh5.recs.ex e6, hv6, hdrop, by omega, fun H7 hr7 k7 kt7 => ?_⟩
      have hh7 := house_recs (hh5.ex e6) hr7 k7 kt7
      have kt37 : Kt H3 H7 := (Ex.kt ((e4.trans e4').trans e5)).trans (kt6.trans ((Ex.kt e6).trans kt7))
      have kp37 : ∀ b o, H3 b = some o → b ∉ z.fp p → H7 b = some o := fun b o hb hn => k7 b o (fun q => hn (by rw [q]; exact (mem_fp p z).2.1)) (e6 b o (by
        rw [upd_ne (fun q => hn (by rw [q]; exact (mem_fp p z).2.2.2.1))]
        exact e5 b o (e4' b o (e4 b o hb))))
      refine ⟨_, _, rfl, ?_, hk3.trans (house_keep hh3 kp37 kt37), kp37 l _ hl3 hlfp, kt3.trans kt37⟩
      rw [writeTo_succ s ds hd']
      exact hh7
    · rintro σ' H3 ⟨v3, v4, rfl, hh3, hk3, hl3, kt3⟩
      have hrl2 : rs.length = real.length := pr_len hlp
      refine alw_here (alw_ret (ev_neNil (ev_var rfl) ⟨rs, hl3, hit kt3⟩) fun H4 e4 => ?_)
      refine q H4 z ?_ (hk3.trans (Keep.ex e4))
      have e : writeTo s ds rs.length = s.write ds := by rw [hrl2, ← hreal]; exact writeTo_end s ds
      rw [← e]
      exact hh3.ex e4
  refine alw_here (al_if (B := H1) (et_test (ev_neNil (ev_var rfl) ⟨rs, hlr, hlp⟩)) (fun hb H2 e2 => ?_) fun hb => al_skip fun H2 e2 => ?_)
  · have hne : real ≠ [] := of_decide_eq_false (by simpa using hb)
    have hh2 := hh1.ex e2
    refine (show Ev (tOp rAddI (tFld K (tVar 0) "last") (tC (.int 1))) ((start N_h_write [.ref p, .ref a]).set 2 (some (.ref l))) H2 (.int (s.last + 1)) from ev_add (ev_last HC (ev_var rfl) hh2) ev_c) H2 (Ex.refl _) _ fun H3 e3 => ?_
    have hh3 := hh2.ex e3
    obtain ⟨dx, ho⟩ := hh3.ob
    refine ⟨_, rfl, p, _, dx, _, rfl, ho, HC.Housecl, HC.na _ (by decide +kernel), hf_len .., ?_⟩
    rw [hp_last]
    have kt3 : Kt H3 (upd H3 p (.ins (clsHouse K) dx (hFlds z.r z.o z.l (s.last + 1) s.base z.e s.granted s.now z.s z.c))) := (Kt.refl H3).upd (hh3.notup (mem_fp p z).1)
    refine step2 _ ?_ ?_ ?_ ?_
    · have e : writeTo s ds 0 = { s with last := s.last + 1 } := by
        unfold writeTo
        rw [hNr, if_neg hne]
        simp
      rw [e]
      exact house_ob (s' := { s with last := s.last + 1 }) (dx := dx) hh3 rfl rfl rfl rfl rfl rfl
    · refine (Keep.ex ((e1.trans e2).trans e3)).trans (house_keep hh3 (fun b o hb hn => ?_) kt3)
      rw [upd_ne (fun q => hn (by rw [q]; exact (mem_fp p z).1))]
      exact hb
    · rw [upd_ne (fun q => hlfp (by rw [q]; exact (mem_fp p z).1))]
      exact e3 l _ (e2 l _ hlr)
    · exact (Ex.kt (e2.trans e3)).trans kt3
  · have he : real = [] := of_decide_eq_true (by simpa using hb)
    refine step2 H2 ?_ (Keep.ex (e1.trans e2)) (e2 l _ hlr) (Ex.kt e2)
    have e : writeTo s ds 0 = s := by
      unfold writeTo
      rw [hNr, if_pos he]
      simp
    rw [e]
    exact hh1.ex e2
end
end KW

/-! put, drop, number, look, rows -/
namespace KW
open PySem PySem.Spec PyProof.Rows L2 Evl
theorem drop_callN {σ : L2.St} {H : Hp} {ta : TA} {sp : Sp} {dvs vs : List V} {E : XK} {D : Ends} {tw : TS} (h : EvA ta σ H vs) (k : ∀ H1, Ex H H1 → sp (vs ++ dvs) H1 (fun _ H2 => tw D σ H2) E) : tSeq (tDrop (tCall sp dvs E ta)) tw D σ H :=
  h H (Ex.refl H) _ fun H1 e => k H1 e
theorem al_need {σ : L2.St} {B : Hp} {ta : TE} {sp : Sp} {v : V} {E : XK} {D : Ends} {tw : TS} (h : Ev ta σ B v) (k : ∀ H1, Ex B H1 → ∀ Q : VK, (∀ H2, Ex H1 H2 → Q .non H2) → sp [v] H1 Q E) (c : Alw tw D σ B) : Alw (tSeq (tDrop (tCall sp [] E (tCons ta tNil))) tw) D σ B := fun H e =>
  h H e _ fun H1 e1 => k H1 (e.trans e1) _ fun H2 e2 => c H2 ((e.trans e1).trans e2)
theorem seq_forL {K : PySem.W.Frag} {σ : L2.St} {H : Hp} {a : Addr} {xs : List V} {tl : TE} {g : TG} {tu tw : TS} {D : Ends} (h : Ev tl σ H (.ref a)) (hx : SqL K H a xs) (Pv : Nat → L2.St → Hp → Prop) (h0 : ∀ H1, Ex H H1 → Pv 0 σ H1) (hl : ∀ i σ' H', i ≤ xs.length → Pv i σ' H' → SqL K H' a xs)
    (hs : ∀ i x σ' H', xs[i]? = some x → Pv i σ' H' → g x σ' H' fun σ2 H2 => tu { D with nx := Pv (i + 1), ct := Pv (i + 1), bk := tw D } σ2 H2) (hd : ∀ σ' H', Pv xs.length σ' H' → tw D σ' H') : tSeq (tFor (iList K tl) g tu) tw D σ H :=
  s_forL (D := { D with nx := tw D }) h hx Pv h0 hl hs hd
section
variable {K : PySem.W.Frag} {vs : List V} {H : Hp} {Q : VK} {E : XK}
theorem use_key {x : Str} {H1 : Hp} {Q : VK} {E : XK} (h : isKey x = true) (q : ∀ H2, Ex H1 H2 → Q .non H2) : sp_need_key K [.str x] H1 Q E :=
  ⟨_, rfl, thing_key h, fun H2 e2 => ⟨fun _ => q H2 e2, fun z => by rw [show isKeyV (.str x) = isKey x from rfl, h] at z; cases z⟩⟩
theorem use_value {i : Int} {H1 : Hp} {Q : VK} {E : XK} (h0 : 0 ≤ i) (h1 : i ≤ 9999) (q : ∀ H2, Ex H1 H2 → Q .non H2) : sp_need_value K [.int i] H1 Q E := by
  refine ⟨_, rfl, .int i, fun H2 e2 => ⟨fun _ => q H2 e2, fun z => ?_⟩⟩
  have : isValueV (.int i) = true := by
    show (decide (0 ≤ i) && decide (i ≤ 9999)) = true
    rw [decide_eq_true h0, decide_eq_true h1]
    rfl
  rw [this] at z
  cases z
theorem pure_h_number (HC : HCls K) (h : sp_h_number K vs H Q E) : t_h_number K { nx := fun _ H' => Q .non H', rt := Q } (start N_h_number vs) H := by
  obtain ⟨p, s, z, rfl, hh, q⟩ := h
  obtain ⟨dx, ho⟩ := hh.ob
  exact ⟨_, rfl, p, _, dx, _, _, rfl, ho, HC.Housecl, HC.na _ (by decide +kernel), hf_last .., q⟩
/-- a method's call -/
theorem meth_call {σ : L2.St} {H : Hp} {te : TE} {ta : TA} {sp : Sp} {dvs vs : List V} {m : Str} {E : XK} {Q : VK} {p : Addr} {s : HS} {z : HCell} (he : Ev te σ H (.ref p)) (hh : HouseAt (clsHouse K) H p s z) (hm : m ∈ houseMeths)
    (h : EvA ta σ H vs) (k : ∀ H1, Ex H H1 → sp (.ref p :: (vs ++ dvs)) H1 Q E) : tMeth (clsHouse K) m sp dvs E te ta σ H Q :=
  he H (Ex.refl H) _ fun H1 e1 => by
    obtain ⟨dx, ho⟩ := (hh.ex e1).ob
    exact ⟨p, dx, _, rfl, ho, hf_meth _ _ _ _ _ _ _ _ _ _ hm, h H1 e1 _ fun H2 e2 => k H2 (e1.trans e2)⟩
theorem write_put (s : HS) (k : Str) (v : Int) (l : Option Int) : realD s.recs [.put k v l] = [.put k v l] := rfl
theorem write_put_last (s : HS) (k : Str) (v : Int) (l : Option Int) : (s.write [.put k v l]).last = s.last + 1 := by
  unfold HS.write
  rw [write_put]
  rfl
theorem write_drop (s : HS) (k : Str) : decide (realD s.recs [.drop k] = []) = !hasR s.recs k := by
  unfold realD
  rw [List.filter_cons]
  show decide ((if (false || hasR s.recs k) = true then _ else _) = []) = _
  rw [Bool.false_or]
  cases hasR s.recs k <;> simp
/-- a list of one deed, made on the way -/
theorem evp_one {σ : L2.St} {ta : TA} {d : Deed} (h : EvA ta σ H (deedVs d)) : EvLP (tLst (tCons (tTup ta) tNil)) σ H DeedV [d] := fun H1 e Q q =>
  h H1 e _ fun H2 e2 => ⟨(by have : (deedVs d).length ≤ 4 := by cases d <;> simp [deedVs]
                             have h3 : sizeLine = 16777216 := sizeLine_eq
                             omega), fun t ht => ⟨(show 1 ≤ sizeLine by decide), fun p hp =>
    q p _ (fresh_back (e2.trans (Ex.new ht)) hp) ((e2.trans (Ex.new ht)).trans (Ex.new hp)) ⟨_, upd_same, .cons ⟨t, rfl, by rw [upd_ne (ne_of_none (H := upd H2 t (.tup (deedVs d))) upd_same hp), upd_same]⟩ .nil⟩⟩⟩
/-- self.write([one deed]) -/
theorem write_one (HC : HCls K) {σ : L2.St} {te : TE} {ta : TA} {d : Deed} {p : Addr} {s : HS} {z : HCell} {E : XK} {Q : VK} (he : Ev te σ H (.ref p)) (hh : HouseAt (clsHouse K) H p s z) (h : EvA ta σ H (deedVs d)) (hs : s.small 1)
    (q : ∀ H' z', HouseAt (clsHouse K) H' p (s.write [d]) z' → Keep (z.fp p) (z'.fp p) H H' → Q (.bl (!decide (realD s.recs [d] = []))) H') : tMeth (clsHouse K) "write" (sp_h_write K) [] E te (tCons (tLst (tCons (tTup ta) tNil)) tNil) σ H Q :=
  he H (Ex.refl H) _ fun H1 e1 => by
    obtain ⟨dx, ho⟩ := (hh.ex e1).ob
    refine ⟨p, dx, _, rfl, ho, hf_meth _ _ _ _ _ _ _ _ _ _ (by decide +kernel), evp_one h H1 e1 _ fun l H2 hl e2 hls => ?_⟩
    obtain ⟨ws, h1, h2⟩ := hls
    refine ⟨p, s, z, l, [d], rfl, hh.ex (e1.trans e2), ⟨ws, .inl h1, h2⟩, fun hm => ?_, hs, by simp, fun H3 z' hh3 k3 => q H3 z' hh3 ((Keep.ex (e1.trans e2)).trans k3)⟩
    obtain ⟨o, ho⟩ := (hh.ex e1).some hm
    rw [hl] at ho
    cases ho
theorem pure_h_put (HC : HCls K) (h : sp_h_put K vs H Q E) : t_h_put K E { nx := fun _ H' => Q .non H', rt := Q } (start N_h_put vs) H := by
  obtain ⟨p, s, z, k, v, l, rfl, hh, hk, h0, h1, hl, hs, q⟩ := h
  refine alw_here (al_need (ev_var rfl) (fun H1 e1 Q q => use_key hk q) (al_need (ev_var rfl) (fun H1 e1 Q q => use_value h0 h1 q) ?_))
  have fin : Alw (tSeq (tDrop (tMeth (clsHouse K) "write" (sp_h_write K) [] E0 (tVar 0) (tCons (tLst (tCons (tTup (tCons (tC (.str "put")) (tCons (tVar 1) (tCons (tVar 2) (tCons (tVar 3) tNil))))) tNil)) tNil)))
      (tRet (tFld K (tVar 0) "last"))) { nx := fun _ H' => Q .non H', rt := Q } (start N_h_put [.ref p, .str k, .int v, optV l]) H := fun H2 e2 => by
    refine write_one (d := Deed.put k v l) HC (ev_var rfl) (hh.ex e2) (ea_cons ev_c (ea_cons (ev_var rfl) (ea_cons (ev_var rfl) (ea_cons (ev_var rfl) ea_nil)))) hs fun H3 z' hh3 k3 => ?_
    refine alw_here (alw_ret (ev_last HC (ev_var rfl) hh3) fun H4 e4 => ?_)
    rw [write_put_last]
    exact q H4 z' (hh3.ex e4) ((Keep.ex e2).trans (k3.trans (Keep.ex e4)))
  cases l with
  | none =>
    refine al_if (et_test (ev_notN (ev_var rfl))) (fun hb => by cases hb) fun _ => al_skip fin
  | some i =>
    obtain ⟨hi1, hi2⟩ := hl i rfl
    refine al_if (et_test (ev_notN (ev_var rfl))) (fun _ H2 e2 => ?_) fun hb => by cases hb
    refine meth_call (ev_var rfl) (hh.ex e2) (by decide +kernel) (ea_cons (ev_var rfl) ea_nil) fun H3 e3 => ?_
    exact ⟨p, s, z, _, rfl, hh.ex (e2.trans e3), .int i, fun H4 e4 => ⟨fun j hj _ _ => fin H4 ((e2.trans e3).trans e4), fun hn => absurd hi2 (hn i rfl hi1)⟩⟩
theorem pure_h_drop (HC : HCls K) (h : sp_h_drop K vs H Q E) : t_h_drop K E { nx := fun _ H' => Q .non H', rt := Q } (start N_h_drop vs) H := by
  obtain ⟨p, s, z, k, rfl, hh, hk, hs, q⟩ := h
  refine alw_here (al_need (ev_var rfl) (fun H1 e1 Q q => use_key hk q) fun H2 e2 => ?_)
  refine write_one (d := Deed.drop k) HC (ev_var rfl) (hh.ex e2) (ea_cons ev_c (ea_cons (ev_var rfl) ea_nil)) hs fun H3 z' hh3 k3 => ?_
  rw [write_drop, Bool.not_not]
  exact q H3 z' hh3 ((Keep.ex e2).trans k3)
theorem EndsAt.ex {H H' : Hp} {d : Addr} {rs : List (Int × (Int × Int))} (e : Ex H H') (h : EndsAt H d rs) : EndsAt H' d rs := h.move (fun v x q => TAt.kt (Ex.kt e) q) fun o q => e _ _ q
theorem ev_notInE {σ : L2.St} {td ty : TE} {d : Addr} {rs : List (Int × (Int × Int))} {k : Int} (ha : Ev ty σ H (.int k)) (hd : Ev td σ H (.ref d)) (h : EndsAt H d rs) : Ev (tDNotIn ty td) σ H (.bl (!decide (k ∈ keysA rs))) := fun H1 e Q q =>
  ha H1 e _ fun H2 e2 => hd H2 (e.trans e2) _ fun H3 e3 => by
    obtain ⟨es, h1, h2⟩ := EndsAt.ex ((e.trans e2).trans e3) h
    have hg := DGet.k (k := Sum.inl k) h1
    rcases val_of inl_inj h2 k with ⟨v, r, g, l, _⟩ | ⟨g, l⟩
    · have hm : k ∈ keysA rs := lookA_some.mp (by rw [l]; rfl)
      rw [g] at hg
      rw [decide_eq_true hm] at q
      exact ⟨d, some v, rfl, hg, q H3 (e2.trans e3)⟩
    · have hm : k ∉ keysA rs := lookA_none.mp l
      rw [g] at hg
      rw [decide_eq_false hm] at q
      exact ⟨d, none, rfl, hg, q H3 (e2.trans e3)⟩
theorem pure_h_need_lease (HC : HCls K) (h : sp_h_need_lease K vs H Q E) : t_h_need_lease K E { nx := fun _ H' => Q .non H', rt := Q } (start N_h_need_lease vs) H := by
  obtain ⟨p, s, z, v, rfl, hh, ht, q⟩ := h
  have bad : isWholeV v 1 = false → t_h_need_lease K E { nx := fun _ H' => Q .non H', rt := Q } (start N_h_need_lease [.ref p, v]) H := fun hf => by
    have h1 := ev_isWhole (K := K) (σ := start N_h_need_lease [.ref p, v]) (E := E0) (ev_var (i := 1) rfl) (ev_c (v := .int 1)) ht
    rw [hf] at h1
    refine alw_here (alw_if (et_or (b := true) (et_not (et_B h1)) fun z => by cases z) (fun _ H1 e1 => ?_) fun z => by cases z)
    refine (q H1 e1).2 fun i hi h1 => ?_
    rw [hi] at hf
    have : ¬ (1 : Int) ≤ i := of_decide_eq_false hf
    exact absurd h1 this
  cases hw : isWholeV v 1 with
  | false => exact bad hw
  | true =>
    obtain ⟨i, rfl⟩ : ∃ i, v = .int i := by
      cases v with
      | int i => exact ⟨i, rfl⟩
      | _ => cases hw
    have h1i : 1 ≤ i := of_decide_eq_true hw
    have h1 := ev_isWhole (K := K) (σ := start N_h_need_lease [.ref p, .int i]) (E := E0) (ev_var (i := 1) rfl) (ev_c (v := .int 1)) ht
    rw [hw] at h1
    refine alw_here (alw_if (et_or (et_not (et_B h1)) fun _ => et_B (ev_notInE (ev_var rfl) (ev_ends HC (ev_var rfl) hh) hh.ends)) (fun hb H1 e1 => ?_) fun hb H1 e1 => ?_)
    · have hb2 : i ∉ keysA s.ends := by simpa using hb
      exact (q H1 e1).2 fun j hj _ => by cases hj; exact hb2
    · have hb2 : i ∈ keysA s.ends := by simpa using hb
      exact (q H1 e1).1 i rfl h1i hb2
/-- records_at -/
theorem foldC_take (n : Int) {evs : List Evt} {i : Nat} {e : Evt} (h : evs[i]? = some e) (o : Recs) :
    ((evs.take (i + 1)).filter fun e => decide (e.num ≤ n)).foldl changeR o = if e.num ≤ n then changeR (((evs.take i).filter fun e => decide (e.num ≤ n)).foldl changeR o) e else ((evs.take i).filter fun e => decide (e.num ≤ n)).foldl changeR o := by
  rw [List.take_succ, h]
  simp only [Option.toList_some, List.filter_append, List.foldl_append]
  by_cases hn : e.num ≤ n
  · rw [if_pos hn]
    simp [hn]
  · rw [if_neg hn]
    simp [hn]
theorem foldR_len : ∀ (es : List Evt) (rs : Recs), (es.foldl changeR rs).length ≤ rs.length + es.length
  | [], rs => Nat.le_refl _
  | d :: r, rs => by
    rw [List.foldl_cons, List.length_cons]
    have h1 := foldR_len r (changeR rs d)
    have h2 := changeR_len rs d
    omega
theorem ev_0 (e : Evt) : atI (evVs e) 0 = some (.int e.num) := by
  obtain ⟨n, d⟩ := e
  cases d <;> rfl
theorem ev_2 (e : Evt) : atI (evVs e) 2 = some (.str e.deed.key) := by
  obtain ⟨n, d⟩ := e
  cases d <;> rfl
theorem pure_h_records_at (HC : HCls K) (h : sp_h_records_at K vs H Q E) : t_h_records_at K { nx := fun _ H' => Q .non H', rt := Q } (start N_h_records_at vs) H := by
  obtain ⟨p, s, z, n, rfl, hh, hok, hsz, q⟩ := h
  refine alw_here (al_if (et_test (ev_eqI (ev_var rfl) (ev_last HC (ev_var rfl) hh))) (fun hb => ?_) fun hb => al_skip ?_)
  · have hb := of_decide_eq_true hb
    refine alw_ret (ev_records HC (ev_var rfl) hh) fun H1 e1 => q H1 z.r e1 ?_
    unfold HS.at
    rw [if_pos hb]
    exact hh.recs.ex e1
  · have hb := of_decide_eq_false hb
    refine al_setP (P := fun H' v => ∃ d, v = .ref d ∧ H d = none ∧ RecsAt H' d s.old) ?_ fun v H1 e1 hv => ?_
    · intro H1 e1 Q1 q1
      refine ev_old HC (ev_var rfl) hh H1 e1 _ fun H2 e2 => ?_
      obtain ⟨es, h1, h2⟩ := hh.old.ex (e1.trans e2)
      refine ⟨z.o, es, rfl, .inl h1, fun d hd => q1 _ _ (e2.trans (Ex.new hd)) ⟨d, rfl, fresh_back (e1.trans e2) hd, es, upd_same, pr_mono h2 fun a b q => ⟨q.1, RecV.kt (Ex.kt (Ex.new hd)) q.2⟩⟩⟩
    · obtain ⟨d, rfl, hd0, hdr⟩ := hv
      intro H2 e2
      have hh2 := hh.ex (e1.trans e2)
      obtain ⟨lv, hl, hlp⟩ := hh2.log
      have dn : ∀ {b : Addr} {o : HO}, H b = some o → b ≠ d := fun hb => ne_of_none hb hd0
      refine seq_forL (ev_log HC (ev_var rfl) hh2) (sq_of hl) (fun i σ' H' => ∃ v3, σ' = [some (.ref p), some (.int n), some (.ref d), v3] ∧ Ex H H' ∧ H' z.l = some (.lst lv) ∧ RecsAt H' d (((s.log.take i).filter fun e => decide (e.num ≤ n)).foldl changeR s.old)) (fun H3 e3 => ?_) ?_ ?_ ?_
      · exact ⟨none, rfl, (e1.trans e2).trans e3, e3 _ _ hl, hdr.ex (e2.trans e3)⟩
      · rintro i σ' H' _ ⟨v3, _, _, h5, _⟩
        exact sq_of h5
      · rintro i x σ' H4 hx ⟨v3, rfl, e4, hl4, hr4⟩
        obtain ⟨e, he, hev⟩ := pr_get hlp hx
        have hev4 : EvV H4 x e := by
          obtain ⟨vs0, hl0, hlp0⟩ := hh.log
          have : vs0 = lv := by
            have h5 := e4 _ _ hl0
            rw [hl4] at h5
            cases h5
            rfl
          subst this
          obtain ⟨e', he', hev'⟩ := pr_get hlp0 hx
          rw [he] at he'
          cases he'
          exact EvV.kt (Ex.kt e4) hev'
        have hlen := pr_len hlp
        refine alw_here (alw_if (et_test (ev_le (ev_ixA (ev_var rfl) hev4 ev_c (ev_0 e)) (ev_var rfl))) (fun hc H5 e5 => ?_) fun hc H5 e5 => ?_)
        · have hc := of_decide_eq_true hc
          refine drop_call (ea_cons (ev_var rfl) (ea_cons (ev_var rfl) ea_nil)) fun H6 e6 => ?_
          refine ⟨d, x, _, e, rfl, hr4.ex (e5.trans e6), EvV.kt (Ex.kt (e5.trans e6)) hev4, ?_, ?_, fun H7 hr7 k7 kt7 => ⟨_, rfl, ?_, ?_, ?_⟩⟩
          · have hsplit : (s.log.filter fun e => decide (e.num ≤ n)) = ((s.log.take i).filter fun e => decide (e.num ≤ n)) ++ e :: ((s.log.drop (i + 1)).filter fun e => decide (e.num ≤ n)) := by
              have h6 : s.log = s.log.take i ++ e :: s.log.drop (i + 1) := by
                obtain ⟨hi, hi2⟩ := List.getElem?_eq_some_iff.mp he
                rw [← hi2, List.getElem_cons_drop, List.take_append_drop]
              conv => lhs; rw [h6]
              rw [List.filter_append, List.filter_cons, if_pos (by simpa using hc)]
            exact hok n _ e _ hsplit
          · have h6 := foldR_len ((s.log.take i).filter fun e => decide (e.num ≤ n)) s.old
            have h7 : ((s.log.take i).filter fun e => decide (e.num ≤ n)).length ≤ (s.log.take i).length := List.length_filter_le _ _
            rw [List.length_take] at h7
            omega
          · intro b o hb
            exact k7 b o (dn hb) ((e4.trans (e5.trans e6)) b o hb)
          · obtain ⟨vs0, hl0, _⟩ := hh.log
            exact k7 _ _ (dn hl0) ((e5.trans e6) _ _ hl4)
          · rw [foldC_take n he, if_pos hc]
            exact hr7
        · have hc := of_decide_eq_false hc
          refine ⟨_, rfl, e4.trans e5, e5 _ _ hl4, ?_⟩
          rw [foldC_take n he, if_neg hc]
          exact hr4.ex e5
      · rintro σ' H4 ⟨v3, rfl, e4, hl4, hr4⟩
        refine alw_here (alw_ret (ev_var rfl) fun H5 e5 => q H5 d (e4.trans e5) ?_)
        have hlen := pr_len hlp
        unfold HS.at
        rw [if_neg hb]
        rw [hlen, List.take_length] at hr4
        exact hr4.ex e5
end
end KW

/-! look, rows -/
namespace KW
open PySem PySem.Spec PyProof.Rows L2 Evl
section
variable {K : PySem.W.Frag} {vs : List V} {H : Hp} {Q : VK} {E : XK}
theorem ret_meth {σ : L2.St} {H : Hp} {te : TE} {ta : TA} {sp : Sp} {dvs vs : List V} {m : Str} {E : XK} {D : Ends} {p : Addr} {s : HS} {z : HCell} (he : Ev te σ H (.ref p)) (hh : HouseAt (clsHouse K) H p s z) (hm : m ∈ houseMeths)
    (h : EvA ta σ H vs) (k : ∀ H1, Ex H H1 → sp (.ref p :: (vs ++ dvs)) H1 D.rt E) : tRet (tMeth (clsHouse K) m sp dvs E te ta) D σ H := meth_call he hh hm h k
theorem pure_h_records_when (HC : HCls K) (h : sp_h_records_when K vs H Q E) : t_h_records_when K E { nx := fun _ H' => Q .non H', rt := Q } (start N_h_records_when vs) H := by
  obtain ⟨p, s, z, n, rfl, hh, hok, hsz, q⟩ := h
  cases n with
  | none =>
    refine alw_here (al_if (et_test (ev_isN (ev_var rfl))) (fun _ => ?_) fun hb => by cases hb)
    refine alw_ret (ev_records HC (ev_var rfl) hh) fun H1 e1 => ?_
    refine (q H1 e1).2.2 (fun i hi => by cases hi) z.r ?_
    unfold HS.at
    rw [if_pos (show numV s none = s.last from rfl)]
    exact hh.recs.ex e1
  | some i =>
    refine alw_here (al_if (et_test (ev_isN (ev_var rfl))) (fun hb => by cases hb) fun _ => al_skip ?_)
    refine al_if (et_or (et_not (et_B (ev_isWhole (ev_var rfl) ev_c (.int i)))) fun _ => et_test (ev_gt (ev_var rfl) (ev_last HC (ev_var rfl) hh))) (fun hb H1 e1 => ?_) fun hb => al_skip ?_
    · refine (q H1 e1).1 ⟨i, rfl, ?_⟩
      have hb2 : (!decide (0 ≤ i) || decide (s.last < i)) = true := hb
      simp at hb2
      exact hb2
    · have hb2 : (!decide (0 ≤ i) || decide (s.last < i)) = false := hb
      simp at hb2
      refine al_if (et_test (ev_lt (ev_var rfl) (ev_base HC (ev_var rfl) hh))) (fun hc H1 e1 => ?_) fun hc => al_skip fun H1 e1 => ?_
      · have hc := of_decide_eq_true hc
        exact (q H1 e1).2.1 ⟨i, rfl, hb2.1, hb2.2, hc⟩
      · have hc := of_decide_eq_false hc
        refine ret_meth (ev_var rfl) (hh.ex e1) (by decide +kernel) (ea_cons (ev_var rfl) ea_nil) fun H2 e2 => ?_
        exact ⟨p, s, z, i, rfl, hh.ex (e1.trans e2), hok, hsz, fun H3 d e3 hr => (q H3 ((e1.trans e2).trans e3)).2.2 (fun j hj => by cases hj; exact ⟨hb2.1, hb2.2, Int.not_lt.mp hc⟩) d hr⟩
theorem pure_h_look (HC : HCls K) (h : sp_h_look K vs H Q E) : t_h_look K E { nx := fun _ H' => Q .non H', rt := Q } (start N_h_look vs) H := by
  obtain ⟨p, s, z, k, n, rfl, hh, hk, hok, hsz, q⟩ := h
  refine alw_here (al_need (ev_var rfl) (fun H1 e1 Q q => use_key hk q) fun H2 e2 => ?_)
  refine meth_call (ev_var rfl) (hh.ex e2) (by decide +kernel) (ea_cons (ev_var rfl) ea_nil) fun H3 e3 => ?_
  refine ⟨p, s, z, n, rfl, hh.ex (e2.trans e3), hok, hsz, fun H4 e4 => ⟨(q H4 ((e2.trans e3).trans e4)).1, (q H4 ((e2.trans e3).trans e4)).2.1, fun hn d hr => ?_⟩⟩
  · have hr0 := hr
    obtain ⟨es, g1, g2⟩ := hr0
    refine ⟨d, rfl, .inl ⟨es, .inl g1⟩, _, rfl, ?_⟩
    rcases dget_recs hr k with ⟨v, r, g, l, hv⟩ | ⟨g, l⟩
    · refine ⟨some v, g, (q H4 ((e2.trans e3).trans e4)).2.2 hn v ?_⟩
      rw [l]
      exact hv
    · refine ⟨none, g, (q H4 ((e2.trans e3).trans e4)).2.2 hn .non ?_⟩
      rw [l]
      exact rfl
theorem row_0 {H : Hp} {v : V} {p : Str × Rec} (h : RowV H v p) : ∃ w, TAt H v [.str p.1, w] := by
  obtain ⟨w, h1, _⟩ := h
  exact ⟨w, h1⟩
theorem ev_within {σ : L2.St} {ta tb tc : TE} {k a b : Str} {E : XK} (h1 : Ev ta σ H (.str k)) (h2 : Ev tb σ H (.str a)) (h3 : Ev tc σ H (.str b)) : Ev (tCall (sp_is_within K) [] E (tCons ta (tCons tb (tCons tc tNil)))) σ H (.bl (within k a b)) :=
  ev_call (ea_cons h1 (ea_cons h2 (ea_cons h3 ea_nil))) fun H1 e Q q E => ⟨k, a, b, rfl, q H1 (Ex.refl H1)⟩
theorem pure_h_rows (HC : HCls K) (h : sp_h_rows K vs H Q E) : t_h_rows K E { nx := fun _ H' => Q .non H', rt := Q } (start N_h_rows vs) H := by
  obtain ⟨p, s, z, a, b, n, rfl, hh, ha, hb, hok, hsz, hnd, hlt, q⟩ := h
  have hsrc : ∀ {H2 : Hp}, Ex H H2 → ∀ R : VK, (numOk s n → ∀ l H3, H2 l = none → Ex H2 H3 → RowsAt H3 l (inRows (s.at (numV s n))) → R (.ref l) H3) →
      (tCall (sp_in_rows K) [] E0 (tCons (tMeth (clsHouse K) "records_when" (sp_h_records_when K) [] E (tVar 0) (tCons (tVar 3) tNil)) tNil)) (start N_h_rows [.ref p, .str a, .str b, optV n]) H2 R := fun {H2} e2 R r => by
    refine meth_call (ev_var rfl) (hh.ex e2) (by decide +kernel) (ea_cons (ev_var rfl) ea_nil) fun H3 e3 => ?_
    refine ⟨p, s, z, n, rfl, hh.ex (e2.trans e3), hok, hsz, fun H4 e4 => ⟨(q H4 ((e2.trans e3).trans e4)).1, (q H4 ((e2.trans e3).trans e4)).2.1, fun hn d hr => ?_⟩⟩
    exact ⟨d, _, rfl, hr, hnd, hlt, fun H5 l e5 hl hrows => r hn l H5 (fresh_back (e3.trans e4) hl) ((e3.trans e4).trans e5) hrows⟩
  refine alw_here (al_need (ev_var rfl) (fun H1 e1 Q q => use_key ha q) (al_need (ev_var rfl) (fun H1 e1 Q q => use_key hb q) fun H2 e2 => ?_))
  refine hsrc e2 _ fun hn l H4 hl e4 hrows => ?_
  obtain ⟨ws, w1, w2⟩ := hrows
  have hwl : ws.length ≤ 100000 := by
    have := pr_len w2
    rw [inRows_len] at this
    omega
  have h5 := lc_typed (α := Str × Rec) (J := Itr 0 0) (P := RowV) (wi := iList K (tC (.ref l))) (tt := tB (tCall (sp_is_within K) [] E0 (tCons (tOp (rIxT K) (tVar 4) (tC (.int 0))) (tCons (tVar 1) (tCons (tVar 2) tNil))))) (te := tVar 4) (j := 4) (vs := [4]) (σ := start N_h_rows [.ref p, .str a, .str b, optV n]) (B := H4)
    (ei_list ev_c (sq_of w1)) w2 (fun r => if within r.1 a b = true then some r else none) (fun _ _ _ _ k z => RowV.kt k z) (fun _ => rfl)
    (fun x r hx => by
      have e : (if within r.1 a b = true then some r else none).isSome = within r.1 a b := by
        cases within r.1 a b <;> rfl
      rw [e]
      obtain ⟨w, hw⟩ := row_0 hx
      exact et_B (ev_within (ev_ixA (ev_var rfl) hw ev_c rfl) (ev_var rfl) (ev_var rfl)))
    (fun x r y hx hy => by
      split at hy
      · cases hy
        exact Ev.p (ev_var rfl) fun H1 e => RowV.kt (Ex.kt e) hx
      · cases hy) hwl
  rw [fm_ite] at h5
  obtain ⟨a', ea, hex, hR⟩ := h5 H4 (Ex.refl _) Q fun p' H5 hp5 e5 hl5 => (q H5 ((e2.trans e4).trans e5)).2.2 hn p' (fresh_back (e2.trans e4) hp5) hl5
  cases ea
  exact ⟨l, rfl, hex, hR⟩
end
end KW

/-! what holds of a house at all times -/
namespace KW
open PySem PySem.Spec PyProof.Rows L2 Evl
def Chain (rs : Recs) : List Evt → Prop
  | [] => True
  | e :: r => evOk rs e ∧ Chain (changeR rs e) r
theorem chain_append : ∀ {a b : List Evt} {rs : Recs}, Chain rs (a ++ b) ↔ Chain rs a ∧ Chain (a.foldl changeR rs) b
  | [], b, rs => ⟨fun h => ⟨trivial, h⟩, fun h => h.2⟩
  | e :: r, b, rs => by
    show (evOk rs e ∧ Chain (changeR rs e) (r ++ b)) ↔ (evOk rs e ∧ Chain (changeR rs e) r) ∧ _
    rw [chain_append]
    exact and_assoc.symm
theorem chain_at {rs : Recs} {pre : List Evt} {e : Evt} {post : List Evt} (h : Chain rs (pre ++ e :: post)) : evOk (pre.foldl changeR rs) e := (chain_append.mp h).2.1
theorem changeR_nodup {rs : Recs} (h : (keysA rs).Nodup) (e : Evt) : (keysA (changeR rs e)).Nodup := by
  obtain ⟨n, d⟩ := e
  cases d with
  | put k v l => exact nodup_putA h k _
  | drop k => exact nodup_dropA h k
theorem foldR_nodup : ∀ (es : List Evt) {rs : Recs}, (keysA rs).Nodup → (keysA (es.foldl changeR rs)).Nodup
  | [], _, h => h
  | e :: r, rs, h => foldR_nodup r (changeR_nodup h e)
structure HS.Wf (s : HS) : Prop where
  ndo : (keysA s.old).Nodup
  chain : Chain s.old s.log
  eq : s.recs = s.log.foldl changeR s.old
  sorted : s.log.Pairwise fun a b => a.num ≤ b.num
  bnd : ∀ e ∈ s.log, s.base < e.num ∧ e.num ≤ s.last
  b0 : 0 ≤ s.base
  bl : s.base ≤ s.last
theorem HS.Wf.nd {s : HS} (h : s.Wf) : (keysA s.recs).Nodup := by
  rw [h.eq]
  exact foldR_nodup _ h.ndo
theorem wf_new : HS.new.Wf := ⟨List.Pairwise.nil, trivial, rfl, List.Pairwise.nil, (fun e h => nomatch h), Int.le_refl _, Int.le_refl _⟩
/-- what is at most n is a first part -/
theorem filter_take (n : Int) : ∀ {l : List Evt}, l.Pairwise (fun a b => a.num ≤ b.num) → ∃ k, (l.filter fun e => decide (e.num ≤ n)) = l.take k
  | [], _ => ⟨0, rfl⟩
  | e :: r, h => by
    obtain ⟨h1, h2⟩ := List.pairwise_cons.mp h
    by_cases he : e.num ≤ n
    · obtain ⟨k, hk⟩ := filter_take n h2
      refine ⟨k + 1, ?_⟩
      rw [List.filter_cons, if_pos (by simpa using he), hk]
      rfl
    · refine ⟨0, ?_⟩
      rw [List.filter_cons, if_neg (by simpa using he)]
      show _ = []
      refine List.filter_eq_nil_iff.mpr fun x hx => ?_
      have := h1 x hx
      simp
      omega
theorem chain_take {rs : Recs} {l : List Evt} (h : Chain rs l) (k : Nat) : Chain rs (l.take k) := by
  rw [← List.take_append_drop k l] at h
  exact (chain_append.mp h).1
theorem HS.Wf.ok {s : HS} (h : s.Wf) : s.logOk := fun n pre e post hs => by
  obtain ⟨k, hk⟩ := filter_take n h.sorted
  have hc := chain_take h.chain k
  rw [← hk, hs] at hc
  exact chain_at hc
theorem chain_deeds {rs : Recs} (n : Int) : ∀ {ds : List Deed}, (ds.map Deed.key).Nodup → (∀ k, Deed.drop k ∈ ds → hasR rs k = true) → Chain rs (ds.map fun d => ⟨n, d⟩)
  | [], _, _ => trivial
  | d :: r, hn, hd => by
    have hn' : (d.key :: r.map Deed.key).Nodup := hn
    obtain ⟨h1, h2⟩ := List.nodup_cons.mp hn'
    refine ⟨fun k e => hd k (by rw [← show d = .drop k from e]; exact List.mem_cons_self), ?_⟩
    have ih := chain_deeds (rs := changeR rs ⟨n, d⟩) n h2 fun k hk => by
      rw [hasR_changeR (fun e => h1 (by
        rw [show d.key = k from e]
        exact List.mem_map.mpr ⟨_, hk, rfl⟩))]
      exact hd k (List.mem_cons_of_mem _ hk)
    exact ih
theorem foldl_map_ev (n : Int) (ds : List Deed) (rs : Recs) : (ds.map fun d => (⟨n, d⟩ : Evt)).foldl changeR rs = ds.foldl (fun rs d => changeR rs ⟨n, d⟩) rs := List.foldl_map ..
theorem wf_write {s : HS} (h : s.Wf) {ds : List Deed} (hn : (ds.map Deed.key).Nodup) : (s.write ds).Wf := by
  unfold HS.write
  dsimp only
  by_cases hr : realD s.recs ds = []
  · rw [if_pos hr]
    exact h
  · rw [if_neg hr]
    refine ⟨h.ndo, ?_, ?_, ?_, ?_, h.b0, ?_⟩
    · refine chain_append.mpr ⟨h.chain, ?_⟩
      rw [← h.eq]
      exact chain_deeds _ (real_nodup hn) fun k hk => real_drop hk
    · show _ = (s.log ++ _).foldl changeR s.old
      rw [List.foldl_append, ← h.eq, foldl_map_ev]
    · refine List.pairwise_append.mpr ⟨h.sorted, ?_, ?_⟩
      · refine List.pairwise_map.mpr (List.pairwise_of_forall fun a b => Int.le_refl _)
      · intro a ha b hb
        obtain ⟨d, _, rfl⟩ := List.mem_map.mp hb
        have := (h.bnd a ha).2
        show a.num ≤ s.last + 1
        omega
    · intro e he
      rcases List.mem_append.mp he with he | he
      · have := h.bnd e he
        exact ⟨this.1, by show _ ≤ s.last + 1; omega⟩
      · obtain ⟨d, _, rfl⟩ := List.mem_map.mp he
        have := h.bl
        exact ⟨by show s.base < s.last + 1; omega, Int.le_refl _⟩
    · have := h.bl
      show s.base ≤ s.last + 1
      omega
theorem write_log_len (s : HS) (ds : List Deed) : (s.write ds).log.length ≤ s.log.length + ds.length := by
  unfold HS.write
  dsimp only
  split
  · exact Nat.le_add_right _ _
  · show (s.log ++ _).length ≤ _
    rw [List.length_append, List.length_map]
    exact Nat.add_le_add_left (List.length_filter_le _ _) _
theorem write_recs_len (s : HS) (ds : List Deed) : (s.write ds).recs.length ≤ s.recs.length + ds.length := by
  unfold HS.write
  dsimp only
  split
  · exact Nat.le_add_right _ _
  · have h1 := foldC_len (s.last + 1) (realD s.recs ds) s.recs
    have h2 : (realD s.recs ds).length ≤ ds.length := List.length_filter_le _ _
    show ((realD s.recs ds).foldl (fun rs d => changeR rs ⟨s.last + 1, d⟩) s.recs).length ≤ _
    omega
theorem write_same (s : HS) (ds : List Deed) : (s.write ds).old = s.old ∧ (s.write ds).base = s.base ∧ (s.write ds).ends = s.ends ∧ (s.write ds).granted = s.granted ∧ (s.write ds).now = s.now ∧ (s.write ds).spans = s.spans ∧ (s.write ds).cut = s.cut := by
  unfold HS.write
  dsimp only
  split
  · exact ⟨rfl, rfl, rfl, rfl, rfl, rfl, rfl⟩
  · exact ⟨rfl, rfl, rfl, rfl, rfl, rfl, rfl⟩
end KW

/-! what stands apart from a house; calls in a row -/
namespace KW
open PySem PySem.Spec PyProof.Rows L2 Evl
theorem Keep.out {F F' : List Addr} {H H' : Hp} {b : Addr} {o : HO} (k : Keep F F' H H') (h : H b = some o) (n : b ∉ F) : b ∉ F' := fun z => (k.fr b z).elim n fun q => by rw [h] at q; cases q
def ScrO (K : PySem.W.Frag) (F : List Addr) (H : Hp) (a : Addr) (ns : List Int) : Prop := ((∃ o, Out F H a (.frz o (.lst (ns.map V.int)))) ∨ SqL K (fun _ => none) a (ns.map V.int)) ∧ ns.length ≤ 63
theorem ScrO.scr {K : PySem.W.Frag} {F : List Addr} {H : Hp} {a : Addr} {ns : List Int} (h : ScrO K F H a ns) : Scr K H a ns := by
  refine ⟨?_, h.2⟩
  rcases h.1 with ⟨o, h⟩ | h
  · exact .inl ⟨o, h.1⟩
  · exact .inr h
theorem ScrO.keep {K : PySem.W.Frag} {F F' : List Addr} {H H' : Hp} {a : Addr} {ns : List Int} (h : ScrO K F H a ns) (k : Keep F F' H H') : ScrO K F' H' a ns := by
  refine ⟨?_, h.2⟩
  rcases h.1 with ⟨o, h⟩ | h
  · exact .inl ⟨o, h.keep k⟩
  · exact .inr h
theorem Scr.out {K : PySem.W.Frag} {F : List Addr} {H : Hp} {a : Addr} {ns : List Int} (h : Scr K H a ns) (n : ∀ o, H a = some o → a ∉ F) : ScrO K F H a ns := by
  refine ⟨?_, h.2⟩
  rcases h.1 with ⟨o, h⟩ | h
  · exact .inl ⟨o, h, n _ h⟩
  · exact .inr h
/-- records that stand apart -/
structure RecsO (F : List Addr) (H : Hp) (d : Addr) (rs : Recs) : Prop where
  at_ : RecsAt H d rs
  out : d ∉ F
theorem RecsO.keep {F F' : List Addr} {H H' : Hp} {d : Addr} {rs : Recs} (h : RecsO F H d rs) (k : Keep F F' H H') : RecsO F' H' d rs := by
  obtain ⟨es, h1, h2⟩ := h.at_
  exact ⟨⟨es, k.kp _ _ h1 h.out, pr_mono h2 fun a b q => ⟨q.1, RecV.kt k.kt q.2⟩⟩, k.out h1 h.out⟩
section
variable {K : PySem.W.Frag} {σ : L2.St} {H : Hp} {te : TE} {ta : TA} {sp : Sp} {dvs vs : List V} {m : Str} {E : XK} {D : Ends} {tw : TS} {p : Addr} {s : HS} {z : HCell} {i : Nat}
theorem seq_meth (he : Ev te σ H (.ref p)) (hh : HouseAt (clsHouse K) H p s z) (hm : m ∈ houseMeths)
    (h : EvA ta σ H vs) (k : ∀ H1, Ex H H1 → sp (.ref p :: (vs ++ dvs)) H1 (fun v H2 => tw D (σ.set i (some v)) H2) E) : tSeq (tAsg (tMeth (clsHouse K) m sp dvs E te ta) (gName i)) tw D σ H := meth_call he hh hm h k
/-- a house is made -/
theorem seq_new (k : ∀ p z H', HouseAt (clsHouse K) H' p HS.new z → Keep [] (z.fp p) H H' → tw D (σ.set i (some (.ref p))) H') : tSeq (tAsg (tMake (clsHouse K) (sp_h_init K) [] E tNil) (gName i)) tw D σ H := by
  intro x dx nx ndx ne
  refine ⟨x, dx, rfl, upd_same, fun H' z hh kk => ⟨rfl, k x z H' hh ⟨fun b o hb _ => ?_, fun b hb => ?_, fun b xs hb => ?_⟩⟩⟩
  · refine kk.kp b o ?_ fun q => ne_of_none hb nx (by simpa using q)
    rw [upd_ne (ne_of_none hb nx), upd_ne (ne_of_none hb ndx)]
    exact hb
  · refine .inr ?_
    rcases kk.fr b hb with q | q
    · rw [show b = x by simpa using q]
      exact nx
    · by_cases e1 : b = x
      · rw [e1]
        exact nx
      · rw [upd_ne e1] at q
        by_cases e2 : b = dx
        · rw [e2]
          exact ndx
        · rw [upd_ne e2] at q
          exact q
  · refine kk.kt b xs ?_
    rw [upd_ne (ne_of_none hb nx), upd_ne (ne_of_none hb ndx)]
    exact hb
end
/-! ### records and rows as data -/
def recD (r : Rec) : PyData := .tuple ((recVs r).map flatD)
def recOD : Option Rec → PyData
  | none => .none
  | some r => recD r
theorem rec_flat (r : Rec) : (recVs r).all isFlat = true := by
  obtain ⟨a, b, c, d, l⟩ := r
  cases l <;> rfl
theorem dp_rec {K : PySem.W.Frag} {H : Hp} {v : V} {r : Rec} (h : RecV H v r) : Dp K H v (recD r) := by
  obtain ⟨a, rfl, h⟩ := h
  exact .tup (st_of h) (dp_flats (rec_flat r))
theorem dp_recO {K : PySem.W.Frag} {H : Hp} {v : V} {r : Option Rec} (h : recOV H v r) : Dp K H v (recOD r) := by
  cases r with
  | none =>
    rw [show v = .non from h]
    exact .non
  | some r => exact dp_rec h
theorem plain_rec (r : Rec) : (recD r).plain = true := plain_flats _
theorem depth_rec (r : Rec) : (recD r).depth = 1 := by
  show PyData.depthAll _ + 1 = 1
  rw [depth_flats]
theorem plain_recO (r : Option Rec) : (recOD r).plain = true := by
  cases r with
  | none => rfl
  | some r => exact plain_rec r
theorem depth_recO (r : Option Rec) : (recOD r).depth ≤ 60 := by
  cases r with
  | none => exact Nat.zero_le _
  | some r =>
    show (recD r).depth ≤ 60
    rw [depth_rec]
    decide
def rowD (p : Str × Rec) : PyData := .tuple [.str p.1, recD p.2]
theorem dp_row {K : PySem.W.Frag} {H : Hp} {v : V} {p : Str × Rec} (h : RowV H v p) : Dp K H v (rowD p) := by
  obtain ⟨w, ⟨a, rfl, h1⟩, h2⟩ := h
  exact .tup (st_of h1) (.cons (.str _) (.cons (dp_rec h2) .nil))
theorem dp_rows {K : PySem.W.Frag} {H : Hp} : ∀ {vs : List V} {ps : Recs}, Paired (RowV H) vs ps → DpAll K H vs (ps.map rowD)
  | _, _, .nil => .nil
  | _, _, .cons r t => .cons (dp_row r) (dp_rows t)
theorem plain_rows : ∀ ps : Recs, PyData.plainAll (ps.map rowD) = true
  | [] => rfl
  | p :: r => by
    rw [List.map_cons, PyData.plainAll, plain_rows r]
    show ((true && ((recD p.2).plain && true)) && true) = true
    rw [plain_rec]
    rfl
theorem depth_rows : ∀ ps : Recs, PyData.depthAll (ps.map rowD) ≤ 2
  | [] => Nat.zero_le _
  | p :: r => by
    rw [List.map_cons, PyData.depthAll]
    refine Nat.max_le.mpr ⟨?_, depth_rows r⟩
    show max 0 (max (recD p.2).depth 0) + 1 ≤ 2
    rw [depth_rec]
    decide
theorem dp_rowsAt {K : PySem.W.Frag} {H : Hp} {l : Addr} {ps : Recs} (h : RowsAt H l ps) : Dp K H (.ref l) (.list (ps.map rowD)) := by
  obtain ⟨vs, h1, h2⟩ := h
  exact .lst (sq_of h1) (dp_rows h2)
mutual
theorem dp_ex {K : PySem.W.Frag} {H H' : Hp} (e : Ex H H') : ∀ {v : V} {d : PyData}, Dp K H v d → Dp K H' v d
  | _, _, .non => .non
  | _, _, .bl b => .bl b
  | _, _, .int i => .int i
  | _, _, .str x => .str x
  | _, _, .lst h t => .lst (ex_l e h) (dpAll_ex e t)
  | _, _, .tup h t => .tup (ex_t e h) (dpAll_ex e t)
theorem dpAll_ex {K : PySem.W.Frag} {H H' : Hp} (e : Ex H H') : ∀ {v : List V} {d : List PyData}, DpAll K H v d → DpAll K H' v d
  | _, _, .nil => .nil
  | _, _, .cons h t => .cons (dp_ex e h) (dpAll_ex e t)
end
section
variable {K : PySem.W.Frag} {σ : L2.St} {H : Hp} {ta tb te td ty : TE} {p : Addr} {s : HS} {z : HCell} {E : XK} {k : Str}
theorem ev_eqPP {d e : PyData} (ha : EvP ta σ H (fun H v => Dp K H v d)) (hb : EvP tb σ H (fun H v => Dp K H v e)) (pd : d.plain = true) (pe : e.plain = true) (dd : d.depth ≤ 60) : Ev (tOp (rEqP K) ta tb) σ H (.bl (PyData.eqv d e)) := fun H1 e1 Q q =>
  ha H1 e1 _ fun x H2 e2 hx => hb H2 (e1.trans e2) _ fun y H3 e3 hy => ⟨d, e, dp_ex e3 hx, hy, pd, pe, dd, q H3 (e2.trans e3)⟩
theorem ev_nePP {d e : PyData} (ha : EvP ta σ H (fun H v => Dp K H v d)) (hb : EvP tb σ H (fun H v => Dp K H v e)) (pd : d.plain = true) (pe : e.plain = true) (dd : d.depth ≤ 60) : Ev (tOp (rNeP K) ta tb) σ H (.bl (!PyData.eqv d e)) := fun H1 e1 Q q =>
  ha H1 e1 _ fun x H2 e2 hx => hb H2 (e1.trans e2) _ fun y H3 e3 hy => ⟨d, e, dp_ex e3 hx, hy, pd, pe, dd, q H3 (e2.trans e3)⟩
theorem EvP.imp {P R : Hp → V → Prop} (h : EvP te σ H P) (f : ∀ H v, P H v → R H v) : EvP te σ H R := fun H1 e Q q => h H1 e Q fun v H2 e2 hp => q v H2 e2 (f H2 v hp)
theorem ev_number (he : Ev te σ H (.ref p)) (hh : HouseAt (clsHouse K) H p s z) : Ev (tMeth (clsHouse K) "number" (sp_h_number K) [] E te tNil) σ H (.int s.last) := fun H1 e1 Q q =>
  meth_call (he.mono e1) (hh.ex e1) (by decide +kernel) ea_nil fun H2 e2 => ⟨p, s, z, rfl, hh.ex (e1.trans e2), q H2 e2⟩
theorem at_last (s : HS) : s.at s.last = s.recs := by
  unfold HS.at
  rw [if_pos rfl]
theorem evp_look (he : Ev te σ H (.ref p)) (hh : HouseAt (clsHouse K) H p s z) (hk : Ev ta σ H (.str k)) (hkey : isKey k = true) (wf : s.Wf) (hs : s.log.length + s.old.length ≤ 50000) : EvP (tMeth (clsHouse K) "look" (sp_h_look K) [.non] E te (tCons ta tNil)) σ H (fun H v => recOV H v (lookR s.recs k)) := fun H1 e1 Q q =>
  meth_call (he.mono e1) (hh.ex e1) (by decide +kernel) (ea_cons (hk.mono e1) ea_nil) fun H2 e2 => ⟨p, s, z, k, none, rfl, hh.ex (e1.trans e2), hkey, wf.ok, hs, fun H3 e3 => ⟨(fun ⟨j, hj, _⟩ => nomatch hj), (fun ⟨j, hj, _⟩ => nomatch hj), fun _ v hv => by
    rw [show s.at (numV s none) = s.recs from at_last s] at hv
    exact q v H3 (e2.trans e3) hv⟩⟩
theorem evp_get1 {d : Addr} {rs : Recs} (hd : Ev td σ H (.ref d)) (ha : Ev ty σ H (.str k)) (h : RecsAt H d rs) : EvP (tDGet1 td ty) σ H (fun H v => recOV H v (lookR rs k)) := fun H1 e Q q =>
  hd H1 e _ fun H2 e2 => by
    have h2 := h.ex (e.trans e2)
    have h0 := h2
    obtain ⟨es, g1, g2⟩ := h0
    refine ⟨d, rfl, .inl ⟨es, .inl g1⟩, ha H2 (e.trans e2) _ fun H3 e3 => ?_⟩
    rcases dget_recs (h2.ex e3) k with ⟨v, r, g, l, hr⟩ | ⟨g, l⟩
    · exact ⟨some v, g, q v H3 (e2.trans e3) (by rw [l]; exact hr)⟩
    · exact ⟨none, g, q .non H3 (e2.trans e3) (by rw [l]; exact rfl)⟩
theorem evp_rows {a b : Str} (he : Ev te σ H (.ref p)) (hh : HouseAt (clsHouse K) H p s z) (h1 : Ev ta σ H (.str a)) (h2 : Ev tb σ H (.str b)) (ka : isKey a = true) (kb : isKey b = true) (wf : s.Wf) (hs : s.log.length + s.old.length ≤ 50000) (hr : s.recs.length < 64) :
    EvLP (tMeth (clsHouse K) "rows" (sp_h_rows K) [.non] E te (tCons ta (tCons tb tNil))) σ H RowV (spanRows s.recs a b) := fun H1 e1 Q q =>
  meth_call (he.mono e1) (hh.ex e1) (by decide +kernel) (ea_cons (h1.mono e1) (ea_cons (h2.mono e1) ea_nil)) fun H2 e2 => ⟨p, s, z, a, b, none, rfl, hh.ex (e1.trans e2), ka, kb, wf.ok, hs,
    by rw [show s.at (numV s none) = s.recs from at_last s]; exact wf.nd, by rw [show s.at (numV s none) = s.recs from at_last s]; exact hr, fun H3 e3 => ⟨(fun ⟨j, hj, _⟩ => nomatch hj), (fun ⟨j, hj, _⟩ => nomatch hj), fun _ l hl hv => by
      rw [show s.at (numV s none) = s.recs from at_last s] at hv
      exact q l H3 (fresh_back e2 hl) (e2.trans e3) hv⟩⟩
theorem evp_lrows {d : Addr} {rs : Recs} {a b : Str} (hd : Ev td σ H (.ref d)) (h1 : Ev ta σ H (.str a)) (h2 : Ev tb σ H (.str b)) (h : RecsAt H d rs) (hn : (keysA rs).Nodup) (hl : rs.length < 64) : EvLP (tCall (sp_l_rows K) [] E (tCons td (tCons ta (tCons tb tNil)))) σ H RowV (spanRows rs a b) := fun H1 e1 Q q =>
  (ea_cons hd (ea_cons h1 (ea_cons h2 ea_nil))) H1 e1 _ fun H2 e2 => ⟨d, rs, a, b, rfl, h.ex (e1.trans e2), hn, hl, fun H3 l e3 hl hr => q l H3 (fresh_back e2 hl) (e2.trans e3) hr⟩
end
end KW

/-! readings, printed by mkT.py -/
namespace KW
open PySem PySem.Spec PyProof.Rows L2 Evl
def t_law (K : PySem.W.Frag) : TS := (tSeq (tAsg (tCall (sp_l_keys K) [] E0 (tCons (tVar 0) (tCons (tC (.int 20)) tNil))) (gName 1))
  (tSeq (tAsg (tMake (clsHouse K) (sp_h_init K) [] E0 tNil) (gName 2))
  (tSeq (tAsg tDNewK (gName 3))
  (tSeq (tAsg (tC (.int 0)) (gName 4))
  (tSeq (tFor (iRng1 (tCons (tCall (sp_l_mixed K) [] E0 (tCons (tVar 0) (tCons (tC (.int 0)) (tCons (tC (.int 13)) tNil)))) tNil)) (gName 5)
  (tSeq (tAsg (tOp (rIxL K) (tVar 1) (tCall (sp_l_mixed K) [] E0 (tCons (tVar 0) (tCons (tOp rAddI (tC (.int 200)) (tOp rMulI (tC (.int 4)) (tVar 5))) (tCons (tC (.int 5)) tNil))))) (gName 6))
  (tSeq (tIfS (tTest (tOp rEq (tCall (sp_l_mixed K) [] E0 (tCons (tVar 0) (tCons (tOp rAddI (tC (.int 201)) (tOp rMulI (tC (.int 4)) (tVar 5))) (tCons (tC (.int 3)) tNil)))) (tC (.int 0)))) (tSeq (tAsg (tMeth (clsHouse K) "drop" (sp_h_drop K) [] E0 (tVar 2) (tCons (tVar 6) tNil)) (gName 7))
  (tSeq (tIfS (tOr (tTest (tOp rNe (tVar 7) (tDIn (tVar 6) (tVar 3)))) (tNot (tB (tCB (rIsi K) (tCons (tVar 7) (tCons (tC (.ty "bool")) tNil)))))) (tRet (tC (.bl false))) tNext)
  (tSeq (tAsg (tOp rAddI (tVar 4) (tCB rInt1 (tCons (tVar 7) tNil))) (gName 4))
  (tDrop (tDPop2 (tVar 3) (tVar 6) (tC .non)))))) (tSeq (tAsg (tCall (sp_l_mixed K) [] E0 (tCons (tVar 0) (tCons (tOp rAddI (tC (.int 202)) (tOp rMulI (tC (.int 4)) (tVar 5))) (tCons (tC (.int 10000)) tNil)))) (gName 8))
  (tSeq (tAsg (tOp rAddI (tVar 4) (tC (.int 1))) (gName 4))
  (tSeq (tAsg (tDGet2 (tVar 3) (tVar 6) (tTup (tCons (tC (.int 0)) (tCons (tVar 4) (tCons (tC (.int 0)) (tCons (tC (.int 0)) (tCons (tC .non) tNil))))))) (gName 9))
  (tSeq (sDPut (tVar 3) (tVar 6) (tTup (tCons (tVar 8) (tCons (tOp (rIxT K) (tVar 9) (tC (.int 1))) (tCons (tVar 4) (tCons (tOp rAddI (tOp (rIxT K) (tVar 9) (tC (.int 3))) (tC (.int 1))) (tCons (tC .non) tNil)))))))
  (tIfS (tTest (tOp rNe (tMeth (clsHouse K) "put" (sp_h_put K) [.non] E0 (tVar 2) (tCons (tVar 6) (tCons (tVar 8) tNil))) (tVar 4))) (tRet (tC (.bl false))) tNext))))))
  (tIfS (tOr (tTest (tOp rNe (tMeth (clsHouse K) "number" (sp_h_number K) [] E0 (tVar 2) tNil) (tVar 4))) (tTest (tOp (rNeP K) (tMeth (clsHouse K) "look" (sp_h_look K) [.non] E0 (tVar 2) (tCons (tVar 6) tNil)) (tDGet1 (tVar 3) (tVar 6))))) (tRet (tC (.bl false))) tNext))))
  (tSeq (tAsg (tCall (sp_l_span K) [] E0 (tCons (tVar 0) (tCons (tC (.int 2)) (tCons (tVar 1) tNil)))) (gTup K 2 (gCons (gName 10) (gCons (gName 11) gNil))))
  (tRet (tOp (rEqP K) (tMeth (clsHouse K) "rows" (sp_h_rows K) [.non] E0 (tVar 2) (tCons (tVar 10) (tCons (tVar 11) tNil))) (tCall (sp_l_rows K) [] E0 (tCons (tVar 3) (tCons (tVar 10) (tCons (tVar 11) tNil))))))))))))
abbrev N_law : List Str := ["script", "keys", "house", "records", "number", "k", "key", "there", "value", "old", "first", "last"]
end KW

/-! the law k01: puts and drops -/
namespace KW
open PySem PySem.Spec PyProof.Rows L2 Evl
theorem wr_drop (s : HS) (k : Str) : s.write [.drop k] = if hasR s.recs k = true then { s with last := s.last + 1, log := s.log ++ [⟨s.last + 1, .drop k⟩], recs := dropR s.recs k } else s := by
  have e : realD s.recs [.drop k] = if hasR s.recs k = true then [.drop k] else [] := by
    unfold realD
    rw [List.filter_cons]
    show (if (false || hasR s.recs k) = true then _ else _) = _
    rw [Bool.false_or]
    rfl
  unfold HS.write
  dsimp only
  rw [e]
  by_cases h : hasR s.recs k = true
  · rw [if_pos h, if_pos h, if_neg (by simp)]
    rfl
  · rw [if_neg h, if_neg h, if_pos rfl]
theorem wr_put (s : HS) (k : Str) (v : Int) (l : Option Int) : s.write [.put k v l] = { s with last := s.last + 1, log := s.log ++ [⟨s.last + 1, .put k v l⟩], recs := putR s.recs k (newRec s.recs (s.last + 1) k v l) } := by
  unfold HS.write
  dsimp only
  rw [write_put, if_neg (by simp)]
  rfl
section
variable {K : PySem.W.Frag} {vs : List V} {H : Hp} {Q : VK} {E : XK}
/-- between two turns -/
structure Inv1 (K : PySem.W.Frag) (ns : List Int) (keys : List Str) (a l p d : Addr) (i : Nat) (s : HS) (z : HCell) (H : Hp) : Prop where
  hh : HouseAt (clsHouse K) H p s z
  scr : ScrO K (z.fp p) H a ns
  keys : Out (z.fp p) H l (.lst (keys.map V.str))
  recs : RecsO (z.fp p) H d s.recs
  ld : l ≠ d
  wf : s.Wf
  ll : s.log.length ≤ i
  rl : s.recs.length ≤ i
  lo : s.old = []
  il : i ≤ 100
theorem Inv1.sz {ns : List Int} {keys : List Str} {a l p d : Addr} {i : Nat} {s : HS} {z : HCell} {H : Hp} (h : Inv1 K ns keys a l p d i s z H) : s.log.length + s.old.length ≤ 50000 := by
  have h1 := h.ll
  have h2 := h.il
  rw [h.lo]
  simp
  omega
theorem Inv1.ex {ns : List Int} {keys : List Str} {a l p d : Addr} {i : Nat} {s : HS} {z : HCell} {H H' : Hp} (h : Inv1 K ns keys a l p d i s z H) (e : Ex H H') : Inv1 K ns keys a l p d i s z H' :=
  ⟨h.hh.ex e, h.scr.keep (Keep.ex e), h.keys.keep (Keep.ex e), h.recs.keep (Keep.ex e), h.ld, h.wf, h.ll, h.rl, h.lo, h.il⟩
theorem Inv1.small {ns : List Int} {keys : List Str} {a l p d : Addr} {i : Nat} {s : HS} {z : HCell} {H : Hp} (h : Inv1 K ns keys a l p d i s z H) : s.small 1 := by
  have hi := h.il
  have h1 := h.ll
  have h2 := h.rl
  exact ⟨by omega, by omega⟩
/-- the asking at a turn's end, and what stands behind it -/
theorem chk1 (HC : HCls K) {ns : List Int} {keys : List Str} {a l p d : Addr} {i : Nat} {s : HS} {z : HCell} {H : Hp} {D : Ends} {σ : L2.St} {k : Str} (h : Inv1 K ns keys a l p d i s z H) (hk : isKey k = true)
    (s2 : σ[2]? = some (some (.ref p))) (s3 : σ[3]? = some (some (.ref d))) (s4 : σ[4]? = some (some (.int s.last))) (s6 : σ[6]? = some (some (.str k)))
    (q : ∀ H', Inv1 K ns keys a l p d i s z H' → D.nx σ H') :
    (tIfS (tOr (tTest (tOp rNe (tMeth (clsHouse K) "number" (sp_h_number K) [] E0 (tVar 2) tNil) (tVar 4))) (tTest (tOp (rNeP K) (tMeth (clsHouse K) "look" (sp_h_look K) [.non] E0 (tVar 2) (tCons (tVar 6) tNil)) (tDGet1 (tVar 3) (tVar 6))))) (tRet (tC (.bl false))) tNext) D σ H := by
  have hsz := h.sz
  refine alw_here (alw_if (et_or (et_test (ev_neI (ev_number (ev_var s2) h.hh) (ev_var s4))) fun _ => et_test (ev_nePP (EvP.imp (evp_look (ev_var s2) h.hh (ev_var s6) hk h.wf hsz) fun H v hv => dp_recO hv) (EvP.imp (evp_get1 (ev_var s3) (ev_var s6) h.recs.at_) fun H v hv => dp_recO hv) (plain_recO _) (plain_recO _) (depth_recO _))) (fun hb => ?_) fun hb => alw_next fun H1 e1 => q H1 (h.ex e1))
  rw [PySem.SeqAt.eqv_refl_plain _ (plain_recO _)] at hb
  simp at hb
/-- a pop that may find nothing -/
theorem pop2_recs {σ : L2.St} {D : Ends} {td ty : TE} {d : Addr} {rs : Recs} {k : Str} (hd : Ev td σ H (.ref d)) (ha : Ev ty σ H (.str k)) (h : RecsAt H d rs)
    (q : ∀ H1 H', Ex H H1 → Keep1 d H1 H' → Kt H1 H' → RecsAt H' d (dropR rs k) → D.nx σ H') : tDrop (tDPop2 td ty (tC .non)) D σ H :=
  hd H (Ex.refl H) _ fun H2 e2 => by
    have h2 := h.ex e2
    have h0 := h2
    obtain ⟨es, g1, g2⟩ := h0
    refine ⟨d, rfl, .inl ⟨es, .inl g1⟩, ha H2 e2 _ fun H3 e3 => ?_⟩
    obtain ⟨es, g1, g2⟩ := h2.ex e3
    refine ⟨es, Sum.inr k, g1, rfl, fun v hv => ?_, fun hn => ?_⟩
    · exact q H3 _ (e2.trans e3) (keep1_upd (Ex.refl H3)) ((Kt.refl H3).upd (ne_tup_of g1 fun xs z => by cases z)) (recs_drop (H' := H3) g1 g2)
    · refine q H3 H3 (e2.trans e3) (fun b o _ h => h) (Kt.refl _) ?_
      rcases val_of inr_inj g2 k with ⟨v, r, z1, z2, z3⟩ | ⟨z1, z2⟩
      · rw [hn] at z1
        cases z1
      · have : dropR rs k = rs := by
          have hk := lookA_none.mp z2
          exact List.filter_eq_self.mpr fun p hp => by
            simp
            exact fun e => hk (by rw [← e]; exact List.mem_map.mpr ⟨p, hp, rfl⟩)
        rw [this]
        exact ⟨es, g1, g2⟩
def oldVs (n : Int) : Option Rec → List V
  | some r => recVs r
  | none => [.int 0, .int n, .int 0, .int 0, .non]
theorem evp_get2 {σ : L2.St} {td ty tn : TE} {d : Addr} {rs : Recs} {k : Str} {n : Int} (hd : Ev td σ H (.ref d)) (ha : Ev ty σ H (.str k)) (hn : Ev tn σ H (.int n)) (h : RecsAt H d rs) :
    EvP (tDGet2 td ty (tTup (tCons (tC (.int 0)) (tCons tn (tCons (tC (.int 0)) (tCons (tC (.int 0)) (tCons (tC .non) tNil))))))) σ H (fun H v => TAt H v (oldVs n (lookR rs k))) := fun H1 e Q q =>
  hd H1 e _ fun H2 e2 => by
    have h2 := h.ex (e.trans e2)
    have h0 := h2
    obtain ⟨es, g1, g2⟩ := h0
    refine ⟨d, rfl, .inl ⟨es, .inl g1⟩, ha H2 (e.trans e2) _ fun H3 e3 => ?_⟩
    refine hn H3 ((e.trans e2).trans e3) _ fun H4 e4 => ⟨(show 5 ≤ sizeLine by decide), fun t ht => ?_⟩
    rcases dget_recs (h2.ex ((e3.trans e4).trans (Ex.new ht))) k with ⟨v, r, g, l, hr⟩ | ⟨g, l⟩
    · exact ⟨some v, g, q v _ (((e2.trans e3).trans e4).trans (Ex.new ht)) (by rw [l]; exact hr)⟩
    · exact ⟨none, g, q (.ref t) _ (((e2.trans e3).trans e4).trans (Ex.new ht)) (by rw [l]; exact ⟨t, rfl, upd_same⟩)⟩
/-- records[k] = a new tuple -/
theorem put_recs {σ : L2.St} {D : Ends} {td ty te : TE} {d : Addr} {rs : Recs} {k : Str} {r : Rec} {tw : TS} (hd : Ev td σ H (.ref d)) (ha : Ev ty σ H (.str k)) (hu : EvU te σ H (recVs r)) (h : RecsAt H d rs) (hl : rs.length ≤ 100000)
    (q : ∀ H1 H', Ex H H1 → Keep1 d H1 H' → Kt H1 H' → RecsAt H' d (putR rs k r) → tw D σ H') : tSeq (sDPut td ty te) tw D σ H :=
  hu H (Ex.refl H) _ fun p H1 hp e1 hp1 => hd H1 e1 _ fun H2 e2 => ha H2 (e1.trans e2) _ fun H3 e3 => by
    obtain ⟨es, h1, h2⟩ := h.ex ((e1.trans e2).trans e3)
    have hlen := pr_len h2
    exact ⟨d, _, rfl, .inl ⟨es, Sum.inr k, h1, rfl, Nat.lt_of_le_of_lt (Nat.le_of_eq hlen) (Nat.lt_of_le_of_lt hl (by decide)), rfl⟩, q H3 _ ((e1.trans e2).trans e3) (keep1_upd (Ex.refl H3)) ((Kt.refl H3).upd (ne_tup_of h1 fun xs z => by cases z)) (recs_put (H' := H3) h1 h2 ⟨p, rfl, (e2.trans e3) p _ hp1⟩)⟩
/-- the records of the law alone have changed -/
theorem Inv1.recs_of {ns : List Int} {keys : List Str} {a l p d : Addr} {z : HCell} {H H' : Hp} {s : HS} {rs : Recs} (hh : HouseAt (clsHouse K) H p s z) (scr : ScrO K (z.fp p) H a ns) (ke : Out (z.fp p) H l (.lst (keys.map V.str))) (hd : ∃ es, H d = some (.dK es)) (ho : d ∉ z.fp p) (ld : l ≠ d)
    (k1 : Keep1 d H H') (kt : Kt H H') (hr : RecsAt H' d rs) : HouseAt (clsHouse K) H' p s z ∧ ScrO K (z.fp p) H' a ns ∧ Out (z.fp p) H' l (.lst (keys.map V.str)) ∧ RecsO (z.fp p) H' d rs := by
  refine ⟨hh.move kt fun b hb o h => k1 b o (fun e => ho (by rw [← e]; exact hb)) h, ⟨?_, scr.2⟩, ⟨k1 _ _ ld ke.1, ke.2⟩, ⟨hr, ho⟩⟩
  rcases scr.1 with ⟨o, h⟩ | h
  · refine .inl ⟨o, k1 _ _ (fun e => ?_) h.1, h.2⟩
    obtain ⟨es, hd⟩ := hd
    rw [← e, h.1] at hd
    cases hd
  · exact .inr h
theorem pure_law (HC : HCls K) (h : sp_law K vs H Q E) : t_law K { nx := fun _ H' => Q .non H', rt := Q } (start N_law vs) H := by
  obtain ⟨a, ns, rfl, hs, q⟩ := h
  generalize hkeys : lawKeys ns 20 = keys
  have hklen : keys.length = 5 := by rw [← hkeys]; exact lawKeys_len ns 20
  have hkkey : ∀ x ∈ keys, isKey x = true := by rw [← hkeys]; exact lawKeys_key ns 20
  refine ⟨_, rfl, a, ns, 20, rfl, hs, by decide, fun H1 l e1 hl0 hl1 => ?_⟩
  rw [hkeys] at hl1
  refine seq_new fun p z H2 hh2 k2 => ?_
  intro d hd
  have fpd : d ∉ z.fp p := fun hm => by
    obtain ⟨o, ho⟩ := hh2.some hm
    rw [hd] at ho
    cases ho
  have e2 : ∀ {b : Addr} {o : HO}, H1 b = some o → (upd H2 d (.dK [])) b = some o ∧ b ∉ z.fp p := fun {b o} hb => by
    have h2 := k2.kp b o hb (by simp)
    exact ⟨by rw [upd_ne (ne_of_none h2 hd)]; exact h2, fun hm => (k2.fr b hm).elim (by simp) fun q => by rw [hb] at q; cases q⟩
  have inv0 : Inv1 K ns keys a l p d 0 HS.new z (upd H2 d (.dK [])) := by
    refine ⟨hh2.ex (Ex.new hd), ?_, ⟨(e2 hl1).1, (e2 hl1).2⟩, ⟨⟨[], upd_same, .nil⟩, fpd⟩, ne_of_none (k2.kp l _ hl1 (by simp)) hd, wf_new, Nat.le_refl _, Nat.le_refl _, rfl, by decide⟩
    refine ⟨?_, hs.2⟩
    rcases (hs.ex e1).1 with ⟨o, h⟩ | h
    · exact .inl ⟨o, (e2 h).1, (e2 h).2⟩
    · exact .inr h
  generalize (upd H2 d (.dK [])) = H3 at inv0
  have hm13 := mixed_nn ns 0 (m := 13) (by decide)
  have hm13' := mixed_lt ns 0 (m := 13) (by decide)
  refine alw_here (al_set ev_c (al_forR1 (n := mixed ns 0 13) (ea_cons (ev_mixed (ea_cons (ev_var rfl) (ea_cons ev_c (ea_cons ev_c ea_nil))) inv0.scr.scr (by decide) (by decide)) ea_nil) ⟨hm13, by omega⟩
    (fun i σ' H' => ∃ s z v5 v6 v7 v8 v9 v10 v11, σ' = [some (.ref a), some (.ref l), some (.ref p), some (.ref d), some (.int s.last), v5, v6, v7, v8, v9, v10, v11] ∧ Inv1 K ns keys a l p d i s z H') ?_ ?_ ?_))
  · intro H4 e4
    exact ⟨HS.new, z, none, none, none, none, none, none, none, rfl, inv0.ex e4⟩
  · rintro i σ' H4 hi ⟨s, z, v5, v6, v7, v8, v9, v10, v11, rfl, inv⟩
    have hm5 := mixed_nn ns (200 + 4 * (i : Int)) (m := 5) (by decide)
    have hm5' := mixed_lt ns (200 + 4 * (i : Int)) (m := 5) (by decide)
    generalize hkey : pick keys (mixed ns (200 + 4 * (i : Int)) 5) = key
    have hkk : isKey key = true := by
      rw [← hkey]
      exact hkkey _ (pick_mem hm5 (by rw [hklen]; exact hm5'))
    refine alw_here (al_set (v := .str key) ?_ (al_if (et_test (ev_eqI (ev_mixed (ea_cons (ev_var rfl) (ea_cons (ev_add ev_c (ev_mul ev_c (ev_var rfl) (.inl ⟨by decide, by decide⟩))) (ea_cons ev_c ea_nil))) inv.scr.scr (by omega) (by decide)) ev_c)) (fun hb H5 e5 => ?_) fun hb => ?_))
    · have h1 := ev_ixL (K := K) (σ := [some (.ref a), some (.ref l), some (.ref p), some (.ref d), some (.int s.last), some (.int (i : Int)), v6, v7, v8, v9, v10, v11]) (ta := tVar 1) (ev_var rfl) (ev_mixed (K := K) (E := E0) (ta := tVar 0) (tb := tOp rAddI (tC (.int 200)) (tOp rMulI (tC (.int 4)) (tVar 5))) (tx := tC (.int 5)) (ea_cons (ev_var rfl) (ea_cons (ev_add ev_c (ev_mul ev_c (ev_var rfl) (.inl ⟨by decide, by decide⟩))) (ea_cons ev_c ea_nil))) inv.scr.scr (by omega) (by decide)) (sq_of inv.keys.1) (atI_pick hm5 (by rw [hklen]; exact hm5'))
      rw [hkey] at h1
      exact h1
    · -- a drop
      have inv5 := inv.ex e5
      refine seq_meth (ev_var rfl) inv5.hh (by decide +kernel) (ea_cons (ev_var rfl) ea_nil) fun H6 e6 => ?_
      have inv6 := inv5.ex e6
      refine ⟨p, s, z, key, rfl, inv6.hh, hkk, inv6.small, fun H7 z' hh7 k7 => ?_⟩
      have r7 := inv6.recs.keep k7
      refine alw_here (al_if (et_or (et_test (ev_ne (ev_var rfl) (ev_inD (ev_var rfl) (ev_var rfl) r7.at_) rfl)) fun _ => et_not (et_B (ev_isi (ev_var rfl) (.bl _) (show kitB "bool" "bool" = some true by decide +kernel)))) (fun hc => by simp at hc) fun _ => al_skip (al_set (ev_add (ev_var rfl) (show Ev (tCB rInt1 (tCons (tVar 7) tNil)) _ _ (.int (if hasR s.recs key then 1 else 0)) from fun H8 e8 Q q => ⟨_, rfl, .inr ⟨_, rfl, q H8 (Ex.refl _)⟩⟩)) fun H8 e8 => ?_))
      refine pop2_recs (ev_var rfl) (ev_var rfl) (r7.at_.ex e8) fun H9 H10 e9 k10 kt10 r10 => ?_
      have hh9 := (hh7.ex e8).ex e9
      have e79 := e8.trans e9
      obtain ⟨es7, g7, _⟩ := r7.at_
      obtain ⟨c1, c2, c3, c4⟩ := Inv1.recs_of (rs := dropR s.recs key) hh9 ((inv6.scr.keep k7).keep (Keep.ex e79)) ((inv6.keys.keep k7).keep (Keep.ex e79)) ⟨es7, e79 _ _ g7⟩ r7.out inv.ld k10 kt10 r10
      have hrecs : (s.write [.drop key]).recs = dropR s.recs key := by
        rw [wr_drop]
        split
        · rfl
        · rename_i hn
          have hk : lookA s.recs key = none := Option.not_isSome_iff_eq_none.mp hn
          exact (List.filter_eq_self.mpr fun p hp => by
            simp
            exact fun e => lookA_none.mp hk (by rw [← e]; exact List.mem_map.mpr ⟨p, hp, rfl⟩)).symm
      have hlast : (s.write [.drop key]).last = s.last + (if hasR s.recs key = true then 1 else 0) := by
        rw [wr_drop]
        split
        · rfl
        · simp
      have inv10 : Inv1 K ns keys a l p d (i + 1) (s.write [.drop key]) z' H10 := by
        have w1 := write_log_len s [.drop key]
        have w2 := write_recs_len s [.drop key]
        have h1 := inv.ll
        have h2 := inv.rl
        simp only [List.length_cons, List.length_nil] at w1 w2
        exact ⟨c1, c2, c3, by rw [hrecs]; exact c4, inv.ld, wf_write inv.wf (by simp), by omega, by omega, by rw [(write_same _ _).1]; exact inv.lo, by omega⟩
      rw [← hlast]
      exact chk1 HC inv10 hkk rfl rfl rfl rfl fun H11 inv11 => ⟨_, z', _, _, _, _, _, _, _, rfl, inv11⟩
    · -- a put
      generalize hval : mixed ns (202 + 4 * (i : Int)) 10000 = val
      have hv0 : 0 ≤ val := by rw [← hval]; exact mixed_nn _ _ (by decide)
      have hv1 : val < 10000 := by rw [← hval]; exact mixed_lt _ _ (by decide)
      refine al_set (v := .int val) ?_ (al_set (ev_add (ev_var rfl) ev_c) (al_setP (evp_get2 (ev_var rfl) (ev_var rfl) (ev_var rfl) inv.recs.at_) fun v H5 e5 hv => fun H6 e6 => ?_))
      · rw [← hval]
        exact ev_mixed (ea_cons (ev_var rfl) (ea_cons (ev_add ev_c (ev_mul ev_c (ev_var rfl) (.inl ⟨by decide, by decide⟩))) (ea_cons ev_c ea_nil))) inv.scr.scr (by omega) (by decide)
      · have inv6 := inv.ex (e5.trans e6)
        have hv6 := hv.kt (Ex.kt e6)
        have hnew : EvU (tTup (tCons (tVar 8) (tCons (tOp (rIxT K) (tVar 9) (tC (.int 1))) (tCons (tVar 4) (tCons (tOp rAddI (tOp (rIxT K) (tVar 9) (tC (.int 3))) (tC (.int 1))) (tCons (tC .non) tNil))))))
            [some (.ref a), some (.ref l), some (.ref p), some (.ref d), some (.int (s.last + 1)), some (.int (i : Int)), some (.str key), v7, some (.int val), some v, v10, v11] H6 (recVs (newRec s.recs (s.last + 1) key val none)) := by
          unfold newRec
          cases hlk : lookR s.recs key with
          | none =>
            rw [hlk] at hv6
            exact eu_tup (ea_cons (ev_var rfl) (ea_cons (ev_ixA (ev_var rfl) hv6 ev_c rfl) (ea_cons (ev_var rfl) (ea_cons (ev_is (v := .int (0 + 1)) (ev_add (ev_ixA (ev_var rfl) hv6 ev_c rfl) ev_c) rfl) (ea_cons ev_c ea_nil))))) (show 5 ≤ 100000 by decide)
          | some r =>
            rw [hlk] at hv6
            exact eu_tup (ea_cons (ev_var rfl) (ea_cons (ev_ixA (ev_var rfl) hv6 ev_c rfl) (ea_cons (ev_var rfl) (ea_cons (ev_add (ev_ixA (ev_var rfl) hv6 ev_c rfl) ev_c) (ea_cons ev_c ea_nil))))) (show 5 ≤ 100000 by decide)
        refine put_recs (ev_var rfl) (ev_var rfl) hnew inv6.recs.at_ (by have := inv.rl; have := inv.il; omega) fun H7 H8 e7 k8 kt8 r8 => ?_
        have inv7 := inv6.ex e7
        obtain ⟨es7, g7, _⟩ := inv7.recs.at_
        obtain ⟨c1, c2, c3, c4⟩ := Inv1.recs_of inv7.hh inv7.scr inv7.keys ⟨es7, g7⟩ inv7.recs.out inv.ld k8 kt8 r8
        refine meth_call (ev_var rfl) c1 (by decide +kernel) (ea_cons (ev_var rfl) (ea_cons (ev_var rfl) ea_nil)) fun H9 e9 => ?_
        refine ⟨p, s, z, key, val, none, rfl, c1.ex e9, hkk, hv0, by omega, (fun _ h => nomatch h), inv.small, fun H10 z' hh10 k10 => ?_⟩
        have inv10 : Inv1 K ns keys a l p d (i + 1) (s.write [.put key val none]) z' H10 := by
          have w1 := write_log_len s [.put key val none]
          have w2 := write_recs_len s [.put key val none]
          have h1 := inv.ll
          have h2 := inv.rl
          simp only [List.length_cons, List.length_nil] at w1 w2
          refine ⟨hh10, (c2.keep (Keep.ex e9)).keep k10, (c3.keep (Keep.ex e9)).keep k10, ?_, inv.ld, wf_write inv.wf (by simp), by omega, by omega, by rw [(write_same _ _).1]; exact inv.lo, by omega⟩
          rw [wr_put]
          exact (c4.keep (Keep.ex e9)).keep k10
        refine ⟨_, rfl, rfl, _, rfl, ?_⟩
        have e0 : (!decide (V.int (s.last + 1) = V.int (s.last + 1))) = false := by simp
        dsimp only
        rw [e0, if_neg Bool.false_ne_true]
        have hlast : s.last + 1 = (s.write [.put key val none]).last := (write_put_last s key val none).symm
        rw [hlast]
        exact chk1 HC inv10 hkk rfl rfl rfl rfl fun H11 inv11 => ⟨_, z', _, _, _, _, _, _, _, rfl, inv11⟩
  · rintro σ' H4 ⟨s, z, v5, v6, v7, v8, v9, v10, v11, rfl, inv⟩
    refine ⟨_, rfl, _, rfl, a, ns, 2, l, keys, rfl, inv.scr.scr, by decide, inv.keys.1, by omega, hkkey, fun H5 t e5 ht => ?_⟩
    have inv5 := inv.ex e5
    obtain ⟨k1, k2⟩ := lawSpan_key ns 2 hkkey (by omega)
    refine ⟨t, _, rfl, st_of ht, rfl, _, _, rfl, _, _, rfl, rfl, ?_⟩
    have hrl : s.recs.length < 64 := by have := inv.rl; omega
    refine alw_here (alw_ret (ev_eqPP (EvP.imp (evp_rows (ev_var rfl) inv5.hh (ev_var rfl) (ev_var rfl) k1 k2 inv.wf inv5.sz hrl).p fun H v hv => ?_) (EvP.imp (evp_lrows (ev_var rfl) (ev_var rfl) (ev_var rfl) inv5.recs.at_ inv.wf.nd hrl).p fun H v hv => ?_) (d := .list ((spanRows s.recs (lawSpan ns 2 keys).1 (lawSpan ns 2 keys).2).map rowD)) (e := .list ((spanRows s.recs (lawSpan ns 2 keys).1 (lawSpan ns 2 keys).2).map rowD)) (plain_rows _) (plain_rows _) ?_) fun H6 e6 => ?_)
    · obtain ⟨l', rfl, hl'⟩ := hv
      exact dp_rowsAt hl'
    · obtain ⟨l', rfl, hl'⟩ := hv
      exact dp_rowsAt hl'
    · show PyData.depthAll _ + 1 ≤ 60
      have := depth_rows (spanRows s.recs (lawSpan ns 2 keys).1 (lawSpan ns 2 keys).2)
      omega
    · rw [PySem.SeqAt.eqv_refl_plain _ (show PyData.plain (.list _) = true from plain_rows _)]
      exact q H6
end
end KW
namespace KW
open PySem PySem.Spec PyProof.Rows L2 Evl
/-! the text of the row -/
def top (i : Nat) : Stmt := PySem.Challenge.pw_keywatch_k01_put.main.body.getD i (.Pass ⟨0, 0, 0, 0⟩)
def plainOf' (o : Expr) (env : Env) : Sem Bool := do return (← importBound o env).getD true
abbrev s_is_key : Stmt := top 12
abbrev s_is_whole : Stmt := top 13
abbrev s_is_value : Stmt := top 14
abbrev s_need_key : Stmt := top 15
abbrev s_need_value : Stmt := top 16
abbrev s_is_within : Stmt := top 18
abbrev s_change : Stmt := top 20
abbrev s_in_rows : Stmt := top 21
abbrev s_h_init : Stmt := inClass (top 23) 0
abbrev s_h_write : Stmt := inClass (top 23) 1
abbrev s_h_put : Stmt := inClass (top 23) 2
abbrev s_h_drop : Stmt := inClass (top 23) 3
abbrev s_h_number : Stmt := inClass (top 23) 5
abbrev s_h_records_at : Stmt := inClass (top 23) 7
abbrev s_h_records_when : Stmt := inClass (top 23) 8
abbrev s_h_look : Stmt := inClass (top 23) 9
abbrev s_h_rows : Stmt := inClass (top 23) 10
abbrev s_h_need_lease : Stmt := inClass (top 23) 14
abbrev s_l_cell_at : Stmt := top 25
abbrev s_l_mixed : Stmt := top 26
abbrev s_l_key : Stmt := top 27
abbrev s_l_keys : Stmt := top 28
abbrev s_l_span : Stmt := top 29
abbrev s_l_rows : Stmt := top 30
abbrev s_law : Stmt := top 31
theorem sc_is_key : FnScope ["thing", "sign"] ["thing"] (defScope s_is_key) := ⟨rfl, rfl, rfl, by decide +kernel, rfl, by decide +kernel, by decide +kernel⟩
theorem sc_is_whole : FnScope ["thing", "low"] ["thing", "low"] (defScope s_is_whole) := ⟨rfl, rfl, rfl, by decide +kernel, rfl, by decide +kernel, by decide +kernel⟩
theorem sc_is_value : FnScope ["thing"] ["thing"] (defScope s_is_value) := ⟨rfl, rfl, rfl, by decide +kernel, rfl, by decide +kernel, by decide +kernel⟩
theorem sc_need_key : FnScope ["key"] ["key"] (defScope s_need_key) := ⟨rfl, rfl, rfl, by decide +kernel, rfl, by decide +kernel, by decide +kernel⟩
theorem sc_need_value : FnScope ["value"] ["value"] (defScope s_need_value) := ⟨rfl, rfl, rfl, by decide +kernel, rfl, by decide +kernel, by decide +kernel⟩
theorem sc_is_within : FnScope ["key", "first", "last"] ["key", "first", "last"] (defScope s_is_within) := ⟨rfl, rfl, rfl, by decide +kernel, rfl, by decide +kernel, by decide +kernel⟩
theorem sc_change : FnScope ["records", "event", "number", "kind", "key", "value", "lease"] ["records", "event"] (defScope s_change) := ⟨rfl, rfl, rfl, by decide +kernel, rfl, by decide +kernel, by decide +kernel⟩
theorem sc_in_rows : FnScope ["records", "key"] ["records"] (defScope s_in_rows) := ⟨rfl, rfl, rfl, by decide +kernel, rfl, by decide +kernel, by decide +kernel⟩
theorem sc_h_init : FnScope ["self"] ["self"] (defScope s_h_init) := ⟨rfl, rfl, rfl, by decide +kernel, rfl, by decide +kernel, by decide +kernel⟩
theorem sc_h_write : FnScope ["self", "deeds", "real", "deed", "event"] ["self", "deeds"] (defScope s_h_write) := ⟨rfl, rfl, rfl, by decide +kernel, rfl, by decide +kernel, by decide +kernel⟩
theorem sc_h_put : FnScope ["self", "key", "value", "lease"] ["self", "key", "value", "lease"] (defScope s_h_put) := ⟨rfl, rfl, rfl, by decide +kernel, rfl, by decide +kernel, by decide +kernel⟩
theorem sc_h_drop : FnScope ["self", "key"] ["self", "key"] (defScope s_h_drop) := ⟨rfl, rfl, rfl, by decide +kernel, rfl, by decide +kernel, by decide +kernel⟩
theorem sc_h_number : FnScope ["self"] ["self"] (defScope s_h_number) := ⟨rfl, rfl, rfl, by decide +kernel, rfl, by decide +kernel, by decide +kernel⟩
theorem sc_h_records_at : FnScope ["self", "number", "made", "event"] ["self", "number"] (defScope s_h_records_at) := ⟨rfl, rfl, rfl, by decide +kernel, rfl, by decide +kernel, by decide +kernel⟩
theorem sc_h_records_when : FnScope ["self", "number"] ["self", "number"] (defScope s_h_records_when) := ⟨rfl, rfl, rfl, by decide +kernel, rfl, by decide +kernel, by decide +kernel⟩
theorem sc_h_look : FnScope ["self", "key", "number"] ["self", "key", "number"] (defScope s_h_look) := ⟨rfl, rfl, rfl, by decide +kernel, rfl, by decide +kernel, by decide +kernel⟩
theorem sc_h_rows : FnScope ["self", "first", "last", "number", "row"] ["self", "first", "last", "number"] (defScope s_h_rows) := ⟨rfl, rfl, rfl, by decide +kernel, rfl, by decide +kernel, by decide +kernel⟩
theorem sc_h_need_lease : FnScope ["self", "lease"] ["self", "lease"] (defScope s_h_need_lease) := ⟨rfl, rfl, rfl, by decide +kernel, rfl, by decide +kernel, by decide +kernel⟩
theorem sc_l_cell_at : FnScope ["script", "k"] ["script", "k"] (defScope s_l_cell_at) := ⟨rfl, rfl, rfl, by decide +kernel, rfl, by decide +kernel, by decide +kernel⟩
theorem sc_l_mixed : FnScope ["script", "k", "many", "drawn"] ["script", "k", "many"] (defScope s_l_mixed) := ⟨rfl, rfl, rfl, by decide +kernel, rfl, by decide +kernel, by decide +kernel⟩
theorem sc_l_key : FnScope ["script", "at", "signs", "made", "k"] ["script", "at"] (defScope s_l_key) := ⟨rfl, rfl, rfl, by decide +kernel, rfl, by decide +kernel, by decide +kernel⟩
theorem sc_l_keys : FnScope ["script", "at", "made", "k", "here", "last", "way", "place"] ["script", "at"] (defScope s_l_keys) := ⟨rfl, rfl, rfl, by decide +kernel, rfl, by decide +kernel, by decide +kernel⟩
theorem sc_l_span : FnScope ["script", "at", "keys", "ends"] ["script", "at", "keys"] (defScope s_l_span) := ⟨rfl, rfl, rfl, by decide +kernel, rfl, by decide +kernel, by decide +kernel⟩
theorem sc_l_rows : FnScope ["records", "first", "last", "key"] ["records", "first", "last"] (defScope s_l_rows) := ⟨rfl, rfl, rfl, by decide +kernel, rfl, by decide +kernel, by decide +kernel⟩
theorem sc_law : FnScope ["script", "keys", "house", "records", "number", "k", "key", "there", "value", "old", "first", "last"] ["script"] (defScope s_law) := ⟨rfl, rfl, rfl, by decide +kernel, rfl, by decide +kernel, by decide +kernel⟩
section
variable {P : Program} {w : World} {K : PySem.W.Frag} {mg : Str → Option Value} {base : Heap}
theorem ok_is_key (B : Bi mg) (n_SIGNS : ∃ t, mg "SIGNS" = some (.str "abcdefghijklmnopqrstuvwxyz0123456789/" t)) (n_LONGEST : ∃ t, mg "LONGEST" = some (.int 12 t)) {f : Addr} {fd : FuncData} (F : FunD K "is_key" "is_key" (defArgs s_is_key) (defBody s_is_key) (defScope s_is_key) [] [] f fd) : FnOk P w K mg base CX0 1 f fd ["thing"] (sp_is_key K) := by
  refine FunD.ok (CX := CX0) (k := 0) F sc_is_key (by
    intro vs H Q E h
    first
      | (obtain ⟨_, rfl, _⟩ := h; rfl)
      | (obtain ⟨_, _, rfl, _⟩ := h; rfl)
      | (obtain ⟨_, _, _, rfl, _⟩ := h; rfl)
      | (obtain ⟨_, _, _, _, rfl, _⟩ := h; rfl)
      | (obtain ⟨_, _, _, _, _, rfl, _⟩ := h; rfl)
      | (obtain ⟨_, _, _, _, _, _, rfl, _⟩ := h; rfl)
      | (obtain ⟨_, _, _, _, _, _, _, rfl, _⟩ := h; rfl)
      | (obtain ⟨_, _, _, _, _, _, _, _, rfl, _⟩ := h; rfl)
      | (obtain ⟨_, _, _, _, _, _, _, _, _, rfl, _⟩ := h; rfl)
      | (obtain ⟨_, _, _, _, _, _, _, _, _, _, rfl, _⟩ := h; rfl)
      | (obtain ⟨_, _, _, _, _, _, _, _, _, _, _, rfl, _⟩ := h; rfl)) (fun cdv A outer s H vs Q E hr h => ⟨t_is_key K, PSs.nox ?_, pure_is_key h⟩)
  exact (pss_one (ps_ret (pe_and (pe_callB call_isi (by rfl) B.isinstance (by decide +kernel) (pa_cons (pv 0) (pa_cons (pe_bltn (v := .ty "str") (by rfl) B.str (by decide +kernel) rfl) pa_nil))) (pe_and (pe_chain op_le op_le pe_int (pe_callB call_len_str1 (by rfl) B.len (by decide +kernel) (pa_cons (pv 0) pa_nil)) (pe_gi n_LONGEST (by rfl))) (pe_one (pe_callB (cr_all rfl) (by rfl) B.all (by decide +kernel) (pa_cons (pe_lc (own := [("sign", 1)]) (g := (gName 1)) (tt := tYes) rfl sc_is_key.nd (pi_str (pv 0)) (blkOk_by (own := [("sign", 1)]) (N := ["thing", "sign"]) (sc := defScope s_is_key) (by decide +kernel)) (fun _ _ _ _ _ => (pg_name (i := 1) sc_is_key.nd rfl (by first | exact Or.inl rfl | exact Or.inr rfl))) (fun _ _ _ _ _ => pts_nil) (fun _ _ _ _ _ => (pe_cmpR op_inS (pv 1) (pe_gs n_SIGNS (by rfl)) rfl))) pa_nil)))))))
theorem ok_is_whole (B : Bi mg) {f : Addr} {fd : FuncData} (F : FunD K "is_whole" "is_whole" (defArgs s_is_whole) (defBody s_is_whole) (defScope s_is_whole) [] [] f fd) : FnOk P w K mg base CX0 1 f fd ["thing", "low"] (sp_is_whole K) := by
  refine FunD.ok (CX := CX0) (k := 0) F sc_is_whole (by
    intro vs H Q E h
    first
      | (obtain ⟨_, rfl, _⟩ := h; rfl)
      | (obtain ⟨_, _, rfl, _⟩ := h; rfl)
      | (obtain ⟨_, _, _, rfl, _⟩ := h; rfl)
      | (obtain ⟨_, _, _, _, rfl, _⟩ := h; rfl)
      | (obtain ⟨_, _, _, _, _, rfl, _⟩ := h; rfl)
      | (obtain ⟨_, _, _, _, _, _, rfl, _⟩ := h; rfl)
      | (obtain ⟨_, _, _, _, _, _, _, rfl, _⟩ := h; rfl)
      | (obtain ⟨_, _, _, _, _, _, _, _, rfl, _⟩ := h; rfl)
      | (obtain ⟨_, _, _, _, _, _, _, _, _, rfl, _⟩ := h; rfl)
      | (obtain ⟨_, _, _, _, _, _, _, _, _, _, rfl, _⟩ := h; rfl)
      | (obtain ⟨_, _, _, _, _, _, _, _, _, _, _, rfl, _⟩ := h; rfl)) (fun cdv A outer s H vs Q E hr h => ⟨t_is_whole K, PSs.nox ?_, pure_is_whole h⟩)
  exact (pss_one (ps_ret (pe_and (pe_callB call_isi (by rfl) B.isinstance (by decide +kernel) (pa_cons (pv 0) (pa_cons (pe_bltn (v := .ty "int") (by rfl) B.int (by decide +kernel) rfl) pa_nil))) (pe_and (pe_not (pe_callB call_isi (by rfl) B.isinstance (by decide +kernel) (pa_cons (pv 0) (pa_cons (pe_bltn (v := .ty "bool") (by rfl) B.bool (by decide +kernel) rfl) pa_nil)))) (pe_one (pe_cmpR op_le (pv 1) (pv 0) (nomark _)))))))
theorem ok_is_value (n_MOST : ∃ t, mg "MOST" = some (.int 9999 t)) (c_is_whole : CFn P w K mg base CX0 1 "is_whole" ["thing", "low"] (sp_is_whole K)) {f : Addr} {fd : FuncData} (F : FunD K "is_value" "is_value" (defArgs s_is_value) (defBody s_is_value) (defScope s_is_value) [] [] f fd) : FnOk P w K mg base CX0 2 f fd ["thing"] (sp_is_value K) := by
  refine FunD.ok (CX := CX0) (k := 1) F sc_is_value (by
    intro vs H Q E h
    first
      | (obtain ⟨_, rfl, _⟩ := h; rfl)
      | (obtain ⟨_, _, rfl, _⟩ := h; rfl)
      | (obtain ⟨_, _, _, rfl, _⟩ := h; rfl)
      | (obtain ⟨_, _, _, _, rfl, _⟩ := h; rfl)
      | (obtain ⟨_, _, _, _, _, rfl, _⟩ := h; rfl)
      | (obtain ⟨_, _, _, _, _, _, rfl, _⟩ := h; rfl)
      | (obtain ⟨_, _, _, _, _, _, _, rfl, _⟩ := h; rfl)
      | (obtain ⟨_, _, _, _, _, _, _, _, rfl, _⟩ := h; rfl)
      | (obtain ⟨_, _, _, _, _, _, _, _, _, rfl, _⟩ := h; rfl)
      | (obtain ⟨_, _, _, _, _, _, _, _, _, _, rfl, _⟩ := h; rfl)
      | (obtain ⟨_, _, _, _, _, _, _, _, _, _, _, rfl, _⟩ := h; rfl)) (fun cdv A outer s H vs Q E hr h => ⟨t_is_value K, PSs.nox ?_, pure_is_value h⟩)
  exact (pss_one (ps_ret (pe_and (pe_cf c_is_whole (hr.mono (by decide)) (by rfl) pass0 (pa_cons (pv 0) (pa_cons pe_int pa_nil))) (pe_one (pe_cmpR op_le (pv 0) (pe_gi n_MOST (by rfl)) (nomark _))))))
theorem ok_need_key (x_NoKey : XcOk K mg "NoKey") (c_is_key : CFn P w K mg base CX0 1 "is_key" ["thing"] (sp_is_key K)) {f : Addr} {fd : FuncData} (F : FunD K "need_key" "need_key" (defArgs s_need_key) (defBody s_need_key) (defScope s_need_key) [] [] f fd) : FnOk P w K mg base (L2.CX P w) 2 f fd ["key"] (sp_need_key K) := by
  refine FunD.ok (CX := (L2.CX P w)) (k := 1) F sc_need_key (by
    intro vs H Q E h
    first
      | (obtain ⟨_, rfl, _⟩ := h; rfl)
      | (obtain ⟨_, _, rfl, _⟩ := h; rfl)
      | (obtain ⟨_, _, _, rfl, _⟩ := h; rfl)
      | (obtain ⟨_, _, _, _, rfl, _⟩ := h; rfl)
      | (obtain ⟨_, _, _, _, _, rfl, _⟩ := h; rfl)
      | (obtain ⟨_, _, _, _, _, _, rfl, _⟩ := h; rfl)
      | (obtain ⟨_, _, _, _, _, _, _, rfl, _⟩ := h; rfl)
      | (obtain ⟨_, _, _, _, _, _, _, _, rfl, _⟩ := h; rfl)
      | (obtain ⟨_, _, _, _, _, _, _, _, _, rfl, _⟩ := h; rfl)
      | (obtain ⟨_, _, _, _, _, _, _, _, _, _, rfl, _⟩ := h; rfl)
      | (obtain ⟨_, _, _, _, _, _, _, _, _, _, _, rfl, _⟩ := h; rfl)) (fun cdv A outer s H vs Q E hr h => ⟨t_need_key K E, ?_, pure_need_key h⟩)
  exact (pss_one (ps_if (pt_not (pt_val (pe_cf c_is_key (hr.mono (by decide)) (by rfl) pass0 (pa_cons (pv 0) pa_nil)))) (pss_one (ps_raise rfl (takes_of rfl rfl rfl rfl) (x_NoKey.pmk (by rfl)))) pss_nil))
theorem ok_need_value (x_NoValue : XcOk K mg "NoValue") (c_is_value : CFn P w K mg base CX0 2 "is_value" ["thing"] (sp_is_value K)) {f : Addr} {fd : FuncData} (F : FunD K "need_value" "need_value" (defArgs s_need_value) (defBody s_need_value) (defScope s_need_value) [] [] f fd) : FnOk P w K mg base (L2.CX P w) 3 f fd ["value"] (sp_need_value K) := by
  refine FunD.ok (CX := (L2.CX P w)) (k := 2) F sc_need_value (by
    intro vs H Q E h
    first
      | (obtain ⟨_, rfl, _⟩ := h; rfl)
      | (obtain ⟨_, _, rfl, _⟩ := h; rfl)
      | (obtain ⟨_, _, _, rfl, _⟩ := h; rfl)
      | (obtain ⟨_, _, _, _, rfl, _⟩ := h; rfl)
      | (obtain ⟨_, _, _, _, _, rfl, _⟩ := h; rfl)
      | (obtain ⟨_, _, _, _, _, _, rfl, _⟩ := h; rfl)
      | (obtain ⟨_, _, _, _, _, _, _, rfl, _⟩ := h; rfl)
      | (obtain ⟨_, _, _, _, _, _, _, _, rfl, _⟩ := h; rfl)
      | (obtain ⟨_, _, _, _, _, _, _, _, _, rfl, _⟩ := h; rfl)
      | (obtain ⟨_, _, _, _, _, _, _, _, _, _, rfl, _⟩ := h; rfl)
      | (obtain ⟨_, _, _, _, _, _, _, _, _, _, _, rfl, _⟩ := h; rfl)) (fun cdv A outer s H vs Q E hr h => ⟨t_need_value K E, ?_, pure_need_value h⟩)
  exact (pss_one (ps_if (pt_not (pt_val (pe_cf c_is_value (hr.mono (by decide)) (by rfl) pass0 (pa_cons (pv 0) pa_nil)))) (pss_one (ps_raise rfl (takes_of rfl rfl rfl rfl) (x_NoValue.pmk (by rfl)))) pss_nil))
theorem ok_is_within {f : Addr} {fd : FuncData} (F : FunD K "is_within" "is_within" (defArgs s_is_within) (defBody s_is_within) (defScope s_is_within) [] [] f fd) : FnOk P w K mg base CX0 1 f fd ["key", "first", "last"] (sp_is_within K) := by
  refine FunD.ok (CX := CX0) (k := 0) F sc_is_within (by
    intro vs H Q E h
    first
      | (obtain ⟨_, rfl, _⟩ := h; rfl)
      | (obtain ⟨_, _, rfl, _⟩ := h; rfl)
      | (obtain ⟨_, _, _, rfl, _⟩ := h; rfl)
      | (obtain ⟨_, _, _, _, rfl, _⟩ := h; rfl)
      | (obtain ⟨_, _, _, _, _, rfl, _⟩ := h; rfl)
      | (obtain ⟨_, _, _, _, _, _, rfl, _⟩ := h; rfl)
      | (obtain ⟨_, _, _, _, _, _, _, rfl, _⟩ := h; rfl)
      | (obtain ⟨_, _, _, _, _, _, _, _, rfl, _⟩ := h; rfl)
      | (obtain ⟨_, _, _, _, _, _, _, _, _, rfl, _⟩ := h; rfl)
      | (obtain ⟨_, _, _, _, _, _, _, _, _, _, rfl, _⟩ := h; rfl)
      | (obtain ⟨_, _, _, _, _, _, _, _, _, _, _, rfl, _⟩ := h; rfl)) (fun cdv A outer s H vs Q E hr h => ⟨t_is_within K, PSs.nox ?_, pure_is_within h⟩)
  exact (pss_one (ps_ret (pe_chain op_leS op_leS (pv 1) (pv 0) (pv 2))))
theorem ok_change {f : Addr} {fd : FuncData} (F : FunD K "change" "change" (defArgs s_change) (defBody s_change) (defScope s_change) [] [] f fd) : FnOk P w K mg base CX0 1 f fd ["records", "event"] (sp_change K) := by
  refine FunD.ok (CX := CX0) (k := 0) F sc_change (by
    intro vs H Q E h
    first
      | (obtain ⟨_, rfl, _⟩ := h; rfl)
      | (obtain ⟨_, _, rfl, _⟩ := h; rfl)
      | (obtain ⟨_, _, _, rfl, _⟩ := h; rfl)
      | (obtain ⟨_, _, _, _, rfl, _⟩ := h; rfl)
      | (obtain ⟨_, _, _, _, _, rfl, _⟩ := h; rfl)
      | (obtain ⟨_, _, _, _, _, _, rfl, _⟩ := h; rfl)
      | (obtain ⟨_, _, _, _, _, _, _, rfl, _⟩ := h; rfl)
      | (obtain ⟨_, _, _, _, _, _, _, _, rfl, _⟩ := h; rfl)
      | (obtain ⟨_, _, _, _, _, _, _, _, _, rfl, _⟩ := h; rfl)
      | (obtain ⟨_, _, _, _, _, _, _, _, _, _, rfl, _⟩ := h; rfl)
      | (obtain ⟨_, _, _, _, _, _, _, _, _, _, _, rfl, _⟩ := h; rfl)) (fun cdv A outer s H vs Q E hr h => ⟨t_change K, PSs.nox ?_, pure_change h⟩)
  exact (pss_cons (ps_asg (pv 1) (pg_tup rfl (pgs_cons (pg_name (i := 2) sc_change.nd rfl (by first | exact Or.inl rfl | exact Or.inr rfl)) (pgs_cons (pg_name (i := 3) sc_change.nd rfl (by first | exact Or.inl rfl | exact Or.inr rfl)) (pgs_cons (pg_name (i := 4) sc_change.nd rfl (by first | exact Or.inl rfl | exact Or.inr rfl)) (pgs_cons (pg_name (i := 5) sc_change.nd rfl (by first | exact Or.inl rfl | exact Or.inr rfl)) (pgs_cons (pg_name (i := 6) sc_change.nd rfl (by first | exact Or.inl rfl | exact Or.inr rfl)) pgs_nil)))))))
  (pss_one (ps_if (pt_cmpR op_eq (pv 3) pe_str (nomark _)) (pss_one (ps_expr (pe_dpop1 (pv 0) (pv 4) (by constructor <;> rfl)))) (pss_one (ps_if (pt_cmp (pc_din (hu_of hr) (pv 4) (pv 0))) (pss_one (ps_dput (hu_of hr) (pv 0) (pv 4) (pe_tup (pa_cons (pv 5) (pa_cons (pe_ix ix_tup (pe_dget (hu_of hr) (pv 0) (pv 4) (fun _ _ => rfl)) pe_int (fun _ _ => rfl)) (pa_cons (pv 2) (pa_cons (pe_op op_add (pe_ix ix_tup (pe_dget (hu_of hr) (pv 0) (pv 4) (fun _ _ => rfl)) pe_int (fun _ _ => rfl)) pe_int) (pa_cons (pv 6) pa_nil)))))) rfl)) (pss_one (ps_dput (hu_of hr) (pv 0) (pv 4) (pe_tup (pa_cons (pv 5) (pa_cons (pv 2) (pa_cons (pv 2) (pa_cons pe_int (pa_cons (pv 6) pa_nil)))))) rfl)))))))
theorem ok_in_rows (B : Bi mg) {f : Addr} {fd : FuncData} (F : FunD K "in_rows" "in_rows" (defArgs s_in_rows) (defBody s_in_rows) (defScope s_in_rows) [] [] f fd) : FnOk P w K mg base CX0 1 f fd ["records"] (sp_in_rows K) := by
  refine FunD.ok (CX := CX0) (k := 0) F sc_in_rows (by
    intro vs H Q E h
    first
      | (obtain ⟨_, rfl, _⟩ := h; rfl)
      | (obtain ⟨_, _, rfl, _⟩ := h; rfl)
      | (obtain ⟨_, _, _, rfl, _⟩ := h; rfl)
      | (obtain ⟨_, _, _, _, rfl, _⟩ := h; rfl)
      | (obtain ⟨_, _, _, _, _, rfl, _⟩ := h; rfl)
      | (obtain ⟨_, _, _, _, _, _, rfl, _⟩ := h; rfl)
      | (obtain ⟨_, _, _, _, _, _, _, rfl, _⟩ := h; rfl)
      | (obtain ⟨_, _, _, _, _, _, _, _, rfl, _⟩ := h; rfl)
      | (obtain ⟨_, _, _, _, _, _, _, _, _, rfl, _⟩ := h; rfl)
      | (obtain ⟨_, _, _, _, _, _, _, _, _, _, rfl, _⟩ := h; rfl)
      | (obtain ⟨_, _, _, _, _, _, _, _, _, _, _, rfl, _⟩ := h; rfl)) (fun cdv A outer s H vs Q E hr h => ⟨t_in_rows K, PSs.nox ?_, pure_in_rows h⟩)
  exact (pss_one (ps_ret (pe_lc (own := [("key", 1)]) (g := (gName 1)) (tt := tYes) rfl sc_in_rows.nd (pi_list (pe_callB cr_sortedS (by rfl) B.sorted (by decide +kernel) (pa_cons (pe_callTy (call_list_dK rfl) (by rfl) B.list (by decide +kernel) (pa_cons (pv 0) pa_nil)) pa_nil))) (blkOk_by (own := [("key", 1)]) (N := ["records", "key"]) (sc := defScope s_in_rows) (by decide +kernel)) (fun _ _ _ _ _ => (pg_name (i := 1) sc_in_rows.nd rfl (by first | exact Or.inl rfl | exact Or.inr rfl))) (fun _ _ _ _ _ => pts_nil) (fun _ _ _ _ _ => (pe_tup (pa_cons (pv 1) (pa_cons (pe_dget (hu_of hr) (pv 0) (pv 1) (fun _ _ => rfl)) pa_nil)))))))
theorem ok_h_init (HC : HCls K) {f : Addr} {fd : FuncData} (F : FunD K "__init__" "House.__init__" (defArgs s_h_init) (defBody s_h_init) (defScope s_h_init) [] [] f fd) : FnOk P w K mg base CX0 1 f fd ["self"] (sp_h_init K) := by
  refine FunD.ok (CX := CX0) (k := 0) F sc_h_init (by
    intro vs H Q E h
    first
      | (obtain ⟨_, rfl, _⟩ := h; rfl)
      | (obtain ⟨_, _, rfl, _⟩ := h; rfl)
      | (obtain ⟨_, _, _, rfl, _⟩ := h; rfl)
      | (obtain ⟨_, _, _, _, rfl, _⟩ := h; rfl)
      | (obtain ⟨_, _, _, _, _, rfl, _⟩ := h; rfl)
      | (obtain ⟨_, _, _, _, _, _, rfl, _⟩ := h; rfl)
      | (obtain ⟨_, _, _, _, _, _, _, rfl, _⟩ := h; rfl)
      | (obtain ⟨_, _, _, _, _, _, _, _, rfl, _⟩ := h; rfl)
      | (obtain ⟨_, _, _, _, _, _, _, _, _, rfl, _⟩ := h; rfl)
      | (obtain ⟨_, _, _, _, _, _, _, _, _, _, rfl, _⟩ := h; rfl)
      | (obtain ⟨_, _, _, _, _, _, _, _, _, _, _, rfl, _⟩ := h; rfl)) (fun cdv A outer s H vs Q E hr h => ⟨t_h_init K, PSs.nox ?_, pure_h_init HC h⟩)
  exact (pss_cons (ps_fld (pv 0) pe_dnewK rfl)
  (pss_cons (ps_fld (pv 0) pe_dnewK rfl)
  (pss_cons (ps_fld (pv 0) (pe_lst pa_nil) rfl)
  (pss_cons (ps_fld (pv 0) pe_int rfl)
  (pss_cons (ps_fld (pv 0) pe_int rfl)
  (pss_cons (ps_fld (pv 0) pe_dnewK rfl)
  (pss_cons (ps_fld (pv 0) pe_int rfl)
  (pss_cons (ps_fld (pv 0) pe_int rfl)
  (pss_cons (ps_fld (pv 0) (pe_lst pa_nil) rfl)
  (pss_one (ps_fld (pv 0) pe_dnewK rfl)))))))))))
theorem ok_h_write (B : Bi mg) (HC : HCls K) (c_change : CFn P w K mg base CX0 1 "change" ["records", "event"] (sp_change K)) {f : Addr} {fd : FuncData} (F : FunD K "write" "House.write" (defArgs s_h_write) (defBody s_h_write) (defScope s_h_write) [] [] f fd) : FnOk P w K mg base CX0 2 f fd ["self", "deeds"] (sp_h_write K) := by
  refine FunD.ok (CX := CX0) (k := 1) F sc_h_write (by
    intro vs H Q E h
    first
      | (obtain ⟨_, rfl, _⟩ := h; rfl)
      | (obtain ⟨_, _, rfl, _⟩ := h; rfl)
      | (obtain ⟨_, _, _, rfl, _⟩ := h; rfl)
      | (obtain ⟨_, _, _, _, rfl, _⟩ := h; rfl)
      | (obtain ⟨_, _, _, _, _, rfl, _⟩ := h; rfl)
      | (obtain ⟨_, _, _, _, _, _, rfl, _⟩ := h; rfl)
      | (obtain ⟨_, _, _, _, _, _, _, rfl, _⟩ := h; rfl)
      | (obtain ⟨_, _, _, _, _, _, _, _, rfl, _⟩ := h; rfl)
      | (obtain ⟨_, _, _, _, _, _, _, _, _, rfl, _⟩ := h; rfl)
      | (obtain ⟨_, _, _, _, _, _, _, _, _, _, rfl, _⟩ := h; rfl)
      | (obtain ⟨_, _, _, _, _, _, _, _, _, _, _, rfl, _⟩ := h; rfl)) (fun cdv A outer s H vs Q E hr h => ⟨t_h_write K, PSs.nox ?_, pure_h_write HC h⟩)
  exact (pss_cons (ps_setLc (i := 2) (own := [("deed", 3)]) (g := (gName 3)) (tt := (tOr (tTest (tOp rEq (tOp (rIxT K) (tVar 3) (tC (.int 0))) (tC (.str "put")))) (tB (tDIn (tOp (rIxT K) (tVar 3) (tC (.int 1))) (tFld K (tVar 0) "records"))))) rfl sc_h_write.nd rfl rfl (sw_true rfl rfl rfl (by decide +kernel)) (pi_seq (pv 1)) (blkOk_by (own := [("deed", 3)]) (N := ["self", "deeds", "real", "deed", "event"]) (sc := defScope s_h_write) (by decide +kernel)) (fun _ _ _ _ _ => (pg_name (i := 3) sc_h_write.nd rfl (by first | exact Or.inl rfl | exact Or.inr rfl))) (fun _ _ _ _ _ => (pts_one (PW.pt (pw_or (pt_cmpR op_eq (pe_ix ix_tup (pv 3) pe_int (fun _ _ => rfl)) pe_str (nomark _)) (pw_or1 (pt_cmp (pc_din (hu_of hr) (pe_ix ix_tup (pv 3) pe_int (fun _ _ => rfl)) (pe_fld (pv 0) rfl)))))))) (fun _ _ _ _ _ => (pv 3)))
  (pss_cons (ps_if (pt_cmpR (op_neP hr.units) (pv 2) (pe_lst pa_nil) (nomark _)) (pss_one (ps_fld (pv 0) (pe_op op_add (pe_fld (pv 0) rfl) pe_int) rfl)) pss_nil)
  (pss_cons (ps_for PassesOwn.never rfl (pi_list (pv 2)) (pg_name (i := 3) sc_h_write.nd rfl (by first | exact Or.inl rfl | exact Or.inr rfl))
  (pss_cons (ps_set (i := 4) sc_h_write.nd rfl (by first | exact Or.inl rfl | exact Or.inr rfl) (pe_op op_catA (pe_op op_catA (pe_tup (pa_cons (pe_fld (pv 0) rfl) pa_nil)) (pv 3)) (pe_op op_rep01 (pe_tup (pa_cons pe_non (pa_cons pe_non pa_nil))) (pe_callTy call_int1a (by rfl) B.int (by decide +kernel) (pa_cons (pe_cmpR op_eq (pe_ix ix_tup (pv 3) pe_int (fun _ _ => rfl)) pe_str (nomark _)) pa_nil)))))
  (pss_cons (ps_expr (pe_bm PySem.F.plainAttrs_list PySem.F.slot_list_append PySem.F.type_list_append mt_append (pe_fld (pv 0) rfl) (pa_cons (pv 4) pa_nil)))
  (pss_one (ps_expr (pe_cf c_change (hr.mono (by decide)) (by rfl) pass0 (pa_cons (pe_fld (pv 0) rfl) (pa_cons (pv 4) pa_nil))))))))
  (pss_one (ps_ret (pe_cmpR (op_neP hr.units) (pv 2) (pe_lst pa_nil) (nomark _)))))))
theorem ok_h_put (HC : HCls K) (c_need_key : CFn P w K mg base (L2.CX P w) 2 "need_key" ["key"] (sp_need_key K)) (c_need_value : CFn P w K mg base (L2.CX P w) 3 "need_value" ["value"] (sp_need_value K)) (m_h_need_lease : CMn P w K mg base (L2.CX P w) 2 (clsHouse K) "need_lease" ["self", "lease"] [] (sp_h_need_lease K)) (m_h_write : CMn P w K mg base CX0 2 (clsHouse K) "write" ["self", "deeds"] [] (sp_h_write K)) {f : Addr} {fd : FuncData} (F : FunD K "put" "House.put" (defArgs s_h_put) (defBody s_h_put) (defScope s_h_put) [.non] [] f fd) : FnOk P w K mg base (L2.CX P w) 4 f fd ["self", "key", "value", "lease"] (sp_h_put K) := by
  refine FunD.ok (CX := (L2.CX P w)) (k := 3) F sc_h_put (by
    intro vs H Q E h
    first
      | (obtain ⟨_, rfl, _⟩ := h; rfl)
      | (obtain ⟨_, _, rfl, _⟩ := h; rfl)
      | (obtain ⟨_, _, _, rfl, _⟩ := h; rfl)
      | (obtain ⟨_, _, _, _, rfl, _⟩ := h; rfl)
      | (obtain ⟨_, _, _, _, _, rfl, _⟩ := h; rfl)
      | (obtain ⟨_, _, _, _, _, _, rfl, _⟩ := h; rfl)
      | (obtain ⟨_, _, _, _, _, _, _, rfl, _⟩ := h; rfl)
      | (obtain ⟨_, _, _, _, _, _, _, _, rfl, _⟩ := h; rfl)
      | (obtain ⟨_, _, _, _, _, _, _, _, _, rfl, _⟩ := h; rfl)
      | (obtain ⟨_, _, _, _, _, _, _, _, _, _, rfl, _⟩ := h; rfl)
      | (obtain ⟨_, _, _, _, _, _, _, _, _, _, _, rfl, _⟩ := h; rfl)) (fun cdv A outer s H vs Q E hr h => ⟨t_h_put K E, ?_, pure_h_put HC h⟩)
  exact (pss_cons (ps_expr (pe_cf c_need_key (hr.mono (by decide)) (by rfl) (passE (takes_of rfl rfl rfl rfl)) (pa_cons (pv 1) pa_nil)))
  (pss_cons (ps_expr (pe_cf c_need_value (hr.mono (by decide)) (by rfl) (passE (takes_of rfl rfl rfl rfl)) (pa_cons (pv 2) pa_nil)))
  (pss_cons (ps_if (pt_cmpR op_notN1 (pv 3) pe_non (nomark _)) (pss_one (ps_expr (pe_cm (pl := plainOf' _ _) (pv 0) HC.Housecl m_h_need_lease (hr.mono (by decide)) (passE (takes_of rfl rfl rfl rfl)) (pa_cons (pv 3) pa_nil)))) pss_nil)
  (pss_cons (ps_expr (pe_cm (pl := plainOf' _ _) (pv 0) HC.Housecl m_h_write (hr.mono (by decide)) pass0 (pa_cons (pe_lst (pa_cons (pe_tup (pa_cons pe_str (pa_cons (pv 1) (pa_cons (pv 2) (pa_cons (pv 3) pa_nil))))) pa_nil)) pa_nil)))
  (pss_one (ps_ret (pe_fld (pv 0) rfl)))))))
theorem ok_h_drop (HC : HCls K) (c_need_key : CFn P w K mg base (L2.CX P w) 2 "need_key" ["key"] (sp_need_key K)) (m_h_write : CMn P w K mg base CX0 2 (clsHouse K) "write" ["self", "deeds"] [] (sp_h_write K)) {f : Addr} {fd : FuncData} (F : FunD K "drop" "House.drop" (defArgs s_h_drop) (defBody s_h_drop) (defScope s_h_drop) [] [] f fd) : FnOk P w K mg base (L2.CX P w) 3 f fd ["self", "key"] (sp_h_drop K) := by
  refine FunD.ok (CX := (L2.CX P w)) (k := 2) F sc_h_drop (by
    intro vs H Q E h
    first
      | (obtain ⟨_, rfl, _⟩ := h; rfl)
      | (obtain ⟨_, _, rfl, _⟩ := h; rfl)
      | (obtain ⟨_, _, _, rfl, _⟩ := h; rfl)
      | (obtain ⟨_, _, _, _, rfl, _⟩ := h; rfl)
      | (obtain ⟨_, _, _, _, _, rfl, _⟩ := h; rfl)
      | (obtain ⟨_, _, _, _, _, _, rfl, _⟩ := h; rfl)
      | (obtain ⟨_, _, _, _, _, _, _, rfl, _⟩ := h; rfl)
      | (obtain ⟨_, _, _, _, _, _, _, _, rfl, _⟩ := h; rfl)
      | (obtain ⟨_, _, _, _, _, _, _, _, _, rfl, _⟩ := h; rfl)
      | (obtain ⟨_, _, _, _, _, _, _, _, _, _, rfl, _⟩ := h; rfl)
      | (obtain ⟨_, _, _, _, _, _, _, _, _, _, _, rfl, _⟩ := h; rfl)) (fun cdv A outer s H vs Q E hr h => ⟨t_h_drop K E, ?_, pure_h_drop HC h⟩)
  exact (pss_cons (ps_expr (pe_cf c_need_key (hr.mono (by decide)) (by rfl) (passE (takes_of rfl rfl rfl rfl)) (pa_cons (pv 1) pa_nil)))
  (pss_one (ps_ret (pe_cm (pl := plainOf' _ _) (pv 0) HC.Housecl m_h_write (hr.mono (by decide)) pass0 (pa_cons (pe_lst (pa_cons (pe_tup (pa_cons pe_str (pa_cons (pv 1) pa_nil))) pa_nil)) pa_nil)))))
theorem ok_h_number (HC : HCls K) {f : Addr} {fd : FuncData} (F : FunD K "number" "House.number" (defArgs s_h_number) (defBody s_h_number) (defScope s_h_number) [] [] f fd) : FnOk P w K mg base CX0 1 f fd ["self"] (sp_h_number K) := by
  refine FunD.ok (CX := CX0) (k := 0) F sc_h_number (by
    intro vs H Q E h
    first
      | (obtain ⟨_, rfl, _⟩ := h; rfl)
      | (obtain ⟨_, _, rfl, _⟩ := h; rfl)
      | (obtain ⟨_, _, _, rfl, _⟩ := h; rfl)
      | (obtain ⟨_, _, _, _, rfl, _⟩ := h; rfl)
      | (obtain ⟨_, _, _, _, _, rfl, _⟩ := h; rfl)
      | (obtain ⟨_, _, _, _, _, _, rfl, _⟩ := h; rfl)
      | (obtain ⟨_, _, _, _, _, _, _, rfl, _⟩ := h; rfl)
      | (obtain ⟨_, _, _, _, _, _, _, _, rfl, _⟩ := h; rfl)
      | (obtain ⟨_, _, _, _, _, _, _, _, _, rfl, _⟩ := h; rfl)
      | (obtain ⟨_, _, _, _, _, _, _, _, _, _, rfl, _⟩ := h; rfl)
      | (obtain ⟨_, _, _, _, _, _, _, _, _, _, _, rfl, _⟩ := h; rfl)) (fun cdv A outer s H vs Q E hr h => ⟨t_h_number K, PSs.nox ?_, pure_h_number HC h⟩)
  exact (pss_one (ps_ret (pe_fld (pv 0) rfl)))
theorem ok_h_records_at (B : Bi mg) (HC : HCls K) (c_change : CFn P w K mg base CX0 1 "change" ["records", "event"] (sp_change K)) {f : Addr} {fd : FuncData} (F : FunD K "records_at" "House.records_at" (defArgs s_h_records_at) (defBody s_h_records_at) (defScope s_h_records_at) [] [] f fd) : FnOk P w K mg base CX0 2 f fd ["self", "number"] (sp_h_records_at K) := by
  refine FunD.ok (CX := CX0) (k := 1) F sc_h_records_at (by
    intro vs H Q E h
    first
      | (obtain ⟨_, rfl, _⟩ := h; rfl)
      | (obtain ⟨_, _, rfl, _⟩ := h; rfl)
      | (obtain ⟨_, _, _, rfl, _⟩ := h; rfl)
      | (obtain ⟨_, _, _, _, rfl, _⟩ := h; rfl)
      | (obtain ⟨_, _, _, _, _, rfl, _⟩ := h; rfl)
      | (obtain ⟨_, _, _, _, _, _, rfl, _⟩ := h; rfl)
      | (obtain ⟨_, _, _, _, _, _, _, rfl, _⟩ := h; rfl)
      | (obtain ⟨_, _, _, _, _, _, _, _, rfl, _⟩ := h; rfl)
      | (obtain ⟨_, _, _, _, _, _, _, _, _, rfl, _⟩ := h; rfl)
      | (obtain ⟨_, _, _, _, _, _, _, _, _, _, rfl, _⟩ := h; rfl)
      | (obtain ⟨_, _, _, _, _, _, _, _, _, _, _, rfl, _⟩ := h; rfl)) (fun cdv A outer s H vs Q E hr h => ⟨t_h_records_at K, PSs.nox ?_, pure_h_records_at HC h⟩)
  exact (pss_cons (ps_if (pt_cmpR op_eq (pv 1) (pe_fld (pv 0) rfl) (nomark _)) (pss_one (ps_ret (pe_fld (pv 0) rfl))) pss_nil)
  (pss_cons (ps_set (i := 2) sc_h_records_at.nd rfl (by first | exact Or.inl rfl | exact Or.inr rfl) (pe_callTy call_dictD1 (by rfl) B.dict (by decide +kernel) (pa_cons (pe_fld (pv 0) rfl) pa_nil)))
  (pss_cons (ps_for PassesOwn.never rfl (pi_list (pe_fld (pv 0) rfl)) (pg_name (i := 3) sc_h_records_at.nd rfl (by first | exact Or.inl rfl | exact Or.inr rfl))
  (pss_one (ps_if (pt_cmpR op_le (pe_ix ix_tup (pv 3) pe_int (fun _ _ => rfl)) (pv 1) (nomark _)) (pss_one (ps_expr (pe_cf c_change (hr.mono (by decide)) (by rfl) pass0 (pa_cons (pv 2) (pa_cons (pv 3) pa_nil))))) pss_nil)))
  (pss_one (ps_ret (pv 2))))))
theorem ok_h_records_when (HC : HCls K) (x_NoNumber : XcOk K mg "NoNumber") (x_Folded : XcOk K mg "Folded") (c_is_whole : CFn P w K mg base CX0 1 "is_whole" ["thing", "low"] (sp_is_whole K)) (m_h_records_at : CMn P w K mg base CX0 2 (clsHouse K) "records_at" ["self", "number"] [] (sp_h_records_at K)) {f : Addr} {fd : FuncData} (F : FunD K "records_when" "House.records_when" (defArgs s_h_records_when) (defBody s_h_records_when) (defScope s_h_records_when) [] [] f fd) : FnOk P w K mg base (L2.CX P w) 3 f fd ["self", "number"] (sp_h_records_when K) := by
  refine FunD.ok (CX := (L2.CX P w)) (k := 2) F sc_h_records_when (by
    intro vs H Q E h
    first
      | (obtain ⟨_, rfl, _⟩ := h; rfl)
      | (obtain ⟨_, _, rfl, _⟩ := h; rfl)
      | (obtain ⟨_, _, _, rfl, _⟩ := h; rfl)
      | (obtain ⟨_, _, _, _, rfl, _⟩ := h; rfl)
      | (obtain ⟨_, _, _, _, _, rfl, _⟩ := h; rfl)
      | (obtain ⟨_, _, _, _, _, _, rfl, _⟩ := h; rfl)
      | (obtain ⟨_, _, _, _, _, _, _, rfl, _⟩ := h; rfl)
      | (obtain ⟨_, _, _, _, _, _, _, _, rfl, _⟩ := h; rfl)
      | (obtain ⟨_, _, _, _, _, _, _, _, _, rfl, _⟩ := h; rfl)
      | (obtain ⟨_, _, _, _, _, _, _, _, _, _, rfl, _⟩ := h; rfl)
      | (obtain ⟨_, _, _, _, _, _, _, _, _, _, _, rfl, _⟩ := h; rfl)) (fun cdv A outer s H vs Q E hr h => ⟨t_h_records_when K E, ?_, pure_h_records_when HC h⟩)
  exact (pss_cons (ps_if (pt_cmpR op_isN1 (pv 1) pe_non (nomark _)) (pss_one (ps_ret (pe_fld (pv 0) rfl))) pss_nil)
  (pss_cons (ps_if (PW.pt (pw_or (pt_not (pt_val (pe_cf c_is_whole (hr.mono (by decide)) (by rfl) pass0 (pa_cons (pv 1) (pa_cons pe_int pa_nil))))) (pw_or1 (pt_cmpR op_gt (pv 1) (pe_fld (pv 0) rfl) (nomark _))))) (pss_one (ps_raise rfl (takes_of rfl rfl rfl rfl) (x_NoNumber.pmk (by rfl)))) pss_nil)
  (pss_cons (ps_if (pt_cmpR op_lt (pv 1) (pe_fld (pv 0) rfl) (nomark _)) (pss_one (ps_raise rfl (takes_of rfl rfl rfl rfl) (x_Folded.pmk (by rfl)))) pss_nil)
  (pss_one (ps_ret (pe_cm (pl := plainOf' _ _) (pv 0) HC.Housecl m_h_records_at (hr.mono (by decide)) pass0 (pa_cons (pv 1) pa_nil)))))))
theorem ok_h_look (HC : HCls K) (c_need_key : CFn P w K mg base (L2.CX P w) 2 "need_key" ["key"] (sp_need_key K)) (m_h_records_when : CMn P w K mg base (L2.CX P w) 3 (clsHouse K) "records_when" ["self", "number"] [] (sp_h_records_when K)) {f : Addr} {fd : FuncData} (F : FunD K "look" "House.look" (defArgs s_h_look) (defBody s_h_look) (defScope s_h_look) [.non] [] f fd) : FnOk P w K mg base (L2.CX P w) 4 f fd ["self", "key", "number"] (sp_h_look K) := by
  refine FunD.ok (CX := (L2.CX P w)) (k := 3) F sc_h_look (by
    intro vs H Q E h
    first
      | (obtain ⟨_, rfl, _⟩ := h; rfl)
      | (obtain ⟨_, _, rfl, _⟩ := h; rfl)
      | (obtain ⟨_, _, _, rfl, _⟩ := h; rfl)
      | (obtain ⟨_, _, _, _, rfl, _⟩ := h; rfl)
      | (obtain ⟨_, _, _, _, _, rfl, _⟩ := h; rfl)
      | (obtain ⟨_, _, _, _, _, _, rfl, _⟩ := h; rfl)
      | (obtain ⟨_, _, _, _, _, _, _, rfl, _⟩ := h; rfl)
      | (obtain ⟨_, _, _, _, _, _, _, _, rfl, _⟩ := h; rfl)
      | (obtain ⟨_, _, _, _, _, _, _, _, _, rfl, _⟩ := h; rfl)
      | (obtain ⟨_, _, _, _, _, _, _, _, _, _, rfl, _⟩ := h; rfl)
      | (obtain ⟨_, _, _, _, _, _, _, _, _, _, _, rfl, _⟩ := h; rfl)) (fun cdv A outer s H vs Q E hr h => ⟨t_h_look K E, ?_, pure_h_look HC h⟩)
  exact (pss_cons (ps_expr (pe_cf c_need_key (hr.mono (by decide)) (by rfl) (passE (takes_of rfl rfl rfl rfl)) (pa_cons (pv 1) pa_nil)))
  (pss_one (ps_ret (pe_dget1 (hu_of hr) (pe_cm (pl := plainOf' _ _) (pv 0) HC.Housecl m_h_records_when (hr.mono (by decide)) (passE (takes_of rfl rfl rfl rfl)) (pa_cons (pv 2) pa_nil)) (pv 1) (by constructor <;> rfl)))))
theorem ok_h_rows (HC : HCls K) (c_need_key : CFn P w K mg base (L2.CX P w) 2 "need_key" ["key"] (sp_need_key K)) (c_in_rows : CFn P w K mg base CX0 1 "in_rows" ["records"] (sp_in_rows K)) (m_h_records_when : CMn P w K mg base (L2.CX P w) 3 (clsHouse K) "records_when" ["self", "number"] [] (sp_h_records_when K)) (c_is_within : CFn P w K mg base CX0 1 "is_within" ["key", "first", "last"] (sp_is_within K)) {f : Addr} {fd : FuncData} (F : FunD K "rows" "House.rows" (defArgs s_h_rows) (defBody s_h_rows) (defScope s_h_rows) [.non] [] f fd) : FnOk P w K mg base (L2.CX P w) 4 f fd ["self", "first", "last", "number"] (sp_h_rows K) := by
  refine FunD.ok (CX := (L2.CX P w)) (k := 3) F sc_h_rows (by
    intro vs H Q E h
    first
      | (obtain ⟨_, rfl, _⟩ := h; rfl)
      | (obtain ⟨_, _, rfl, _⟩ := h; rfl)
      | (obtain ⟨_, _, _, rfl, _⟩ := h; rfl)
      | (obtain ⟨_, _, _, _, rfl, _⟩ := h; rfl)
      | (obtain ⟨_, _, _, _, _, rfl, _⟩ := h; rfl)
      | (obtain ⟨_, _, _, _, _, _, rfl, _⟩ := h; rfl)
      | (obtain ⟨_, _, _, _, _, _, _, rfl, _⟩ := h; rfl)
      | (obtain ⟨_, _, _, _, _, _, _, _, rfl, _⟩ := h; rfl)
      | (obtain ⟨_, _, _, _, _, _, _, _, _, rfl, _⟩ := h; rfl)
      | (obtain ⟨_, _, _, _, _, _, _, _, _, _, rfl, _⟩ := h; rfl)
      | (obtain ⟨_, _, _, _, _, _, _, _, _, _, _, rfl, _⟩ := h; rfl)) (fun cdv A outer s H vs Q E hr h => ⟨t_h_rows K E, ?_, pure_h_rows HC h⟩)
  exact (pss_cons (ps_expr (pe_cf c_need_key (hr.mono (by decide)) (by rfl) (passE (takes_of rfl rfl rfl rfl)) (pa_cons (pv 1) pa_nil)))
  (pss_cons (ps_expr (pe_cf c_need_key (hr.mono (by decide)) (by rfl) (passE (takes_of rfl rfl rfl rfl)) (pa_cons (pv 2) pa_nil)))
  (pss_one (ps_ret (pe_lc (own := [("row", 4)]) (g := (gName 4)) (tt := (tB (tCall (sp_is_within K) [] E0 (tCons (tOp (rIxT K) (tVar 4) (tC (.int 0))) (tCons (tVar 1) (tCons (tVar 2) tNil)))))) rfl sc_h_rows.nd (pi_list (pe_cf c_in_rows (hr.mono (by decide)) (by rfl) pass0 (pa_cons (pe_cm (pl := plainOf' _ _) (pv 0) HC.Housecl m_h_records_when (hr.mono (by decide)) (passE (takes_of rfl rfl rfl rfl)) (pa_cons (pv 3) pa_nil)) pa_nil))) (blkOk_by (own := [("row", 4)]) (N := ["self", "first", "last", "number", "row"]) (sc := defScope s_h_rows) (by decide +kernel)) (fun _ _ _ _ _ => (pg_name (i := 4) sc_h_rows.nd rfl (by first | exact Or.inl rfl | exact Or.inr rfl))) (fun _ _ _ _ _ => (pts_one (pt_val (pe_cf c_is_within (hr.mono (by decide)) (by rfl) pass0 (pa_cons (pe_ix ix_tup (pv 4) pe_int (fun _ _ => rfl)) (pa_cons (pv 1) (pa_cons (pv 2) pa_nil))))))) (fun _ _ _ _ _ => (pv 4)))))))
theorem ok_h_need_lease (HC : HCls K) (x_NoLease : XcOk K mg "NoLease") (c_is_whole : CFn P w K mg base CX0 1 "is_whole" ["thing", "low"] (sp_is_whole K)) {f : Addr} {fd : FuncData} (F : FunD K "need_lease" "House.need_lease" (defArgs s_h_need_lease) (defBody s_h_need_lease) (defScope s_h_need_lease) [] [] f fd) : FnOk P w K mg base (L2.CX P w) 2 f fd ["self", "lease"] (sp_h_need_lease K) := by
  refine FunD.ok (CX := (L2.CX P w)) (k := 1) F sc_h_need_lease (by
    intro vs H Q E h
    first
      | (obtain ⟨_, rfl, _⟩ := h; rfl)
      | (obtain ⟨_, _, rfl, _⟩ := h; rfl)
      | (obtain ⟨_, _, _, rfl, _⟩ := h; rfl)
      | (obtain ⟨_, _, _, _, rfl, _⟩ := h; rfl)
      | (obtain ⟨_, _, _, _, _, rfl, _⟩ := h; rfl)
      | (obtain ⟨_, _, _, _, _, _, rfl, _⟩ := h; rfl)
      | (obtain ⟨_, _, _, _, _, _, _, rfl, _⟩ := h; rfl)
      | (obtain ⟨_, _, _, _, _, _, _, _, rfl, _⟩ := h; rfl)
      | (obtain ⟨_, _, _, _, _, _, _, _, _, rfl, _⟩ := h; rfl)
      | (obtain ⟨_, _, _, _, _, _, _, _, _, _, rfl, _⟩ := h; rfl)
      | (obtain ⟨_, _, _, _, _, _, _, _, _, _, _, rfl, _⟩ := h; rfl)) (fun cdv A outer s H vs Q E hr h => ⟨t_h_need_lease K E, ?_, pure_h_need_lease HC h⟩)
  exact (pss_one (ps_if (PW.pt (pw_or (pt_not (pt_val (pe_cf c_is_whole (hr.mono (by decide)) (by rfl) pass0 (pa_cons (pv 1) (pa_cons pe_int pa_nil))))) (pw_or1 (pt_cmp (pc_dnotin (hu_of hr) (pv 1) (pe_fld (pv 0) rfl)))))) (pss_one (ps_raise rfl (takes_of rfl rfl rfl rfl) (x_NoLease.pmk (by rfl)))) pss_nil))
theorem ok_l_cell_at (B : Bi mg) {f : Addr} {fd : FuncData} (F : FunD K "_law_cell_at" "_law_cell_at" (defArgs s_l_cell_at) (defBody s_l_cell_at) (defScope s_l_cell_at) [] [] f fd) : FnOk P w K mg base CX0 1 f fd ["script", "k"] (sp_l_cell_at K) := by
  refine FunD.ok (CX := CX0) (k := 0) F sc_l_cell_at (by
    intro vs H Q E h
    first
      | (obtain ⟨_, rfl, _⟩ := h; rfl)
      | (obtain ⟨_, _, rfl, _⟩ := h; rfl)
      | (obtain ⟨_, _, _, rfl, _⟩ := h; rfl)
      | (obtain ⟨_, _, _, _, rfl, _⟩ := h; rfl)
      | (obtain ⟨_, _, _, _, _, rfl, _⟩ := h; rfl)
      | (obtain ⟨_, _, _, _, _, _, rfl, _⟩ := h; rfl)
      | (obtain ⟨_, _, _, _, _, _, _, rfl, _⟩ := h; rfl)
      | (obtain ⟨_, _, _, _, _, _, _, _, rfl, _⟩ := h; rfl)
      | (obtain ⟨_, _, _, _, _, _, _, _, _, rfl, _⟩ := h; rfl)
      | (obtain ⟨_, _, _, _, _, _, _, _, _, _, rfl, _⟩ := h; rfl)
      | (obtain ⟨_, _, _, _, _, _, _, _, _, _, _, rfl, _⟩ := h; rfl)) (fun cdv A outer s H vs Q E hr h => ⟨t_l_cell_at K, PSs.nox ?_, pure_l_cell_at h⟩)
  exact (pss_cons (ps_if (pt_cmpR op_lt (pv 1) (pe_callB call_len_seq1 (by rfl) B.len (by decide +kernel) (pa_cons (pv 0) pa_nil)) (nomark _)) (pss_one (ps_ret (pe_ix ix_list (pv 0) (pv 1) (fun _ _ => rfl)))) pss_nil)
  (pss_cons (ps_if (pt_cmpR (op_eqP hr.units) (pv 0) (pe_lst pa_nil) (nomark _)) (pss_one (ps_ret pe_int)) pss_nil)
  (pss_one (ps_ret (pe_op op_add (pe_op op_mul (pe_ix ix_list (pv 0) (pe_op op_mod (pv 1) (pe_callB call_len_seq1 (by rfl) B.len (by decide +kernel) (pa_cons (pv 0) pa_nil))) (fun _ _ => rfl)) pe_int) (pv 1))))))
theorem ok_l_mixed (c_l_cell_at : CFn P w K mg base CX0 1 "_law_cell_at" ["script", "k"] (sp_l_cell_at K)) {f : Addr} {fd : FuncData} (F : FunD K "_law_mixed" "_law_mixed" (defArgs s_l_mixed) (defBody s_l_mixed) (defScope s_l_mixed) [] [] f fd) : FnOk P w K mg base CX0 2 f fd ["script", "k", "many"] (sp_l_mixed K) := by
  refine FunD.ok (CX := CX0) (k := 1) F sc_l_mixed (by
    intro vs H Q E h
    first
      | (obtain ⟨_, rfl, _⟩ := h; rfl)
      | (obtain ⟨_, _, rfl, _⟩ := h; rfl)
      | (obtain ⟨_, _, _, rfl, _⟩ := h; rfl)
      | (obtain ⟨_, _, _, _, rfl, _⟩ := h; rfl)
      | (obtain ⟨_, _, _, _, _, rfl, _⟩ := h; rfl)
      | (obtain ⟨_, _, _, _, _, _, rfl, _⟩ := h; rfl)
      | (obtain ⟨_, _, _, _, _, _, _, rfl, _⟩ := h; rfl)
      | (obtain ⟨_, _, _, _, _, _, _, _, rfl, _⟩ := h; rfl)
      | (obtain ⟨_, _, _, _, _, _, _, _, _, rfl, _⟩ := h; rfl)
      | (obtain ⟨_, _, _, _, _, _, _, _, _, _, rfl, _⟩ := h; rfl)
      | (obtain ⟨_, _, _, _, _, _, _, _, _, _, _, rfl, _⟩ := h; rfl)) (fun cdv A outer s H vs Q E hr h => ⟨t_l_mixed K, PSs.nox ?_, pure_l_mixed h⟩)
  exact (pss_cons (ps_set (i := 3) sc_l_mixed.nd rfl (by first | exact Or.inl rfl | exact Or.inr rfl) (pe_op op_mod (pe_op op_mul (pe_op op_add (pe_op op_add (pe_cf c_l_cell_at (hr.mono (by decide)) (by rfl) pass0 (pa_cons (pv 0) (pa_cons (pv 1) pa_nil))) (pe_op op_mul pe_int (pv 1))) pe_int) pe_int) pe_int))
  (pss_one (ps_ret (pe_op op_mod (pe_op op_mod (pe_op op_add (pe_op op_add (pe_op op_mul (pv 3) (pv 3)) (pe_op op_mul pe_int (pv 3))) (pv 1)) pe_int) (pv 2)))))
theorem ok_l_key (B : Bi mg) (c_l_mixed : CFn P w K mg base CX0 2 "_law_mixed" ["script", "k", "many"] (sp_l_mixed K)) {f : Addr} {fd : FuncData} (F : FunD K "_law_key" "_law_key" (defArgs s_l_key) (defBody s_l_key) (defScope s_l_key) [] [] f fd) : FnOk P w K mg base CX0 3 f fd ["script", "at"] (sp_l_key K) := by
  refine FunD.ok (CX := CX0) (k := 2) F sc_l_key (by
    intro vs H Q E h
    first
      | (obtain ⟨_, rfl, _⟩ := h; rfl)
      | (obtain ⟨_, _, rfl, _⟩ := h; rfl)
      | (obtain ⟨_, _, _, rfl, _⟩ := h; rfl)
      | (obtain ⟨_, _, _, _, rfl, _⟩ := h; rfl)
      | (obtain ⟨_, _, _, _, _, rfl, _⟩ := h; rfl)
      | (obtain ⟨_, _, _, _, _, _, rfl, _⟩ := h; rfl)
      | (obtain ⟨_, _, _, _, _, _, _, rfl, _⟩ := h; rfl)
      | (obtain ⟨_, _, _, _, _, _, _, _, rfl, _⟩ := h; rfl)
      | (obtain ⟨_, _, _, _, _, _, _, _, _, rfl, _⟩ := h; rfl)
      | (obtain ⟨_, _, _, _, _, _, _, _, _, _, rfl, _⟩ := h; rfl)
      | (obtain ⟨_, _, _, _, _, _, _, _, _, _, _, rfl, _⟩ := h; rfl)) (fun cdv A outer s H vs Q E hr h => ⟨t_l_key K, PSs.nox ?_, pure_l_key h⟩)
  exact (pss_cons (ps_set (i := 2) sc_l_key.nd rfl (by first | exact Or.inl rfl | exact Or.inr rfl) pe_str)
  (pss_cons (ps_set (i := 3) sc_l_key.nd rfl (by first | exact Or.inl rfl | exact Or.inr rfl) pe_str)
  (pss_cons (ps_for PassesOwn.never rfl (pi_range1 (by rfl) B.range (pa_cons (pe_ix ix_list (pe_lst (pa_cons pe_int (pa_cons pe_int (pa_cons pe_int (pa_cons pe_int (pa_cons pe_int (pa_cons pe_int (pa_cons pe_int pa_nil)))))))) (pe_cf c_l_mixed (hr.mono (by decide)) (by rfl) pass0 (pa_cons (pv 0) (pa_cons (pv 1) (pa_cons pe_int pa_nil)))) (fun _ _ => rfl)) pa_nil)) (pg_name (i := 4) sc_l_key.nd rfl (by first | exact Or.inl rfl | exact Or.inr rfl))
  (pss_one (ps_set (i := 3) sc_l_key.nd rfl (by first | exact Or.inl rfl | exact Or.inr rfl) (pe_op op_catS (pv 3) (pe_ix ix_str (pv 2) (pe_cf c_l_mixed (hr.mono (by decide)) (by rfl) pass0 (pa_cons (pv 0) (pa_cons (pe_op op_add (pe_op op_add (pv 1) pe_int) (pv 4)) (pa_cons pe_int pa_nil)))) (fun _ _ => rfl))))))
  (pss_one (ps_ret (pv 3))))))
theorem ok_l_keys (B : Bi mg) (c_l_key : CFn P w K mg base CX0 3 "_law_key" ["script", "at"] (sp_l_key K)) (c_l_mixed : CFn P w K mg base CX0 2 "_law_mixed" ["script", "k", "many"] (sp_l_mixed K)) {f : Addr} {fd : FuncData} (F : FunD K "_law_keys" "_law_keys" (defArgs s_l_keys) (defBody s_l_keys) (defScope s_l_keys) [] [] f fd) : FnOk P w K mg base CX0 4 f fd ["script", "at"] (sp_l_keys K) := by
  refine FunD.ok (CX := CX0) (k := 3) F sc_l_keys (by
    intro vs H Q E h
    first
      | (obtain ⟨_, rfl, _⟩ := h; rfl)
      | (obtain ⟨_, _, rfl, _⟩ := h; rfl)
      | (obtain ⟨_, _, _, rfl, _⟩ := h; rfl)
      | (obtain ⟨_, _, _, _, rfl, _⟩ := h; rfl)
      | (obtain ⟨_, _, _, _, _, rfl, _⟩ := h; rfl)
      | (obtain ⟨_, _, _, _, _, _, rfl, _⟩ := h; rfl)
      | (obtain ⟨_, _, _, _, _, _, _, rfl, _⟩ := h; rfl)
      | (obtain ⟨_, _, _, _, _, _, _, _, rfl, _⟩ := h; rfl)
      | (obtain ⟨_, _, _, _, _, _, _, _, _, rfl, _⟩ := h; rfl)
      | (obtain ⟨_, _, _, _, _, _, _, _, _, _, rfl, _⟩ := h; rfl)
      | (obtain ⟨_, _, _, _, _, _, _, _, _, _, _, rfl, _⟩ := h; rfl)) (fun cdv A outer s H vs Q E hr h => ⟨t_l_keys K, PSs.nox ?_, pure_l_keys h⟩)
  exact (pss_cons (ps_set (i := 2) sc_l_keys.nd rfl (by first | exact Or.inl rfl | exact Or.inr rfl) (pe_lst (pa_cons (pe_cf c_l_key (hr.mono (by decide)) (by rfl) pass0 (pa_cons (pv 0) (pa_cons (pv 1) pa_nil))) pa_nil)))
  (pss_cons (ps_for PassesOwn.never rfl (pi_range1 (by rfl) B.range (pa_cons pe_int pa_nil)) (pg_name (i := 3) sc_l_keys.nd rfl (by first | exact Or.inl rfl | exact Or.inr rfl))
  (pss_cons (ps_set (i := 4) sc_l_keys.nd rfl (by first | exact Or.inl rfl | exact Or.inr rfl) (pe_op op_add (pv 1) (pe_op op_mul pe_int (pe_op op_add (pv 3) pe_int))))
  (pss_cons (ps_set (i := 5) sc_l_keys.nd rfl (by first | exact Or.inl rfl | exact Or.inr rfl) (pe_ix ix_list (pv 2) (pe_un un_neg pe_int) (fun _ _ => rfl)))
  (pss_cons (ps_set (i := 6) sc_l_keys.nd rfl (by first | exact Or.inl rfl | exact Or.inr rfl) (pe_cf c_l_mixed (hr.mono (by decide)) (by rfl) pass0 (pa_cons (pv 0) (pa_cons (pe_op op_add (pv 4) pe_int) (pa_cons pe_int pa_nil)))))
  (pss_cons (ps_set (i := 7) sc_l_keys.nd rfl (by first | exact Or.inl rfl | exact Or.inr rfl) (pe_cf c_l_mixed (hr.mono (by decide)) (by rfl) pass0 (pa_cons (pv 0) (pa_cons (pe_op op_add (pv 4) pe_int) (pa_cons (pe_callB call_len_str1 (by rfl) B.len (by decide +kernel) (pa_cons (pv 5) pa_nil)) pa_nil)))))
  (pss_one (ps_if (pt_cmpR op_eq (pv 6) pe_int (nomark _)) (pss_one (ps_expr (pe_bm PySem.F.plainAttrs_list PySem.F.slot_list_append PySem.F.type_list_append mt_append (pv 2) (pa_cons (pe_cf c_l_key (hr.mono (by decide)) (by rfl) pass0 (pa_cons (pv 0) (pa_cons (pv 4) pa_nil))) pa_nil)))) (pss_one (ps_if (PW.pt (pw_and (pt_cmpR op_eq (pv 6) pe_int (nomark _)) (pw_and1 (pt_cmpR op_lt (pe_callB call_len_str1 (by rfl) B.len (by decide +kernel) (pa_cons (pv 5) pa_nil)) pe_int (nomark _))))) (pss_one (ps_expr (pe_bm PySem.F.plainAttrs_list PySem.F.slot_list_append PySem.F.type_list_append mt_append (pv 2) (pa_cons (pe_op op_catS (pv 5) (pe_ix ix_str (pe_cf c_l_key (hr.mono (by decide)) (by rfl) pass0 (pa_cons (pv 0) (pa_cons (pv 4) pa_nil))) pe_int (fun _ _ => rfl))) pa_nil)))) (pss_one (ps_expr (pe_bm PySem.F.plainAttrs_list PySem.F.slot_list_append PySem.F.type_list_append mt_append (pv 2) (pa_cons (pe_op op_catS (pe_op op_catS (pe_slice sl_str (pv 5) po_none (po_some (pv 7))) (pe_ix ix_str (pe_cf c_l_key (hr.mono (by decide)) (by rfl) pass0 (pa_cons (pv 0) (pa_cons (pv 4) pa_nil))) pe_int (fun _ _ => rfl))) (pe_slice sl_str (pv 5) (po_some (pe_op op_add (pv 7) pe_int)) po_none)) pa_nil)))))))))))))
  (pss_one (ps_ret (pv 2)))))
theorem ok_l_span (B : Bi mg) (c_l_mixed : CFn P w K mg base CX0 2 "_law_mixed" ["script", "k", "many"] (sp_l_mixed K)) {f : Addr} {fd : FuncData} (F : FunD K "_law_span" "_law_span" (defArgs s_l_span) (defBody s_l_span) (defScope s_l_span) [] [] f fd) : FnOk P w K mg base CX0 3 f fd ["script", "at", "keys"] (sp_l_span K) := by
  refine FunD.ok (CX := CX0) (k := 2) F sc_l_span (by
    intro vs H Q E h
    first
      | (obtain ⟨_, rfl, _⟩ := h; rfl)
      | (obtain ⟨_, _, rfl, _⟩ := h; rfl)
      | (obtain ⟨_, _, _, rfl, _⟩ := h; rfl)
      | (obtain ⟨_, _, _, _, rfl, _⟩ := h; rfl)
      | (obtain ⟨_, _, _, _, _, rfl, _⟩ := h; rfl)
      | (obtain ⟨_, _, _, _, _, _, rfl, _⟩ := h; rfl)
      | (obtain ⟨_, _, _, _, _, _, _, rfl, _⟩ := h; rfl)
      | (obtain ⟨_, _, _, _, _, _, _, _, rfl, _⟩ := h; rfl)
      | (obtain ⟨_, _, _, _, _, _, _, _, _, rfl, _⟩ := h; rfl)
      | (obtain ⟨_, _, _, _, _, _, _, _, _, _, rfl, _⟩ := h; rfl)
      | (obtain ⟨_, _, _, _, _, _, _, _, _, _, _, rfl, _⟩ := h; rfl)) (fun cdv A outer s H vs Q E hr h => ⟨t_l_span K, PSs.nox ?_, pure_l_span h⟩)
  exact (pss_cons (ps_set (i := 3) sc_l_span.nd rfl (by first | exact Or.inl rfl | exact Or.inr rfl) (pe_lst (pa_cons (pe_ix ix_list (pv 2) (pe_cf c_l_mixed (hr.mono (by decide)) (by rfl) pass0 (pa_cons (pv 0) (pa_cons (pv 1) (pa_cons (pe_callB call_len_seq1 (by rfl) B.len (by decide +kernel) (pa_cons (pv 2) pa_nil)) pa_nil)))) (fun _ _ => rfl)) (pa_cons (pe_ix ix_list (pv 2) (pe_cf c_l_mixed (hr.mono (by decide)) (by rfl) pass0 (pa_cons (pv 0) (pa_cons (pe_op op_add (pv 1) pe_int) (pa_cons (pe_callB call_len_seq1 (by rfl) B.len (by decide +kernel) (pa_cons (pv 2) pa_nil)) pa_nil)))) (fun _ _ => rfl)) pa_nil))))
  (pss_cons (ps_if (pt_cmpR op_eq (pe_cf c_l_mixed (hr.mono (by decide)) (by rfl) pass0 (pa_cons (pv 0) (pa_cons (pe_op op_add (pv 1) pe_int) (pa_cons pe_int pa_nil)))) pe_int (nomark _)) (pss_one (ps_ret (pe_tup (pa_cons pe_str (pa_cons pe_str pa_nil))))) pss_nil)
  (pss_cons (ps_if (pt_cmpR op_eq (pe_cf c_l_mixed (hr.mono (by decide)) (by rfl) pass0 (pa_cons (pv 0) (pa_cons (pe_op op_add (pv 1) pe_int) (pa_cons pe_int pa_nil)))) pe_int (nomark _)) (pss_one (ps_ret (pe_tup (pa_cons (pe_callB (cr_maxS rfl) (by rfl) B.max (by decide +kernel) (pa_cons (pv 3) pa_nil)) (pa_cons (pe_callB (cr_minS rfl) (by rfl) B.min (by decide +kernel) (pa_cons (pv 3) pa_nil)) pa_nil))))) pss_nil)
  (pss_one (ps_ret (pe_tup (pa_cons (pe_callB (cr_minS rfl) (by rfl) B.min (by decide +kernel) (pa_cons (pv 3) pa_nil)) (pa_cons (pe_callB (cr_maxS rfl) (by rfl) B.max (by decide +kernel) (pa_cons (pv 3) pa_nil)) pa_nil))))))))
theorem ok_l_rows (B : Bi mg) {f : Addr} {fd : FuncData} (F : FunD K "_law_rows" "_law_rows" (defArgs s_l_rows) (defBody s_l_rows) (defScope s_l_rows) [] [] f fd) : FnOk P w K mg base CX0 1 f fd ["records", "first", "last"] (sp_l_rows K) := by
  refine FunD.ok (CX := CX0) (k := 0) F sc_l_rows (by
    intro vs H Q E h
    first
      | (obtain ⟨_, rfl, _⟩ := h; rfl)
      | (obtain ⟨_, _, rfl, _⟩ := h; rfl)
      | (obtain ⟨_, _, _, rfl, _⟩ := h; rfl)
      | (obtain ⟨_, _, _, _, rfl, _⟩ := h; rfl)
      | (obtain ⟨_, _, _, _, _, rfl, _⟩ := h; rfl)
      | (obtain ⟨_, _, _, _, _, _, rfl, _⟩ := h; rfl)
      | (obtain ⟨_, _, _, _, _, _, _, rfl, _⟩ := h; rfl)
      | (obtain ⟨_, _, _, _, _, _, _, _, rfl, _⟩ := h; rfl)
      | (obtain ⟨_, _, _, _, _, _, _, _, _, rfl, _⟩ := h; rfl)
      | (obtain ⟨_, _, _, _, _, _, _, _, _, _, rfl, _⟩ := h; rfl)
      | (obtain ⟨_, _, _, _, _, _, _, _, _, _, _, rfl, _⟩ := h; rfl)) (fun cdv A outer s H vs Q E hr h => ⟨t_l_rows K, PSs.nox ?_, pure_l_rows h⟩)
  exact (pss_one (ps_ret (pe_lc (own := [("key", 3)]) (g := (gName 3)) (tt := (tTest (tChain rLeS rLeS (tVar 1) (tVar 3) (tVar 2)))) rfl sc_l_rows.nd (pi_list (pe_callB cr_sortedS (by rfl) B.sorted (by decide +kernel) (pa_cons (pe_callTy (call_list_dK rfl) (by rfl) B.list (by decide +kernel) (pa_cons (pv 0) pa_nil)) pa_nil))) (blkOk_by (own := [("key", 3)]) (N := ["records", "first", "last", "key"]) (sc := defScope s_l_rows) (by decide +kernel)) (fun _ _ _ _ _ => (pg_name (i := 3) sc_l_rows.nd rfl (by first | exact Or.inl rfl | exact Or.inr rfl))) (fun _ _ _ _ _ => (pts_one (pt_chain op_leS op_leS (pv 1) (pv 3) (pv 2)))) (fun _ _ _ _ _ => (pe_tup (pa_cons (pv 3) (pa_cons (pe_dget (hu_of hr) (pv 0) (pv 3) (fun _ _ => rfl)) pa_nil)))))))
theorem ok_law (B : Bi mg) (HC : HCls K) (c_l_keys : CFn P w K mg base CX0 4 "_law_keys" ["script", "at"] (sp_l_keys K)) (k_h_init : CKn P w K mg base CX0 1 (clsHouse K) "House" ["self"] (sp_h_init K)) (c_l_mixed : CFn P w K mg base CX0 2 "_law_mixed" ["script", "k", "many"] (sp_l_mixed K)) (m_h_drop : CMn P w K mg base (L2.CX P w) 3 (clsHouse K) "drop" ["self", "key"] [] (sp_h_drop K)) (m_h_put_1 : CMn P w K mg base (L2.CX P w) 4 (clsHouse K) "put" ["self", "key", "value", "lease"] [.non] (sp_h_put K)) (m_h_number : CMn P w K mg base CX0 1 (clsHouse K) "number" ["self"] [] (sp_h_number K)) (m_h_look_1 : CMn P w K mg base (L2.CX P w) 4 (clsHouse K) "look" ["self", "key", "number"] [.non] (sp_h_look K)) (c_l_span : CFn P w K mg base CX0 3 "_law_span" ["script", "at", "keys"] (sp_l_span K)) (m_h_rows_1 : CMn P w K mg base (L2.CX P w) 4 (clsHouse K) "rows" ["self", "first", "last", "number"] [.non] (sp_h_rows K)) (c_l_rows : CFn P w K mg base CX0 1 "_law_rows" ["records", "first", "last"] (sp_l_rows K)) {f : Addr} {fd : FuncData} (F : FunD K "law" "law" (defArgs s_law) (defBody s_law) (defScope s_law) [] [] f fd) : FnOk P w K mg base CX0 5 f fd ["script"] (sp_law K) := by
  refine FunD.ok (CX := CX0) (k := 4) F sc_law (by
    intro vs H Q E h
    first
      | (obtain ⟨_, rfl, _⟩ := h; rfl)
      | (obtain ⟨_, _, rfl, _⟩ := h; rfl)
      | (obtain ⟨_, _, _, rfl, _⟩ := h; rfl)
      | (obtain ⟨_, _, _, _, rfl, _⟩ := h; rfl)
      | (obtain ⟨_, _, _, _, _, rfl, _⟩ := h; rfl)
      | (obtain ⟨_, _, _, _, _, _, rfl, _⟩ := h; rfl)
      | (obtain ⟨_, _, _, _, _, _, _, rfl, _⟩ := h; rfl)
      | (obtain ⟨_, _, _, _, _, _, _, _, rfl, _⟩ := h; rfl)
      | (obtain ⟨_, _, _, _, _, _, _, _, _, rfl, _⟩ := h; rfl)
      | (obtain ⟨_, _, _, _, _, _, _, _, _, _, rfl, _⟩ := h; rfl)
      | (obtain ⟨_, _, _, _, _, _, _, _, _, _, _, rfl, _⟩ := h; rfl)) (fun cdv A outer s H vs Q E hr h => ⟨t_law K, PSs.nox ?_, pure_law HC h⟩)
  exact (pss_cons (ps_set (i := 1) sc_law.nd rfl (by first | exact Or.inl rfl | exact Or.inr rfl) (pe_cf c_l_keys (hr.mono (by decide)) (by rfl) pass0 (pa_cons (pv 0) (pa_cons pe_int pa_nil))))
  (pss_cons (ps_set (i := 2) sc_law.nd rfl (by first | exact Or.inl rfl | exact Or.inr rfl) (pe_ck0 k_h_init (hr.mono (by decide)) (by rfl) pass0))
  (pss_cons (ps_set (i := 3) sc_law.nd rfl (by first | exact Or.inl rfl | exact Or.inr rfl) pe_dnewK)
  (pss_cons (ps_set (i := 4) sc_law.nd rfl (by first | exact Or.inl rfl | exact Or.inr rfl) pe_int)
  (pss_cons (ps_for PassesOwn.never rfl (pi_range1 (by rfl) B.range (pa_cons (pe_cf c_l_mixed (hr.mono (by decide)) (by rfl) pass0 (pa_cons (pv 0) (pa_cons pe_int (pa_cons pe_int pa_nil)))) pa_nil)) (pg_name (i := 5) sc_law.nd rfl (by first | exact Or.inl rfl | exact Or.inr rfl))
  (pss_cons (ps_set (i := 6) sc_law.nd rfl (by first | exact Or.inl rfl | exact Or.inr rfl) (pe_ix ix_list (pv 1) (pe_cf c_l_mixed (hr.mono (by decide)) (by rfl) pass0 (pa_cons (pv 0) (pa_cons (pe_op op_add pe_int (pe_op op_mul pe_int (pv 5))) (pa_cons pe_int pa_nil)))) (fun _ _ => rfl)))
  (pss_cons (ps_if (pt_cmpR op_eq (pe_cf c_l_mixed (hr.mono (by decide)) (by rfl) pass0 (pa_cons (pv 0) (pa_cons (pe_op op_add pe_int (pe_op op_mul pe_int (pv 5))) (pa_cons pe_int pa_nil)))) pe_int (nomark _)) (pss_cons (ps_set (i := 7) sc_law.nd rfl (by first | exact Or.inl rfl | exact Or.inr rfl) (pe_cm (pl := plainOf' _ _) (pv 2) HC.Housecl m_h_drop (hr.mono (by decide)) passL (pa_cons (pv 6) pa_nil)))
  (pss_cons (ps_if (PW.pt (pw_or (pt_cmpR op_ne (pv 7) (pe_cmp (pc_din (hu_of hr) (pv 6) (pv 3))) (nomark _)) (pw_or1 (pt_not (pt_val (pe_callB call_isi (by rfl) B.isinstance (by decide +kernel) (pa_cons (pv 7) (pa_cons (pe_bltn (v := .ty "bool") (by rfl) B.bool (by decide +kernel) rfl) pa_nil)))))))) (pss_one (ps_ret pe_bl)) pss_nil)
  (pss_cons (ps_set (i := 4) sc_law.nd rfl (by first | exact Or.inl rfl | exact Or.inr rfl) (pe_op op_add (pv 4) (pe_callTy call_int1a (by rfl) B.int (by decide +kernel) (pa_cons (pv 7) pa_nil))))
  (pss_one (ps_expr (pe_dpop2 (pv 3) (pv 6) pe_non (by constructor <;> rfl))))))) (pss_cons (ps_set (i := 8) sc_law.nd rfl (by first | exact Or.inl rfl | exact Or.inr rfl) (pe_cf c_l_mixed (hr.mono (by decide)) (by rfl) pass0 (pa_cons (pv 0) (pa_cons (pe_op op_add pe_int (pe_op op_mul pe_int (pv 5))) (pa_cons pe_int pa_nil)))))
  (pss_cons (ps_set (i := 4) sc_law.nd rfl (by first | exact Or.inl rfl | exact Or.inr rfl) (pe_op op_add (pv 4) pe_int))
  (pss_cons (ps_set (i := 9) sc_law.nd rfl (by first | exact Or.inl rfl | exact Or.inr rfl) (pe_dget2 (hu_of hr) (pv 3) (pv 6) (pe_tup (pa_cons pe_int (pa_cons (pv 4) (pa_cons pe_int (pa_cons pe_int (pa_cons pe_non pa_nil)))))) (by constructor <;> rfl)))
  (pss_cons (ps_dput (hu_of hr) (pv 3) (pv 6) (pe_tup (pa_cons (pv 8) (pa_cons (pe_ix ix_tup (pv 9) pe_int (fun _ _ => rfl)) (pa_cons (pv 4) (pa_cons (pe_op op_add (pe_ix ix_tup (pv 9) pe_int (fun _ _ => rfl)) pe_int) (pa_cons pe_non pa_nil)))))) rfl)
  (pss_one (ps_if (pt_cmpR op_ne (pe_cm (pl := plainOf' _ _) (pv 2) HC.Housecl m_h_put_1 (hr.mono (by decide)) passL (pa_cons (pv 6) (pa_cons (pv 8) pa_nil))) (pv 4) (nomark _)) (pss_one (ps_ret pe_bl)) pss_nil)))))))
  (pss_one (ps_if (PW.pt (pw_or (pt_cmpR op_ne (pe_cm0 (pl := plainOf' _ _) (pv 2) HC.Housecl m_h_number (hr.mono (by decide)) pass0) (pv 4) (nomark _)) (pw_or1 (pt_cmpR (op_neP hr.units) (pe_cm (pl := plainOf' _ _) (pv 2) HC.Housecl m_h_look_1 (hr.mono (by decide)) passL (pa_cons (pv 6) pa_nil)) (pe_dget1 (hu_of hr) (pv 3) (pv 6) (by constructor <;> rfl)) (nomark _))))) (pss_one (ps_ret pe_bl)) pss_nil)))))
  (pss_cons (ps_asg (pe_cf c_l_span (hr.mono (by decide)) (by rfl) pass0 (pa_cons (pv 0) (pa_cons pe_int (pa_cons (pv 1) pa_nil)))) (pg_tup rfl (pgs_cons (pg_name (i := 10) sc_law.nd rfl (by first | exact Or.inl rfl | exact Or.inr rfl)) (pgs_cons (pg_name (i := 11) sc_law.nd rfl (by first | exact Or.inl rfl | exact Or.inr rfl)) pgs_nil))))
  (pss_one (ps_ret (pe_cmpR (op_eqP hr.units) (pe_cm (pl := plainOf' _ _) (pv 2) HC.Housecl m_h_rows_1 (hr.mono (by decide)) passL (pa_cons (pv 10) (pa_cons (pv 11) pa_nil))) (pe_cf c_l_rows (hr.mono (by decide)) (by rfl) pass0 (pa_cons (pv 3) (pa_cons (pv 10) (pa_cons (pv 11) pa_nil)))) (nomark _))))))))))
end
def d_is_key : He.DefD := ⟨("is_key", none), "is_key", "is_key", defArgs s_is_key, defBody s_is_key, defScope s_is_key, [], []⟩
def d_is_whole : He.DefD := ⟨("is_whole", none), "is_whole", "is_whole", defArgs s_is_whole, defBody s_is_whole, defScope s_is_whole, [], []⟩
def d_is_value : He.DefD := ⟨("is_value", none), "is_value", "is_value", defArgs s_is_value, defBody s_is_value, defScope s_is_value, [], []⟩
def d_need_key : He.DefD := ⟨("need_key", none), "need_key", "need_key", defArgs s_need_key, defBody s_need_key, defScope s_need_key, [], []⟩
def d_need_value : He.DefD := ⟨("need_value", none), "need_value", "need_value", defArgs s_need_value, defBody s_need_value, defScope s_need_value, [], []⟩
def d_is_within : He.DefD := ⟨("is_within", none), "is_within", "is_within", defArgs s_is_within, defBody s_is_within, defScope s_is_within, [], []⟩
def d_change : He.DefD := ⟨("change", none), "change", "change", defArgs s_change, defBody s_change, defScope s_change, [], []⟩
def d_in_rows : He.DefD := ⟨("in_rows", none), "in_rows", "in_rows", defArgs s_in_rows, defBody s_in_rows, defScope s_in_rows, [], []⟩
def d_h_init : He.DefD := ⟨("House", some "__init__"), "__init__", "House.__init__", defArgs s_h_init, defBody s_h_init, defScope s_h_init, [], []⟩
def d_h_write : He.DefD := ⟨("House", some "write"), "write", "House.write", defArgs s_h_write, defBody s_h_write, defScope s_h_write, [], []⟩
def d_h_put : He.DefD := ⟨("House", some "put"), "put", "House.put", defArgs s_h_put, defBody s_h_put, defScope s_h_put, [.non], []⟩
def d_h_drop : He.DefD := ⟨("House", some "drop"), "drop", "House.drop", defArgs s_h_drop, defBody s_h_drop, defScope s_h_drop, [], []⟩
def d_h_number : He.DefD := ⟨("House", some "number"), "number", "House.number", defArgs s_h_number, defBody s_h_number, defScope s_h_number, [], []⟩
def d_h_records_at : He.DefD := ⟨("House", some "records_at"), "records_at", "House.records_at", defArgs s_h_records_at, defBody s_h_records_at, defScope s_h_records_at, [], []⟩
def d_h_records_when : He.DefD := ⟨("House", some "records_when"), "records_when", "House.records_when", defArgs s_h_records_when, defBody s_h_records_when, defScope s_h_records_when, [], []⟩
def d_h_look : He.DefD := ⟨("House", some "look"), "look", "House.look", defArgs s_h_look, defBody s_h_look, defScope s_h_look, [.non], []⟩
def d_h_rows : He.DefD := ⟨("House", some "rows"), "rows", "House.rows", defArgs s_h_rows, defBody s_h_rows, defScope s_h_rows, [.non], []⟩
def d_h_need_lease : He.DefD := ⟨("House", some "need_lease"), "need_lease", "House.need_lease", defArgs s_h_need_lease, defBody s_h_need_lease, defScope s_h_need_lease, [], []⟩
def d_l_cell_at : He.DefD := ⟨("_law_cell_at", none), "_law_cell_at", "_law_cell_at", defArgs s_l_cell_at, defBody s_l_cell_at, defScope s_l_cell_at, [], []⟩
def d_l_mixed : He.DefD := ⟨("_law_mixed", none), "_law_mixed", "_law_mixed", defArgs s_l_mixed, defBody s_l_mixed, defScope s_l_mixed, [], []⟩
def d_l_key : He.DefD := ⟨("_law_key", none), "_law_key", "_law_key", defArgs s_l_key, defBody s_l_key, defScope s_l_key, [], []⟩
def d_l_keys : He.DefD := ⟨("_law_keys", none), "_law_keys", "_law_keys", defArgs s_l_keys, defBody s_l_keys, defScope s_l_keys, [], []⟩
def d_l_span : He.DefD := ⟨("_law_span", none), "_law_span", "_law_span", defArgs s_l_span, defBody s_l_span, defScope s_l_span, [], []⟩
def d_l_rows : He.DefD := ⟨("_law_rows", none), "_law_rows", "_law_rows", defArgs s_l_rows, defBody s_l_rows, defScope s_l_rows, [], []⟩
def d_law : He.DefD := ⟨("law", none), "law", "law", defArgs s_law, defBody s_law, defScope s_law, [], []⟩
def fn : List He.DefD := [d_is_key, d_is_whole, d_is_value, d_need_key, d_need_value, d_is_within, d_change, d_in_rows, d_h_init, d_h_write, d_h_put, d_h_drop, d_h_number, d_h_records_at, d_h_records_when, d_h_look, d_h_rows, d_h_need_lease, d_l_cell_at, d_l_mixed, d_l_key, d_l_keys, d_l_span, d_l_rows, d_law]
def fa : List He.Fa := [.glo "is_key", .glo "is_whole", .glo "is_value", .glo "need_key", .glo "need_value", .glo "is_within", .glo "change", .glo "in_rows", .meth "House" "__init__", .meth "House" "write", .meth "House" "put", .meth "House" "drop", .meth "House" "number", .meth "House" "records_at", .meth "House" "records_when", .meth "House" "look", .meth "House" "rows", .meth "House" "need_lease", .glo "_law_cell_at", .glo "_law_mixed", .glo "_law_key", .glo "_law_keys", .glo "_law_span", .glo "_law_rows", .glo "law", .glo "House", .cls "House", .mkr "House", .noat "House" "records", .noat "House" "old_records", .noat "House" "log", .noat "House" "last", .noat "House" "base", .noat "House" "ends", .noat "House" "granted", .noat "House" "now", .noat "House" "spans", .noat "House" "cut", .str "SIGNS" "abcdefghijklmnopqrstuvwxyz0123456789/", .int "LONGEST" 12, .int "MOST" 9999, .glo "Folded", .exc "Folded", .glo "NoKey", .exc "NoKey", .glo "NoLease", .exc "NoLease", .glo "NoNumber", .exc "NoNumber", .glo "NoValue", .exc "NoValue", .free "all", .free "any", .free "bool", .free "dict", .free "enumerate", .free "int", .free "isinstance", .free "len", .free "list", .free "max", .free "min", .free "range", .free "set", .free "sorted", .free "str", .free "tuple"]
def loose0 : List Str := ["_wall", "KeyHouseError", "NoKey", "NoValue", "NoNumber", "Folded", "NoLease", "SIGNS", "LONGEST", "MOST", "is_key", "is_whole", "is_value", "need_key", "need_value", "need_whole", "is_within", "change", "in_rows", "House", "_law_cell_at", "_law_mixed", "_law_key", "_law_keys", "_law_span", "_law_rows"]
def loose : List Str := loose0
abbrev R : PySem.W.OpenRow := PySem.W.OpenLaw.row PySem.Challenge.rw_keywatch_k01_put
abbrev hk : PySem.W.Hook := He.hookD 5 fa fn
def ob (s : PySem.W.SharedT) : He.AlD := He.obsDG 5 fa fn (HandSHeadRun.getT s)
theorem ob_eq (s : PySem.W.SharedT) : ob s = hk.obs s.abs := He.obsDG_eq (HandSHeadRun.getT_eq s)
theorem run (w : World) : HandSHeadRun.RunEq R (PySem.W.view R.prog [31]) hk ob 40000 loose w := by
  intro os
  kernel_rfl
theorem facts {P : Program} {w : World} {K : PySem.W.Frag} {h : Heap} {mg : Str → Option Value} {f : Addr} (X : K.In h) (G : h.Ns mainGlobals mg) (hfa : mg ("law" : Str) = some (.ref f)) (c : He.SaysD fa fn K) :
    ∃ fd : FuncData, (∀ (s : Shared) (v : Value), BindsTo s fd ⟨[v], []⟩ [("script", v)]) ∧ ∀ base : Heap, K.In base → base.Ns mainGlobals mg → FnOk P w K mg base CX0 5 f fd ["script"] (sp_law K) := by
  have B : Bi mg := ⟨He.free_ok X G (c.fact 51 (f := .free "all") rfl), He.free_ok X G (c.fact 52 (f := .free "any") rfl), He.free_ok X G (c.fact 53 (f := .free "bool") rfl), He.free_ok X G (c.fact 54 (f := .free "dict") rfl), He.free_ok X G (c.fact 55 (f := .free "enumerate") rfl), He.free_ok X G (c.fact 56 (f := .free "int") rfl), He.free_ok X G (c.fact 57 (f := .free "isinstance") rfl), He.free_ok X G (c.fact 58 (f := .free "len") rfl), He.free_ok X G (c.fact 59 (f := .free "list") rfl), He.free_ok X G (c.fact 60 (f := .free "max") rfl), He.free_ok X G (c.fact 61 (f := .free "min") rfl), He.free_ok X G (c.fact 62 (f := .free "range") rfl), He.free_ok X G (c.fact 63 (f := .free "set") rfl), He.free_ok X G (c.fact 64 (f := .free "sorted") rfl), He.free_ok X G (c.fact 65 (f := .free "str") rfl), He.free_ok X G (c.fact 66 (f := .free "tuple") rfl)⟩
  have HC : HCls K := by
    refine ⟨He.cls_ok (c.fact 26 (f := .cls "House") rfl), fun f hf => ?_⟩
    have hm : f = ("records" : Str) ∨ f = ("old_records" : Str) ∨ f = ("log" : Str) ∨ f = ("last" : Str) ∨ f = ("base" : Str) ∨ f = ("ends" : Str) ∨ f = ("granted" : Str) ∨ f = ("now" : Str) ∨ f = ("spans" : Str) ∨ f = ("cut" : Str) := by
      simpa [houseFields] using hf
    rcases hm with rfl | rfl | rfl | rfl | rfl | rfl | rfl | rfl | rfl | rfl
    · exact He.noat_ok (c.fact 28 (f := .noat "House" "records") rfl)
    · exact He.noat_ok (c.fact 29 (f := .noat "House" "old_records") rfl)
    · exact He.noat_ok (c.fact 30 (f := .noat "House" "log") rfl)
    · exact He.noat_ok (c.fact 31 (f := .noat "House" "last") rfl)
    · exact He.noat_ok (c.fact 32 (f := .noat "House" "base") rfl)
    · exact He.noat_ok (c.fact 33 (f := .noat "House" "ends") rfl)
    · exact He.noat_ok (c.fact 34 (f := .noat "House" "granted") rfl)
    · exact He.noat_ok (c.fact 35 (f := .noat "House" "now") rfl)
    · exact He.noat_ok (c.fact 36 (f := .noat "House" "spans") rfl)
    · exact He.noat_ok (c.fact 37 (f := .noat "House" "cut") rfl)
  have n_LONGEST := He.int_ok X G (c.fact 39 (f := .int "LONGEST" 12) rfl)
  have n_MOST := He.int_ok X G (c.fact 40 (f := .int "MOST" 9999) rfl)
  have n_SIGNS := He.str_ok X G (c.fact 38 (f := .str "SIGNS" "abcdefghijklmnopqrstuvwxyz0123456789/") rfl)
  have x_Folded : XcOk K mg "Folded" := by
    obtain ⟨a1, a2, a3, a4⟩ := He.exc_ok (c.fact 42 (f := .exc "Folded") rfl)
    exact ⟨He.glo_ok X G (c.fact 41 (f := .glo "Folded") rfl), a1, a2, a3, a4⟩
  have x_NoKey : XcOk K mg "NoKey" := by
    obtain ⟨a1, a2, a3, a4⟩ := He.exc_ok (c.fact 44 (f := .exc "NoKey") rfl)
    exact ⟨He.glo_ok X G (c.fact 43 (f := .glo "NoKey") rfl), a1, a2, a3, a4⟩
  have x_NoLease : XcOk K mg "NoLease" := by
    obtain ⟨a1, a2, a3, a4⟩ := He.exc_ok (c.fact 46 (f := .exc "NoLease") rfl)
    exact ⟨He.glo_ok X G (c.fact 45 (f := .glo "NoLease") rfl), a1, a2, a3, a4⟩
  have x_NoNumber : XcOk K mg "NoNumber" := by
    obtain ⟨a1, a2, a3, a4⟩ := He.exc_ok (c.fact 48 (f := .exc "NoNumber") rfl)
    exact ⟨He.glo_ok X G (c.fact 47 (f := .glo "NoNumber") rfl), a1, a2, a3, a4⟩
  have x_NoValue : XcOk K mg "NoValue" := by
    obtain ⟨a1, a2, a3, a4⟩ := He.exc_ok (c.fact 50 (f := .exc "NoValue") rfl)
    exact ⟨He.glo_ok X G (c.fact 49 (f := .glo "NoValue") rfl), a1, a2, a3, a4⟩
  obtain ⟨fd_is_key, F_is_key⟩ := c.def_ 0 (d := d_is_key) rfl
  obtain ⟨fd_is_whole, F_is_whole⟩ := c.def_ 1 (d := d_is_whole) rfl
  obtain ⟨fd_is_value, F_is_value⟩ := c.def_ 2 (d := d_is_value) rfl
  obtain ⟨fd_need_key, F_need_key⟩ := c.def_ 3 (d := d_need_key) rfl
  obtain ⟨fd_need_value, F_need_value⟩ := c.def_ 4 (d := d_need_value) rfl
  obtain ⟨fd_is_within, F_is_within⟩ := c.def_ 5 (d := d_is_within) rfl
  obtain ⟨fd_change, F_change⟩ := c.def_ 6 (d := d_change) rfl
  obtain ⟨fd_in_rows, F_in_rows⟩ := c.def_ 7 (d := d_in_rows) rfl
  obtain ⟨fd_h_init, F_h_init⟩ := c.def_ 8 (d := d_h_init) rfl
  obtain ⟨fd_h_write, F_h_write⟩ := c.def_ 9 (d := d_h_write) rfl
  obtain ⟨fd_h_put, F_h_put⟩ := c.def_ 10 (d := d_h_put) rfl
  obtain ⟨fd_h_drop, F_h_drop⟩ := c.def_ 11 (d := d_h_drop) rfl
  obtain ⟨fd_h_number, F_h_number⟩ := c.def_ 12 (d := d_h_number) rfl
  obtain ⟨fd_h_records_at, F_h_records_at⟩ := c.def_ 13 (d := d_h_records_at) rfl
  obtain ⟨fd_h_records_when, F_h_records_when⟩ := c.def_ 14 (d := d_h_records_when) rfl
  obtain ⟨fd_h_look, F_h_look⟩ := c.def_ 15 (d := d_h_look) rfl
  obtain ⟨fd_h_rows, F_h_rows⟩ := c.def_ 16 (d := d_h_rows) rfl
  obtain ⟨fd_h_need_lease, F_h_need_lease⟩ := c.def_ 17 (d := d_h_need_lease) rfl
  obtain ⟨fd_l_cell_at, F_l_cell_at⟩ := c.def_ 18 (d := d_l_cell_at) rfl
  obtain ⟨fd_l_mixed, F_l_mixed⟩ := c.def_ 19 (d := d_l_mixed) rfl
  obtain ⟨fd_l_key, F_l_key⟩ := c.def_ 20 (d := d_l_key) rfl
  obtain ⟨fd_l_keys, F_l_keys⟩ := c.def_ 21 (d := d_l_keys) rfl
  obtain ⟨fd_l_span, F_l_span⟩ := c.def_ 22 (d := d_l_span) rfl
  obtain ⟨fd_l_rows, F_l_rows⟩ := c.def_ 23 (d := d_l_rows) rfl
  obtain ⟨fd_law, F_law⟩ := c.def_ 24 (d := d_law) rfl
  have e := hfa.symm.trans (He.glo_ok X G (c.fact 24 (f := .glo "law") rfl))
  cases e
  have b_is_key : Binds K fd_is_key ["thing"] [] := FunD.bindsN F_is_key fun _ _ _ _ _ _ us hl => match us, hl with | [_], _ => rfl
  have b_is_whole : Binds K fd_is_whole ["thing", "low"] [] := FunD.bindsN F_is_whole fun _ _ _ _ _ _ us hl => match us, hl with | [_, _], _ => rfl
  have b_is_value : Binds K fd_is_value ["thing"] [] := FunD.bindsN F_is_value fun _ _ _ _ _ _ us hl => match us, hl with | [_], _ => rfl
  have b_need_key : Binds K fd_need_key ["key"] [] := FunD.bindsN F_need_key fun _ _ _ _ _ _ us hl => match us, hl with | [_], _ => rfl
  have b_need_value : Binds K fd_need_value ["value"] [] := FunD.bindsN F_need_value fun _ _ _ _ _ _ us hl => match us, hl with | [_], _ => rfl
  have b_is_within : Binds K fd_is_within ["key", "first", "last"] [] := FunD.bindsN F_is_within fun _ _ _ _ _ _ us hl => match us, hl with | [_, _, _], _ => rfl
  have b_change : Binds K fd_change ["records", "event"] [] := FunD.bindsN F_change fun _ _ _ _ _ _ us hl => match us, hl with | [_, _], _ => rfl
  have b_in_rows : Binds K fd_in_rows ["records"] [] := FunD.bindsN F_in_rows fun _ _ _ _ _ _ us hl => match us, hl with | [_], _ => rfl
  have b_h_init : Binds K fd_h_init ["self"] [] := FunD.bindsN F_h_init fun _ _ _ _ _ _ us hl => match us, hl with | [_], _ => rfl
  have b_h_write : Binds K fd_h_write ["self", "deeds"] [] := FunD.bindsN F_h_write fun _ _ _ _ _ _ us hl => match us, hl with | [_, _], _ => rfl
  have b_h_put_0 : ∃ ds, Vals [] ds ∧ Binds K fd_h_put ["self", "key", "value", "lease"] ds := FunD.binds1 (dvs := [.non]) F_h_put 4 1 (by simp) rfl fun _ _ _ _ _ _ _ us its hl hi => match us, its, hl, hi with | [_, _, _, _], [_], _, _ => ⟨_, rfl, rfl⟩
  have b_h_put_1 : ∃ ds, Vals [V.non] ds ∧ Binds K fd_h_put ["self", "key", "value", "lease"] ds := FunD.binds1 (dvs := [.non]) F_h_put 3 0 (by simp) rfl fun _ _ _ _ _ _ _ us its hl hi => match us, its, hl, hi with | [_, _, _], [_], _, _ => ⟨_, rfl, rfl⟩
  have b_h_drop : Binds K fd_h_drop ["self", "key"] [] := FunD.bindsN F_h_drop fun _ _ _ _ _ _ us hl => match us, hl with | [_, _], _ => rfl
  have b_h_number : Binds K fd_h_number ["self"] [] := FunD.bindsN F_h_number fun _ _ _ _ _ _ us hl => match us, hl with | [_], _ => rfl
  have b_h_records_at : Binds K fd_h_records_at ["self", "number"] [] := FunD.bindsN F_h_records_at fun _ _ _ _ _ _ us hl => match us, hl with | [_, _], _ => rfl
  have b_h_records_when : Binds K fd_h_records_when ["self", "number"] [] := FunD.bindsN F_h_records_when fun _ _ _ _ _ _ us hl => match us, hl with | [_, _], _ => rfl
  have b_h_look_0 : ∃ ds, Vals [] ds ∧ Binds K fd_h_look ["self", "key", "number"] ds := FunD.binds1 (dvs := [.non]) F_h_look 3 1 (by simp) rfl fun _ _ _ _ _ _ _ us its hl hi => match us, its, hl, hi with | [_, _, _], [_], _, _ => ⟨_, rfl, rfl⟩
  have b_h_look_1 : ∃ ds, Vals [V.non] ds ∧ Binds K fd_h_look ["self", "key", "number"] ds := FunD.binds1 (dvs := [.non]) F_h_look 2 0 (by simp) rfl fun _ _ _ _ _ _ _ us its hl hi => match us, its, hl, hi with | [_, _], [_], _, _ => ⟨_, rfl, rfl⟩
  have b_h_rows_0 : ∃ ds, Vals [] ds ∧ Binds K fd_h_rows ["self", "first", "last", "number"] ds := FunD.binds1 (dvs := [.non]) F_h_rows 4 1 (by simp) rfl fun _ _ _ _ _ _ _ us its hl hi => match us, its, hl, hi with | [_, _, _, _], [_], _, _ => ⟨_, rfl, rfl⟩
  have b_h_rows_1 : ∃ ds, Vals [V.non] ds ∧ Binds K fd_h_rows ["self", "first", "last", "number"] ds := FunD.binds1 (dvs := [.non]) F_h_rows 3 0 (by simp) rfl fun _ _ _ _ _ _ _ us its hl hi => match us, its, hl, hi with | [_, _, _], [_], _, _ => ⟨_, rfl, rfl⟩
  have b_h_need_lease : Binds K fd_h_need_lease ["self", "lease"] [] := FunD.bindsN F_h_need_lease fun _ _ _ _ _ _ us hl => match us, hl with | [_, _], _ => rfl
  have b_l_cell_at : Binds K fd_l_cell_at ["script", "k"] [] := FunD.bindsN F_l_cell_at fun _ _ _ _ _ _ us hl => match us, hl with | [_, _], _ => rfl
  have b_l_mixed : Binds K fd_l_mixed ["script", "k", "many"] [] := FunD.bindsN F_l_mixed fun _ _ _ _ _ _ us hl => match us, hl with | [_, _, _], _ => rfl
  have b_l_key : Binds K fd_l_key ["script", "at"] [] := FunD.bindsN F_l_key fun _ _ _ _ _ _ us hl => match us, hl with | [_, _], _ => rfl
  have b_l_keys : Binds K fd_l_keys ["script", "at"] [] := FunD.bindsN F_l_keys fun _ _ _ _ _ _ us hl => match us, hl with | [_, _], _ => rfl
  have b_l_span : Binds K fd_l_span ["script", "at", "keys"] [] := FunD.bindsN F_l_span fun _ _ _ _ _ _ us hl => match us, hl with | [_, _, _], _ => rfl
  have b_l_rows : Binds K fd_l_rows ["records", "first", "last"] [] := FunD.bindsN F_l_rows fun _ _ _ _ _ _ us hl => match us, hl with | [_, _, _], _ => rfl
  have b_law : Binds K fd_law ["script"] [] := FunD.bindsN F_law fun _ _ _ _ _ _ us hl => match us, hl with | [_], _ => rfl
  refine ⟨fd_law, fun s v => FunD.bindsA (ps := ["script"]) F_law (fun _ _ _ _ _ _ us hl => match us, hl with | [_], _ => rfl) s [v] rfl, fun base _ _ => ?_⟩
  have o_is_key := ok_is_key (P := P) (w := w) (mg := mg) (base := base) B n_SIGNS n_LONGEST F_is_key
  have c_is_key : CFn P w K mg base CX0 1 "is_key" ["thing"] (sp_is_key K) := ⟨_, _, He.glo_ok X G (c.fact 0 (f := .glo "is_key") rfl), F_is_key.kp, b_is_key, o_is_key⟩
  have o_is_whole := ok_is_whole (P := P) (w := w) (mg := mg) (base := base) B F_is_whole
  have c_is_whole : CFn P w K mg base CX0 1 "is_whole" ["thing", "low"] (sp_is_whole K) := ⟨_, _, He.glo_ok X G (c.fact 1 (f := .glo "is_whole") rfl), F_is_whole.kp, b_is_whole, o_is_whole⟩
  have o_is_within := ok_is_within (P := P) (w := w) (mg := mg) (base := base)  F_is_within
  have c_is_within : CFn P w K mg base CX0 1 "is_within" ["key", "first", "last"] (sp_is_within K) := ⟨_, _, He.glo_ok X G (c.fact 5 (f := .glo "is_within") rfl), F_is_within.kp, b_is_within, o_is_within⟩
  have o_change := ok_change (P := P) (w := w) (mg := mg) (base := base)  F_change
  have c_change : CFn P w K mg base CX0 1 "change" ["records", "event"] (sp_change K) := ⟨_, _, He.glo_ok X G (c.fact 6 (f := .glo "change") rfl), F_change.kp, b_change, o_change⟩
  have o_in_rows := ok_in_rows (P := P) (w := w) (mg := mg) (base := base) B F_in_rows
  have c_in_rows : CFn P w K mg base CX0 1 "in_rows" ["records"] (sp_in_rows K) := ⟨_, _, He.glo_ok X G (c.fact 7 (f := .glo "in_rows") rfl), F_in_rows.kp, b_in_rows, o_in_rows⟩
  have o_h_init := ok_h_init (P := P) (w := w) (mg := mg) (base := base) HC F_h_init
  have k_h_init : CKn P w K mg base CX0 1 (clsHouse K) "House" ["self"] (sp_h_init K) := ⟨_, _, He.mkr_ok (c.fact 27 (f := .mkr "House") rfl), He.glo_ok X G (c.fact 25 (f := .glo "House") rfl), b_h_init, o_h_init⟩
  have o_h_number := ok_h_number (P := P) (w := w) (mg := mg) (base := base) HC F_h_number
  have m_h_number : CMn P w K mg base CX0 1 (clsHouse K) "number" ["self"] [] (sp_h_number K) := ⟨_, _, [], He.meth_ok (c.fact 12 (f := .meth "House" "number") rfl), .nil, b_h_number, o_h_number⟩
  have o_l_cell_at := ok_l_cell_at (P := P) (w := w) (mg := mg) (base := base) B F_l_cell_at
  have c_l_cell_at : CFn P w K mg base CX0 1 "_law_cell_at" ["script", "k"] (sp_l_cell_at K) := ⟨_, _, He.glo_ok X G (c.fact 18 (f := .glo "_law_cell_at") rfl), F_l_cell_at.kp, b_l_cell_at, o_l_cell_at⟩
  have o_l_rows := ok_l_rows (P := P) (w := w) (mg := mg) (base := base) B F_l_rows
  have c_l_rows : CFn P w K mg base CX0 1 "_law_rows" ["records", "first", "last"] (sp_l_rows K) := ⟨_, _, He.glo_ok X G (c.fact 23 (f := .glo "_law_rows") rfl), F_l_rows.kp, b_l_rows, o_l_rows⟩
  have o_is_value := ok_is_value (P := P) (w := w) (mg := mg) (base := base) n_MOST c_is_whole F_is_value
  have c_is_value : CFn P w K mg base CX0 2 "is_value" ["thing"] (sp_is_value K) := ⟨_, _, He.glo_ok X G (c.fact 2 (f := .glo "is_value") rfl), F_is_value.kp, b_is_value, o_is_value⟩
  have o_need_key := ok_need_key (P := P) (w := w) (mg := mg) (base := base) x_NoKey c_is_key F_need_key
  have c_need_key : CFn P w K mg base (L2.CX P w) 2 "need_key" ["key"] (sp_need_key K) := ⟨_, _, He.glo_ok X G (c.fact 3 (f := .glo "need_key") rfl), F_need_key.kp, b_need_key, o_need_key⟩
  have o_h_write := ok_h_write (P := P) (w := w) (mg := mg) (base := base) B HC c_change F_h_write
  have m_h_write : CMn P w K mg base CX0 2 (clsHouse K) "write" ["self", "deeds"] [] (sp_h_write K) := ⟨_, _, [], He.meth_ok (c.fact 9 (f := .meth "House" "write") rfl), .nil, b_h_write, o_h_write⟩
  have o_h_records_at := ok_h_records_at (P := P) (w := w) (mg := mg) (base := base) B HC c_change F_h_records_at
  have m_h_records_at : CMn P w K mg base CX0 2 (clsHouse K) "records_at" ["self", "number"] [] (sp_h_records_at K) := ⟨_, _, [], He.meth_ok (c.fact 13 (f := .meth "House" "records_at") rfl), .nil, b_h_records_at, o_h_records_at⟩
  have o_h_need_lease := ok_h_need_lease (P := P) (w := w) (mg := mg) (base := base) HC x_NoLease c_is_whole F_h_need_lease
  have m_h_need_lease : CMn P w K mg base (L2.CX P w) 2 (clsHouse K) "need_lease" ["self", "lease"] [] (sp_h_need_lease K) := ⟨_, _, [], He.meth_ok (c.fact 17 (f := .meth "House" "need_lease") rfl), .nil, b_h_need_lease, o_h_need_lease⟩
  have o_l_mixed := ok_l_mixed (P := P) (w := w) (mg := mg) (base := base) c_l_cell_at F_l_mixed
  have c_l_mixed : CFn P w K mg base CX0 2 "_law_mixed" ["script", "k", "many"] (sp_l_mixed K) := ⟨_, _, He.glo_ok X G (c.fact 19 (f := .glo "_law_mixed") rfl), F_l_mixed.kp, b_l_mixed, o_l_mixed⟩
  have o_need_value := ok_need_value (P := P) (w := w) (mg := mg) (base := base) x_NoValue c_is_value F_need_value
  have c_need_value : CFn P w K mg base (L2.CX P w) 3 "need_value" ["value"] (sp_need_value K) := ⟨_, _, He.glo_ok X G (c.fact 4 (f := .glo "need_value") rfl), F_need_value.kp, b_need_value, o_need_value⟩
  have o_h_drop := ok_h_drop (P := P) (w := w) (mg := mg) (base := base) HC c_need_key m_h_write F_h_drop
  have m_h_drop : CMn P w K mg base (L2.CX P w) 3 (clsHouse K) "drop" ["self", "key"] [] (sp_h_drop K) := ⟨_, _, [], He.meth_ok (c.fact 11 (f := .meth "House" "drop") rfl), .nil, b_h_drop, o_h_drop⟩
  have o_h_records_when := ok_h_records_when (P := P) (w := w) (mg := mg) (base := base) HC x_NoNumber x_Folded c_is_whole m_h_records_at F_h_records_when
  have m_h_records_when : CMn P w K mg base (L2.CX P w) 3 (clsHouse K) "records_when" ["self", "number"] [] (sp_h_records_when K) := ⟨_, _, [], He.meth_ok (c.fact 14 (f := .meth "House" "records_when") rfl), .nil, b_h_records_when, o_h_records_when⟩
  have o_l_key := ok_l_key (P := P) (w := w) (mg := mg) (base := base) B c_l_mixed F_l_key
  have c_l_key : CFn P w K mg base CX0 3 "_law_key" ["script", "at"] (sp_l_key K) := ⟨_, _, He.glo_ok X G (c.fact 20 (f := .glo "_law_key") rfl), F_l_key.kp, b_l_key, o_l_key⟩
  have o_l_span := ok_l_span (P := P) (w := w) (mg := mg) (base := base) B c_l_mixed F_l_span
  have c_l_span : CFn P w K mg base CX0 3 "_law_span" ["script", "at", "keys"] (sp_l_span K) := ⟨_, _, He.glo_ok X G (c.fact 22 (f := .glo "_law_span") rfl), F_l_span.kp, b_l_span, o_l_span⟩
  have o_h_put := ok_h_put (P := P) (w := w) (mg := mg) (base := base) HC c_need_key c_need_value m_h_need_lease m_h_write F_h_put
  have m_h_put_1 : CMn P w K mg base (L2.CX P w) 4 (clsHouse K) "put" ["self", "key", "value", "lease"] [.non] (sp_h_put K) := by
    obtain ⟨ds, h1, h2⟩ := b_h_put_1
    exact ⟨_, _, ds, He.meth_ok (c.fact 10 (f := .meth "House" "put") rfl), h1, h2, o_h_put⟩
  have o_h_look := ok_h_look (P := P) (w := w) (mg := mg) (base := base) HC c_need_key m_h_records_when F_h_look
  have m_h_look_1 : CMn P w K mg base (L2.CX P w) 4 (clsHouse K) "look" ["self", "key", "number"] [.non] (sp_h_look K) := by
    obtain ⟨ds, h1, h2⟩ := b_h_look_1
    exact ⟨_, _, ds, He.meth_ok (c.fact 15 (f := .meth "House" "look") rfl), h1, h2, o_h_look⟩
  have o_h_rows := ok_h_rows (P := P) (w := w) (mg := mg) (base := base) HC c_need_key c_in_rows m_h_records_when c_is_within F_h_rows
  have m_h_rows_1 : CMn P w K mg base (L2.CX P w) 4 (clsHouse K) "rows" ["self", "first", "last", "number"] [.non] (sp_h_rows K) := by
    obtain ⟨ds, h1, h2⟩ := b_h_rows_1
    exact ⟨_, _, ds, He.meth_ok (c.fact 16 (f := .meth "House" "rows") rfl), h1, h2, o_h_rows⟩
  have o_l_keys := ok_l_keys (P := P) (w := w) (mg := mg) (base := base) B c_l_key c_l_mixed F_l_keys
  have c_l_keys : CFn P w K mg base CX0 4 "_law_keys" ["script", "at"] (sp_l_keys K) := ⟨_, _, He.glo_ok X G (c.fact 21 (f := .glo "_law_keys") rfl), F_l_keys.kp, b_l_keys, o_l_keys⟩
  exact ok_law (P := P) (w := w) (base := base) B HC c_l_keys k_h_init c_l_mixed m_h_drop m_h_put_1 m_h_number m_h_look_1 c_l_span m_h_rows_1 c_l_rows F_law
end KW
open PySem PySem.W PySem.Calls PyProof.Rows
set_option maxHeartbeats 0 in
theorem PySem.Challenge.cw_keywatch_k01_put_holds : PySem.Challenge.rw_keywatch_k01_put.Holds := by
  w_on; o_law
  refine HandSHeadRun.head_any (r := OpenLaw.row PySem.Challenge.rw_keywatch_k01_put) (q := view (OpenLaw.row PySem.Challenge.rw_keywatch_k01_put).prog [31]) (H := KW.hk) (ob := KW.ob) (M := 40000) (loose := KW.loose) (d := HandSHeadRun.topDef (OpenLaw.row PySem.Challenge.rw_keywatch_k01_put).prog 31) (kwd := []) KW.ob_eq
    (by kernel_rfl) (fun s => by kernel_rfl) KW.run (by kernel_rfl) (by kernel_rfl) (by kernel_rfl) (by rfl) (by first | assumption | decide +kernel) (by decide +kernel) ⟨rfl, rfl, rfl, rfl, rfl, by decide +kernel⟩ ?hw ?hc
  case hw => w_witness2
  case hc =>
    refine L2.walk_ofE (l := PySem.Challenge.rw_keywatch_k01_put) (n := 63) (k := 5) (x := "script") (CX := L2.CX0) rfl (by decide) (by kernel_rfl) ⟨rfl, by decide, by decide⟩ ?F (fun _ _ _ _ z => z)
    intro w mg fa h Y G hmg0
    obtain ⟨K, KX, c⟩ := Y
    have hmg : mg ("law" : PySem.Str) = some (.ref fa) := by
      have e : (HandSHeadRun.topDef (OpenLaw.row PySem.Challenge.rw_keywatch_k01_put).prog 31).name = ("law" : PySem.Str) := by kernel_rfl
      rw [← e]
      exact hmg0
    obtain ⟨fd, hb, hF⟩ := KW.facts (P := (PySem.Challenge.rw_keywatch_k01_put).prog) (w := w) KX G hmg c
    exact ⟨K, fd, KW.sp_law K, KX, hb, fun H a ns hl ho hS => ⟨a, ns, rfl, KW.Scr.of hl hS ho, fun _ => rfl⟩, hF⟩
#print axioms PySem.Challenge.cw_keywatch_k01_put_holds
