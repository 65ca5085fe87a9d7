import PyProof.Rows.All
import Wide.All
import OpenK.AllK
import Wide.FinOn
import KE.KStateDown
import Lean
import HandS.ForMost
import HandS.ForExc
import HandS.Defaults
import HandS.More
import HandS.Conv
import HandS.IsInst
import HandS.TupAny
import HandS.TupMul
import HandS.Evl
import HandS.HeadHook1
import HandS.HeadHook2
import HandS.SortInts
import HandS.Steps
import KE.Datum
import HandS.Strs
import HandS.SortRule
import HandS.Head0
import HandS.Head1
import HandS.Head2
import HandS.HeadEnd
import PySem.Challenge.RW_keywatch_k06_whole_from_there
set_option Elab.async false
set_option linter.all false
set_option maxRecDepth 100000
set_option maxHeartbeats 4000000
/-! own rules over the hand layer: a tuple times 0 or 1, max and min of two texts, defs and methods as one thing each -/
namespace KW
open PySem PySem.Spec PyProof.Rows L2

/-! ### t * 0, t * 1 -/
theorem tuple_mul1 (l : Addr) (items : Array Value) (n : Nat) (sl : Array (Option Value)) (dd : Option Addr) (u : Tok) :
    Meets (Builtin.«tuple.__mul__» ⟨[.ref l, .int 1 u], []⟩) (fun _ R s => s.heap.get? l = some { cls := .type "tuple", dict := dd, data := .seq items n, slots := sl } ∧ R (.ok (.ret (Value.ref l))) s) :=
  .of_wp fun prog w A R s h => by
    obtain ⟨hp, g, d, tk, os⟩ := s
    obtain ⟨hl, h⟩ := h
    have f1 := AutoSeq1.idx_int
    have c1 : (items.isEmpty || (1 : Int) == 1) = true := by simp
    wp_walk using wpAny_loadPart' hl
    repeat (first
      | (refine wpAny_ite_true (decide_eq_true (by rw [c1])) ?_; wp_walk using wpAny_loadPart' hl))
    exact ⟨_, rfl, h⟩
theorem tuple_mul0 (l : Addr) (items : Array Value) (n : Nat) (sl : Array (Option Value)) (dd : Option Addr) (u : Tok) (hne : items.isEmpty = false) :
    Meets (Builtin.«tuple.__mul__» ⟨[.ref l, .int 0 u], []⟩) (fun _ R s => s.heap.get? l = some { cls := .type "tuple", dict := dd, data := .seq items n, slots := sl } ∧
      R (.ok (.ret (Value.ref s.heap.objs.size))) { s with heap := s.heap.push { cls := Value.type "tuple", data := Data.seq #[] }, toks := s.toks }) :=
  .of_wp fun prog w A R s h => by
    obtain ⟨hp, g, d, tk, os⟩ := s
    obtain ⟨hl, h⟩ := h
    have f1 := AutoSeq1.idx_int
    have c1 : (items.isEmpty || (0 : Int) == 1) = false := by rw [hne]; rfl
    wp_walk using wpAny_loadPart' hl
    repeat (first
      | (refine wpAny_ite_false (decide_eq_false (by rw [c1]; exact Bool.false_ne_true)) ?_; wp_walk using wpAny_loadPart' hl))
    exact ⟨_, rfl, h⟩
def rRep01 (K : PySem.W.Frag) : R2 := fun x y H Q => ∃ l k xs, x = .ref l ∧ y = .int k ∧ SqT K H l xs ∧ xs ≠ [] ∧ ((k = 1 ∧ Q (.ref l) H) ∨ (k = 0 ∧ ∀ p, H p = none → Q (.ref p) (upd H p (.tup []))))
section
variable {X : Cx}
theorem op_rep01 : OpR X (binaryOp .Mult) (rRep01 X.K) := by
  intro pins s σ H x y v u Q I rx ry h
  obtain ⟨l, k, xs, rfl, rfl, hT, hne, h⟩ := h
  cases rx
  obtain ⟨t, rfl⟩ := ry
  obtain ⟨its, r, ⟨⟨cls, dd, data, sl⟩, ho, hc, n, hd⟩, hs⟩ := I.tuple hT
  simp only at hc hd
  subst hc hd
  have hle : its.length = xs.length := r.length.symm
  have hn : its ≠ [] := fun e => hne (by
    rw [e] at hle
    exact List.eq_nil_of_length_eq_zero hle.symm)
  have hi : its.toArray.isEmpty = false := by
    cases its with
    | nil => exact absurd rfl hn
    | cons a b => rfl
  rcases h with ⟨rfl, q⟩ | ⟨rfl, q⟩
  · exact wpAny_binaryOp_repeat_ref (T := "tuple") (U := "int") (by decide) ⟨_, ho, rfl⟩ (fun s' => typeIs_int s' 1 t) noFill_tuple_mul F.fills_int_mul F.slot_int_rmul repeat_tuple F.slot_int_index.lookup
      (call_meets F.slot_int_rmul (typeIs_int s 1 t) F.entry_int_rmul (F.args_int_rmul_2 _ _) (int_rmul_tuple 1 t l its.toArray n dd sl)
        ⟨ho, rfl, ⟨_, ho, rfl⟩, call_meets F.slot_tuple_mul ⟨_, ho, rfl⟩ F.entry_tuple_mul (F.args_tuple_mul_2 _ _) (tuple_mul1 l its.toArray n sl dd t) ⟨ho, .ref l, H, I, rfl, q⟩⟩)
  · exact wpAny_binaryOp_repeat_ref (T := "tuple") (U := "int") (by decide) ⟨_, ho, rfl⟩ (fun s' => typeIs_int s' 0 t) noFill_tuple_mul F.fills_int_mul F.slot_int_rmul repeat_tuple F.slot_int_index.lookup
      (call_meets F.slot_int_rmul (typeIs_int s 0 t) F.entry_int_rmul (F.args_int_rmul_2 _ _) (int_rmul_tuple 0 t l its.toArray n dd sl)
        ⟨ho, rfl, ⟨_, ho, rfl⟩, call_meets F.slot_tuple_mul ⟨_, ho, rfl⟩ F.entry_tuple_mul (F.args_tuple_mul_2 _ _) (tuple_mul0 l its.toArray n sl dd t hi)
          ⟨ho, .ref s.heap.objs.size, _, I.laid (t' := s.toks) (o := .tup []) (fun b ob q => Heap.get?_push_of_some _ q) (Nat.le_refl _) ⟨Nat.zero_le _, [], .nil, IsTup.new _ _⟩, rfl, q _ (I.hok.fresh (Nat.le_refl _))⟩⟩)
end

/-! ### max, min of two texts -/
theorem cmp_strs_gt {prog : Program} {w : World} {A : Around} {P : Nat → Value → Prop} (val : Nat → Str) (hval : ∀ i v, P i v → ∃ t, v = .str (val i) t) :
    CmpOf prog w A .Gt P (fun i j => decide ((val j).cps.toList < (val i).cps.toList)) := fun i j vi vj s Q E hi hj h => by
  obtain ⟨t, rfl⟩ := hval i vi hi
  obtain ⟨u, rfl⟩ := hval j vj hj
  exact richCompare_gives (op := .Gt) (typeIs_str s _ t) (typeIs_str s _ u) F.slot_str_gt F.entry_str_gt (F.args_str_gt_2 _ _) (gives_str_gt _ _ t u) (fun x => nomatch x) h
theorem cmp_strs_lt {prog : Program} {w : World} {A : Around} {P : Nat → Value → Prop} (val : Nat → Str) (hval : ∀ i v, P i v → ∃ t, v = .str (val i) t) :
    CmpOf prog w A .Lt P (fun i j => decide ((val i).cps.toList < (val j).cps.toList)) := fun i j vi vj s Q E hi hj h => by
  obtain ⟨t, rfl⟩ := hval i vi hi
  obtain ⟨u, rfl⟩ := hval j vj hj
  exact richCompare_gives (op := .Lt) (typeIs_str s _ t) (typeIs_str s _ u) F.slot_str_lt F.entry_str_lt (F.args_str_lt_2 _ _) (gives_str_lt _ _ t u) (fun x => nomatch x) h
theorem iter_list0 {prog : Program} {w : World} {A : Around} {E : Value → Shared → Prop} {s : Shared} {l : Addr} {items : Array Value} {Q : Value → Shared → Prop} (hl : s.heap.IsList l items)
    (h : ∀ s2 : Shared, s2 = { s with heap := s.heap.push { cls := .type "list_iterator", data := .fields #[.ref l, .int 0 0] } } →
      (s2.heap.IsListIter s.heap.objs.size l 0 ∧ s2.heap.IsList l items) → (∀ b ∈ [s.heap.objs.size, l], b < s2.heap.objs.size) → l ≠ s.heap.objs.size → Q (.ref s.heap.objs.size) s2) :
    wpAny (model prog w) A (pyIter (.ref l)) Q E s := by
  have hlt : l < s.heap.objs.size := by obtain ⟨_, e, _⟩ := hl; exact Heap.lt_size e
  refine wpAny_pyIter_list hl (h _ rfl ⟨⟨_, Heap.get?_push_size _ rfl, rfl, rfl⟩, hl.push _⟩ (fun b hb => ?_) (Nat.ne_of_lt hlt))
  show b < (s.heap.push _).objs.size
  rw [Heap.size_push]
  rcases List.mem_cons.mp hb with rfl | hb
  · exact Nat.lt_succ_self _
  · rcases List.mem_cons.mp hb with rfl | hb
    · exact Nat.lt_succ_of_lt hlt
    · cases hb
/-- the greater of two texts; the first, where they are the same -/
def maxS (x y : Str) : Str := if x.cps.toList < y.cps.toList then y else x
def minS (x y : Str) : Str := if y.cps.toList < x.cps.toList then y else x
def rMaxS (K : PySem.W.Frag) : List V → Hp → VK → Prop := fun vs H Q => ∃ (a : Addr) (x y : Str), vs = [V.ref a] ∧ SqL K H a [.str x, .str y] ∧ Q (.str (maxS x y)) H
def rMinS (K : PySem.W.Frag) : List V → Hp → VK → Prop := fun vs H Q => ∃ (a : Addr) (x y : Str), vs = [V.ref a] ∧ SqL K H a [.str x, .str y] ∧ Q (.str (minS x y)) H
def two (x y : Str) (i : Nat) : Str := if i = 0 then x else y
theorem two_at {x y : Str} {t u : Tok} {i : Nat} {v : Value} (h : (#[Value.str x t, Value.str y u] : Array Value)[i]? = some v) : ∃ t, v = .str (two x y i) t := by
  match i, h with
  | 0, h => cases h; exact ⟨t, rfl⟩
  | 1, h => cases h; exact ⟨u, rfl⟩
  | n + 2, h => simp at h
section
variable {X : Cx}
theorem vals_two {x y : Str} {us : List Value} (r : Vals [.str x, .str y] us) : ∃ t u, us = [Value.str x t, Value.str y u] := by
  cases r with
  | cons a r =>
    cases r with
    | cons b r =>
      cases r
      obtain ⟨t, rfl⟩ := a
      obtain ⟨u, rfl⟩ := b
      exact ⟨t, u, rfl⟩
theorem cr_maxS (hc : X.calm = true) : CallR X (.builtin "max") (rMaxS X.K) := by
  intro pins s σ H vs us Q I r h
  obtain ⟨a, x, y, rfl, hs, q⟩ := h
  obtain ⟨its, rv, hl, _⟩ := I.list hs
  rw [Vals.ref1 r]
  obtain ⟨t, u, rfl⟩ := vals_two rv
  refine call_max_walk (iter_list0 hl.isList fun s2 e st hfp hlI => ?_)
  subst e
  refine ⟨_, _, _, _, _, _, _, rfl, Walks.list (A := X.A.in1) (I.ok.hd hc) _ a hlI _, st, hfp, by simp, cmp_strs_gt (two x y) (fun _ _ h => two_at h), fun v h' tk hP hk => ?_⟩
  have hk' := old_kept hk
  have e1 : argBest (fun i j => decide ((two x y j).cps.toList < (two x y i).cps.toList)) 1 = if x.cps.toList < y.cps.toList then 1 else 0 := by
    show (if decide ((two x y 0).cps.toList < (two x y 1).cps.toList) = true then 1 else 0) = _
    simp [two]
  have hP2 : (#[Value.str x t, Value.str y u] : Array Value)[argBest (fun i j => decide ((two x y j).cps.toList < (two x y i).cps.toList)) 1]? = some v := hP
  rw [e1] at hP2
  obtain ⟨t', rfl⟩ := two_at hP2
  refine ⟨.str (maxS x y), H, I.kept hk', ⟨t', ?_⟩, q⟩
  unfold two maxS
  by_cases hb : x.cps.toList < y.cps.toList <;> simp [hb]
theorem cr_minS (hc : X.calm = true) : CallR X (.builtin "min") (rMinS X.K) := by
  intro pins s σ H vs us Q I r h
  obtain ⟨a, x, y, rfl, hs, q⟩ := h
  obtain ⟨its, rv, hl, _⟩ := I.list hs
  rw [Vals.ref1 r]
  obtain ⟨t, u, rfl⟩ := vals_two rv
  refine call_min_walk (iter_list0 hl.isList fun s2 e st hfp hlI => ?_)
  subst e
  refine ⟨_, _, _, _, _, _, _, rfl, Walks.list (A := X.A.in1) (I.ok.hd hc) _ a hlI _, st, hfp, by simp, cmp_strs_lt (two x y) (fun _ _ h => two_at h), fun v h' tk hP hk => ?_⟩
  have hk' := old_kept hk
  have e1 : argBest (fun i j => decide ((two x y i).cps.toList < (two x y j).cps.toList)) 1 = if y.cps.toList < x.cps.toList then 1 else 0 := by
    show (if decide ((two x y 1).cps.toList < (two x y 0).cps.toList) = true then 1 else 0) = _
    simp [two]
  have hP2 : (#[Value.str x t, Value.str y u] : Array Value)[argBest (fun i j => decide ((two x y i).cps.toList < (two x y j).cps.toList)) 1]? = some v := hP
  rw [e1] at hP2
  obtain ⟨t', rfl⟩ := two_at hP2
  refine ⟨.str (minS x y), H, I.kept hk', ⟨t', ?_⟩, q⟩
  unfold two minS
  by_cases hb : y.cps.toList < x.cps.toList <;> simp [hb]
end

/-! ### defs, methods, classes as callers have them -/
def CFn (P : Program) (w : World) (K : PySem.W.Frag) (mg : Str → Option Value) (base : Heap) (CX : CXT) (k : Nat) (x : Str) (ps : List Str) (sp : Sp) : Prop :=
  ∃ (f : Addr) (fd : FuncData), mg x = some (.ref f) ∧ PySem.W.keepIn K (.ref f) = true ∧ Binds K fd ps [] ∧ FnOk P w K mg base CX k f fd ps sp
def CMn (P : Program) (w : World) (K : PySem.W.Frag) (mg : Str → Option Value) (base : Heap) (CX : CXT) (k : Nat) (C : Addr) (m : Str) (ps : List Str) (dvs : List V) (sp : Sp) : Prop :=
  ∃ (f : Addr) (fd : FuncData) (ds : List Value), Meth K C m f ∧ Vals dvs ds ∧ Binds K fd ps ds ∧ FnOk P w K mg base CX k f fd ps sp
def CKn (P : Program) (w : World) (K : PySem.W.Frag) (mg : Str → Option Value) (base : Heap) (CX : CXT) (k : Nat) (C : Addr) (x : Str) (ps : List Str) (sp : Sp) : Prop :=
  ∃ (f : Addr) (fd : FuncData), Mk K C f ∧ mg x = some (.ref C) ∧ Binds K fd ps [] ∧ FnOk P w K mg base CX k f fd ps sp
section
variable {X : Cx} {CX : CXT} {k : Nat} {C : Addr} {ps : List Str} {sp : Sp} {dvs : List V} {E : XK} {x m : Str} {p pos apos : Pos} {e o : Expr} {es : List Expr} {ta : TE} {t : TA}
theorem pe_cf (h : CFn X.prog X.w X.K X.mg X.base CX k x ps sp) (hr : Room k X.A) (hg : Gl X x) (hx : Passes CX X E) (ha : PA X (e :: es) t)
    (hdb : (x == ("__debug__" : Str)) = false := by decide) (he : starEach (e :: es) X.env = (false, eval e X.env) :: starEach es X.env := by rfl) (hpl : (backTo pos (starEach es X.env)).any (·.1) = false := by rfl) :
    PE X (.Call (.Name x p) (e :: es) [] pos) (tCall sp [] E t) := by
  obtain ⟨f, fd, h1, h2, h3, h4⟩ := h
  exact pe_call h4 hr hg h1 h2 h3 .nil hx ha hdb he hpl
theorem pe_cf0 (h : CFn X.prog X.w X.K X.mg X.base CX k x ps sp) (hr : Room k X.A) (hg : Gl X x) (hx : Passes CX X E)
    (hdb : (x == ("__debug__" : Str)) = false := by decide) : PE X (.Call (.Name x p) [] [] pos) (tCall sp [] E tNil) := by
  obtain ⟨f, fd, h1, h2, h3, h4⟩ := h
  exact pe_call0 h4 hr hg h1 h2 h3 .nil hx hdb
theorem pe_cm {pl : Sem Bool} (he : PE X o ta) (c : Cls X.K C) (h : CMn X.prog X.w X.K X.mg X.base CX k C m ps dvs sp) (hr : Room k X.A) (hx : Passes CX X E) (ha : PA X (e :: es) t)
    (hst : starEach (e :: es) X.env = (false, eval e X.env) :: starEach es X.env := by rfl) (hpl : (backTo pos (starEach es X.env)).any (·.1) = false := by rfl)
    (ht : eval (.Call (.Attribute o m apos) (e :: es) [] pos) X.env = (do
      let ov ← eval o X.env
      standAt apos.atName
      let (f, first) ← holding [ov] (getMethod ov m pl)
      callWith pos f first (backTo pos (starEach (e :: es) X.env)) (backToKw pos (keywordEach [] X.env))) := by rfl) :
    PE X (.Call (.Attribute o m apos) (e :: es) [] pos) (tMeth C m sp dvs E ta t) := by
  obtain ⟨f, fd, ds, h1, h2, h3, h4⟩ := h
  exact pe_meth (pl := pl) he c h1 h4 hr h3 h2 hx ha hst hpl ht
theorem pe_cm0 {pl : Sem Bool} (he : PE X o ta) (c : Cls X.K C) (h : CMn X.prog X.w X.K X.mg X.base CX k C m ps dvs sp) (hr : Room k X.A) (hx : Passes CX X E)
    (ht : eval (.Call (.Attribute o m apos) [] [] pos) X.env = (do
      let ov ← eval o X.env
      standAt apos.atName
      let (f, first) ← holding [ov] (getMethod ov m pl)
      callWith pos f first (backTo pos (starEach [] X.env)) (backToKw pos (keywordEach [] X.env))) := by rfl) :
    PE X (.Call (.Attribute o m apos) [] [] pos) (tMeth C m sp dvs E ta tNil) := by
  obtain ⟨f, fd, ds, h1, h2, h3, h4⟩ := h
  exact pe_meth0 (pl := pl) he c h1 h4 hr h3 h2 hx ht
theorem pe_ck0 (h : CKn X.prog X.w X.K X.mg X.base CX k C x ps sp) (hr : Room (k + 1) X.A) (hg : Gl X x) (hx : Passes CX X E)
    (hdb : (x == ("__debug__" : Str)) = false := by decide) : PE X (.Call (.Name x p) [] [] pos) (tMake C sp [] E tNil) := by
  obtain ⟨f, fd, h1, h2, h3, h4⟩ := h
  exact pe_make0 h1 h4 hr hg h2 h3 .nil hx hdb
theorem pe_ck (h : CKn X.prog X.w X.K X.mg X.base CX k C x ps sp) (hr : Room (k + 1) X.A) (hg : Gl X x) (hx : Passes CX X E) (ha : PA X (e :: es) t)
    (hdb : (x == ("__debug__" : Str)) = false := by decide) (he : starEach (e :: es) X.env = (false, eval e X.env) :: starEach es X.env := by rfl) (hpl : (backTo pos (starEach es X.env)).any (·.1) = false := by rfl) :
    PE X (.Call (.Name x p) (e :: es) [] pos) (tMake C sp [] E t) := by
  obtain ⟨f, fd, h1, h2, h3, h4⟩ := h
  exact pe_make h1 h4 hr hg h2 h3 .nil hx ha hdb he hpl
end
/-- what a def that may raise lets out, taken up by a body that wishes the same -/
theorem passE {X : Cx} {E : XK} (tk : Takes X (fun cls d _ H => E cls d H)) : Passes (L2.CX X.prog X.w) X E := passes_call tk fun _ _ _ _ h => h
/-- the end of a body by a raise -/
def tRz (E : XK) (C : Addr) : TS := fun _ _ H => E (.ref C) none H
/-- the built-in names that the texts use -/
structure Bi (mg : Str → Option Value) : Prop where
  all : mg "all" = none
  any : mg "any" = none
  bool : mg "bool" = none
  dict : mg "dict" = none
  enumerate : mg "enumerate" = none
  int : mg "int" = none
  isinstance : mg "isinstance" = none
  len : mg "len" = none
  list : mg "list" = none
  max : mg "max" = none
  min : mg "min" = none
  range : mg "range" = none
  set : mg "set" = none
  sorted : mg "sorted" = none
  str : mg "str" = none
  tuple : mg "tuple" = none
end KW

/-! readings by name, and what they evaluate to -/
namespace KW
open PySem PySem.Spec PyProof.Rows L2 Evl

abbrev rAddI : R2 := rI0 fun i j => .int (i + j)
abbrev rSubI : R2 := rI0 fun i j => .int (i - j)
abbrev rMulI : R2 := rI CMul fun i j => .int (i * j)
abbrev rModI : R2 := rI (fun _ j => 0 < j) fun i j => .int (i % j)
abbrev rFdivI : R2 := rI CDiv fun i j => .int (i / j)
abbrev rNegI : V → Hp → VK → Prop := rU fun i => .int (-i)
abbrev rLtI : R2 := rI0 fun i j => .bl (decide (i < j))
abbrev rLeI : R2 := rI0 fun i j => .bl (decide (i ≤ j))
abbrev rGtI : R2 := rI0 fun i j => .bl (decide (j < i))
abbrev rGeI : R2 := rI0 fun i j => .bl (decide (j ≤ i))
def rCatS : R2 := fun x y H Q => ∃ i j, x = .str i ∧ y = .str j ∧ i.length + j.length ≤ sizeLine ∧ Q (.str (i ++ j)) H
def rLtS : R2 := fun x y H Q => ∃ i j, x = .str i ∧ y = .str j ∧ Q (.bl (decide (i.cps.toList < j.cps.toList))) H
def rLeS : R2 := fun x y H Q => ∃ i j, x = .str i ∧ y = .str j ∧ Q (.bl (!decide (j.cps.toList < i.cps.toList))) H
def rLenS1 : List V → Hp → VK → Prop := fun xs H Q => ∃ z, xs = [.str z] ∧ z.length ≤ sizeLine ∧ Q (.int z.length) H
def rLenD : List V → Hp → VK → Prop := fun xs H Q => ∃ a kvs, xs = [V.ref a] ∧ H a = some (.dK kvs) ∧ Q (.int kvs.length) H
def rInt1 : List V → Hp → VK → Prop := fun xs H Q => (∃ i, xs = [.int i] ∧ Q (.int i) H) ∨ ∃ k, xs = [.bl k] ∧ Q (.int (if k then 1 else 0)) H
def rTupOf (K : PySem.W.Frag) : List V → Hp → VK → Prop := fun xs H Q => ∃ p ys, xs = [.ref p] ∧ ((SqL K H p ys ∧ ∀ l, H l = none → Q (.ref l) (upd H l (.tup ys))) ∨ (SqT K H p ys ∧ Q (.ref p) H))
def rDictD : List V → Hp → VK → Prop := fun xs H Q => ∃ (a : Addr) (kvs : List (Key × V)), xs = [.ref a] ∧ Rd H a (.dK kvs) ∧ ∀ p, H p = none → Q (.ref p) (upd H p (.dK kvs))
section
variable {X : Cx}
theorem op_catS : OpR X (binaryOp .Add) rCatS := op_add_str
theorem op_ltS : OpR X (compareOp .Lt) rLtS := op_lt_str
theorem op_leS : OpR X (compareOp .LtE) rLeS := op_le_str
theorem call_len_str1 : CallR X (.builtin "len") rLenS1 := call_len_str
theorem call_lenD1 : CallR X (.builtin "len") rLenD := call_lenD
theorem call_len_seq1 : CallR X (.builtin "len") (rLenS X.K) := call_len_seq
theorem call_int1a : CallR X (.type "int") rInt1 := call_int1
theorem call_list_of1 : CallR X (.type "list") (rListS X.K) := call_list_of
theorem call_tuple_of1 : CallR X (.type "tuple") (rTupOf X.K) := call_tuple_of
theorem call_dictD1 : CallR X (.type "dict") rDictD := call_dictD
theorem pe_gi {x : Str} {i : Int} {pos : Pos} (h : ∃ t, X.mg x = some (.int i t)) (hg : Gl X x) (hd : (x == ("__debug__" : Str)) = false := by decide) : PE X (.Name x pos) (tC (.int i)) := by
  obtain ⟨t, h⟩ := h
  exact pe_glob hg h ⟨t, rfl⟩ hd
theorem pe_gs {x z : Str} {pos : Pos} (h : ∃ t, X.mg x = some (.str z t)) (hg : Gl X x) (hd : (x == ("__debug__" : Str)) = false := by decide) : PE X (.Name x pos) (tC (.str z)) := by
  obtain ⟨t, h⟩ := h
  exact pe_glob hg h ⟨t, rfl⟩ hd
end
/-! ### a list or a tuple that is walked -/
def iSeq (K : PySem.W.Frag) (tl : TE) : TI := fun σ H R => tl σ H fun x H1 => ∃ a, x = .ref a ∧ ((∃ xs, SqL K H1 a xs ∧ R (Itl K a) H1) ∨ ∃ xs, SqT K H1 a xs ∧ R (Itt K a) H1)
theorem pi_seq {X : Cx} {tg l : Expr} {tl : TE} (hl : PE X l tl) : PI X tg l (iSeq X.K tl) := by
  refine ⟨fun pins s σ H R I h => ?_⟩
  refine thn (hl.run pins s σ H _ I h) fun v s1 ⟨x, H1, I1, r1, q1⟩ => ?_
  obtain ⟨a, e, q⟩ := q1
  subst e
  cases r1
  rcases q with ⟨xs, hq, q⟩ | ⟨xs, hq, q⟩
  · obtain ⟨its, rv, p, hz⟩ := I1.list hq
    refine wpAny_pyIter_list p.isList ?_
    refine ⟨s1.heap.objs.size, [s1.heap.objs.size], _, _, H1, rfl, I1.kept (t' := s1.toks) fun b o e => Heap.get?_push_of_some _ e, turn_list a _, ⟨_, Heap.get?_push_size _ rfl, rfl, rfl⟩, fun b hb => ?_, q⟩
    have e : b = s1.heap.objs.size := by simpa using hb
    subst e
    exact I1.fpOk (Nat.le_refl _) (I1.hok.fresh (Nat.le_refl _))
  · obtain ⟨its, rv, p, hz⟩ := I1.tuple hq
    refine wpAny_pyIter_tuple (show s1.heap.IsTuple a its.toArray from p) ?_
    refine ⟨s1.heap.objs.size, [s1.heap.objs.size], _, _, H1, rfl, I1.kept (t' := s1.toks) fun b o e => Heap.get?_push_of_some _ e, turn_tuple a _, ⟨_, Heap.get?_push_size _ rfl, rfl, rfl⟩, fun b hb => ?_, q⟩
    have e : b = s1.heap.objs.size := by simpa using hb
    subst e
    exact I1.fpOk (Nat.le_refl _) (I1.hok.fresh (Nat.le_refl _))
/-! ### == of plain data -/
def rEqP (K : PySem.W.Frag) : R2 := fun x y H Q => ∃ d e, Dp K H x d ∧ Dp K H y e ∧ d.plain = true ∧ e.plain = true ∧ d.depth ≤ 60 ∧ Q (.bl (PyData.eqv d e)) H
def rNeP (K : PySem.W.Frag) : R2 := fun x y H Q => ∃ d e, Dp K H x d ∧ Dp K H y e ∧ d.plain = true ∧ e.plain = true ∧ d.depth ≤ 60 ∧ Q (.bl (!PyData.eqv d e)) H
section
variable {X : Cx}
theorem room_min {A : Around} {d e : PyData} (hu : A.units + 64 < cLine) (h : d.depth ≤ 60) : A.units + min d.depth e.depth < cLine := by
  have h2 : min d.depth e.depth ≤ d.depth := Nat.min_le_left _ _
  omega
theorem op_eqP (hu : X.A.units + 64 < cLine) : OpR X (compareOp .Eq) (rEqP X.K) := by
  intro pins s σ H x y v u Q I rx ry h
  obtain ⟨d, e, hd, he, sd, se, dd, q⟩ := h
  obtain ⟨as, r1⟩ := Dp.reads I d x v hd rx
  obtain ⟨bs, r2⟩ := Dp.reads I e y u he ry
  exact PySem.SeqAt.eq_plain r1 r2 sd se (room_min hu dd) ⟨.bl _, H, I, rfl, q⟩
theorem op_neP (hu : X.A.units + 64 < cLine) : OpR X (compareOp .NotEq) (rNeP X.K) := by
  intro pins s σ H x y v u Q I rx ry h
  obtain ⟨d, e, hd, he, sd, se, dd, q⟩ := h
  obtain ⟨as, r1⟩ := Dp.reads I d x v hd rx
  obtain ⟨bs, r2⟩ := Dp.reads I e y u he ry
  exact PySem.SeqAt.ne_plain r1 r2 sd se (room_min hu dd) ⟨.bl _, H, I, rfl, q⟩
end
/-- an error class of the text -/
structure XcOk (K : PySem.W.Frag) (mg : Str → Option Value) (x : Str) : Prop where
  gC : mg x = some (.ref (He.ga K x))
  xP : PySem.W.excIn K (He.ga K x) He.veBase "ValueError.__new__" = true
  kP : PySem.W.keepIn K (.ref (He.ga K x)) = true
  bP : PySem.W.subIn K (.ref (He.ga K x)) (.type "BaseException") = some true
  tP : PySem.W.typeIn K (.ref (He.ga K x)) = some (.type "type")
theorem XcOk.pmk {X : Cx} {x m : Str} {j : Nat} {p p2 pos : Pos} (h : XcOk X.K X.mg x) (hg : Gl X x) (hdb : (x == ("__debug__" : Str)) = false := by decide) :
    PMk X (.Call (.Name x p) [.Constant (.str m) j p2] [] pos) (fun _ H Q => Q (.ref (He.ga X.K x)) none H) :=
  pmk_own PySem.F.excBase_ValueError h.xP h.gC h.kP (raises_own h.bP h.tP) hg hdb
def clsHouse (K : PySem.W.Frag) : Addr := He.ga K "House"
def clsHand (K : PySem.W.Frag) : Addr := He.ga K "Hand"

/-! ### tuples stay -/
def Kt (H H' : Hp) : Prop := ∀ a xs, H a = some (.tup xs) → H' a = some (.tup xs)
theorem Kt.refl (H : Hp) : Kt H H := fun _ _ h => h
theorem Kt.trans {H H1 H2 : Hp} (a : Kt H H1) (b : Kt H1 H2) : Kt H H2 := fun x xs h => b x xs (a x xs h)
theorem Ex.kt {H H' : Hp} (e : Ex H H') : Kt H H' := fun a xs h => e a _ h
theorem Kt.upd {H H' : Hp} {a : Addr} {o : HO} (k : Kt H H') (h : ∀ xs, H a ≠ some (.tup xs)) : Kt H (upd H' a o) := fun b xs e => by
  have n : b ≠ a := fun z => h xs (z ▸ e)
  rw [upd_ne n]
  exact k b xs e
theorem ne_tup_of {H : Hp} {a : Addr} {o : HO} (h : H a = some o) (n : ∀ xs, o ≠ .tup xs) : ∀ xs, H a ≠ some (.tup xs) := fun xs e => n xs (by rw [h] at e; exact Option.some.inj e)
theorem ne_tup_none {H : Hp} {a : Addr} (h : H a = none) : ∀ xs, H a ≠ some (.tup xs) := fun xs e => by rw [h] at e; cases e

/-! ### a value that is known by what is true of it -/
def EvP (te : TE) (σ : L2.St) (H : Hp) (P : Hp → V → Prop) : Prop := ∀ H1, Ex H H1 → ∀ Q : VK, (∀ v H2, Ex H1 H2 → P H2 v → Q v H2) → te σ H1 Q
def SpP (sp : Sp) (vs : List V) (H : Hp) (P : Hp → V → Prop) : Prop := ∀ H1, Ex H H1 → ∀ Q : VK, (∀ v H2, Ex H1 H2 → P H2 v → Q v H2) → ∀ E : XK, sp vs H1 Q E
section
variable {K : PySem.W.Frag} {σ : L2.St} {H H' : Hp} {ta tb te tx : TE} {t u : TT} {x y z v : V} {r : R2} {P : Hp → V → Prop}
theorem EvP.mono (e : Ex H H') (h : EvP te σ H P) : EvP te σ H' P := fun H1 a Q q => h H1 (e.trans a) Q q
theorem Ev.p (h : Ev te σ H v) (hp : ∀ H1, Ex H H1 → P H1 v) : EvP te σ H P := fun H1 e Q q => h H1 e Q fun H2 e2 => q v H2 e2 (hp H2 (e.trans e2))
theorem evp_call {sp : Sp} {dvs vs : List V} {E : XK} {ta : TA} (h : EvA ta σ H vs) (hs : SpP sp (vs ++ dvs) H P) : EvP (tCall sp dvs E ta) σ H P := fun H1 e Q q =>
  h H1 e _ fun H2 e2 => hs H2 (e.trans e2) Q (fun v H3 e3 hp => q v H3 (e2.trans e3) hp) E
theorem ev_add {i j : Int} (ha : Ev ta σ H (.int i)) (hb : Ev tb σ H (.int j)) : Ev (tOp rAddI ta tb) σ H (.int (i + j)) := ev_op ha hb rv_I0
theorem ev_sub {i j : Int} (ha : Ev ta σ H (.int i)) (hb : Ev tb σ H (.int j)) : Ev (tOp rSubI ta tb) σ H (.int (i - j)) := ev_op ha hb rv_I0
theorem ev_mul {i j : Int} (ha : Ev ta σ H (.int i)) (hb : Ev tb σ H (.int j)) (h : CMul i j) : Ev (tOp rMulI ta tb) σ H (.int (i * j)) := ev_op ha hb (rv_I h)
theorem ev_mod {i j : Int} (ha : Ev ta σ H (.int i)) (hb : Ev tb σ H (.int j)) (h : 0 < j) : Ev (tOp rModI ta tb) σ H (.int (i % j)) := ev_op ha hb (rv_I (C := fun _ j => 0 < j) h)
theorem ev_fdiv {i j : Int} (ha : Ev ta σ H (.int i)) (hb : Ev tb σ H (.int j)) (h : CDiv i j) : Ev (tOp rFdivI ta tb) σ H (.int (i / j)) := ev_op ha hb (rv_I h)
theorem ev_neg {i : Int} (ha : Ev ta σ H (.int i)) : Ev (tUn rNegI ta) σ H (.int (-i)) := ev_un ha ru_neg
theorem ev_lt {i j : Int} (ha : Ev ta σ H (.int i)) (hb : Ev tb σ H (.int j)) : Ev (tOp rLtI ta tb) σ H (.bl (decide (i < j))) := ev_op ha hb rv_I0
theorem ev_le {i j : Int} (ha : Ev ta σ H (.int i)) (hb : Ev tb σ H (.int j)) : Ev (tOp rLeI ta tb) σ H (.bl (decide (i ≤ j))) := ev_op ha hb rv_I0
theorem ev_gt {i j : Int} (ha : Ev ta σ H (.int i)) (hb : Ev tb σ H (.int j)) : Ev (tOp rGtI ta tb) σ H (.bl (decide (j < i))) := ev_op ha hb rv_I0
theorem ev_ge {i j : Int} (ha : Ev ta σ H (.int i)) (hb : Ev tb σ H (.int j)) : Ev (tOp rGeI ta tb) σ H (.bl (decide (j ≤ i))) := ev_op ha hb rv_I0
theorem ev_eq (ha : Ev ta σ H x) (hb : Ev tb σ H y) (h : scal x y = true) : Ev (tOp rEq ta tb) σ H (.bl (decide (x = y))) := ev_op ha hb (rv_eq h)
theorem ev_ne (ha : Ev ta σ H x) (hb : Ev tb σ H y) (h : scal x y = true) : Ev (tOp rNe ta tb) σ H (.bl (!decide (x = y))) := ev_op ha hb (rv_ne h)
theorem ev_eqI {i j : Int} (ha : Ev ta σ H (.int i)) (hb : Ev tb σ H (.int j)) : Ev (tOp rEq ta tb) σ H (.bl (decide (i = j))) := by
  have h := ev_eq ha hb rfl
  have e : decide (V.int i = V.int j) = decide (i = j) := by simp
  rw [e] at h
  exact h
theorem ev_neI {i j : Int} (ha : Ev ta σ H (.int i)) (hb : Ev tb σ H (.int j)) : Ev (tOp rNe ta tb) σ H (.bl (!decide (i = j))) := by
  have h := ev_ne ha hb rfl
  have e : decide (V.int i = V.int j) = decide (i = j) := by simp
  rw [e] at h
  exact h
theorem ev_eqS {i j : Str} (ha : Ev ta σ H (.str i)) (hb : Ev tb σ H (.str j)) : Ev (tOp rEq ta tb) σ H (.bl (decide (i = j))) := by
  have h := ev_eq ha hb rfl
  have e : decide (V.str i = V.str j) = decide (i = j) := by simp
  rw [e] at h
  exact h
theorem ev_catS {i j : Str} (ha : Ev ta σ H (.str i)) (hb : Ev tb σ H (.str j)) (h : i.length + j.length ≤ 100000) : Ev (tOp rCatS ta tb) σ H (.str (i ++ j)) :=
  ev_op ha hb (rv_val fun _ _ _ q => ⟨i, j, rfl, rfl, sz_of h, q⟩)
theorem ev_leS {i j : Str} (ha : Ev ta σ H (.str i)) (hb : Ev tb σ H (.str j)) : Ev (tOp rLeS ta tb) σ H (.bl (!decide (j.cps.toList < i.cps.toList))) :=
  ev_op ha hb (rv_val fun _ _ _ q => ⟨i, j, rfl, rfl, q⟩)
theorem ev_inS {c : Nat} {w : Str} (ha : Ev ta σ H (.str ⟨#[c]⟩)) (hb : Ev tb σ H (.str w)) : Ev (tOp rInS ta tb) σ H (.bl (decide (c ∈ w.cps.toList))) :=
  ev_op ha hb (rv_val fun _ _ _ q => ⟨c, w, rfl, rfl, q⟩)
theorem ev_isN (ha : Ev ta σ H x) : Ev (tOp rIsN ta (tC .non)) σ H (.bl (decide (x = .non))) := ev_op ha ev_c (rv_val fun _ _ _ q => ⟨rfl, q⟩)
theorem ev_notN (ha : Ev ta σ H x) : Ev (tOp rNotN ta (tC .non)) σ H (.bl (!decide (x = .non))) := ev_op ha ev_c (rv_val fun _ _ _ q => ⟨rfl, q⟩)
theorem ev_ixL {p : Addr} {xs : List V} {i : Int} (ha : Ev ta σ H (.ref p)) (hb : Ev tb σ H (.int i)) (h : SqL K H p xs) (hv : atI xs i = some v) : Ev (tOp (rIxL K) ta tb) σ H v := ev_op ha hb (rv_ixL h hv)
theorem ev_ixT {p : Addr} {xs : List V} {i : Int} (ha : Ev ta σ H (.ref p)) (hb : Ev tb σ H (.int i)) (h : SqT K H p xs) (hv : atI xs i = some v) : Ev (tOp (rIxT K) ta tb) σ H v := ev_op ha hb (rv_ixT h hv)
theorem ev_ixS {w : Str} {i : Int} {c : Nat} (ha : Ev ta σ H (.str w)) (hb : Ev tb σ H (.int i)) (h : w.length ≤ 100000) (hv : atI w.cps.toList i = some c) : Ev (tOp rIxS ta tb) σ H (.str ⟨#[c]⟩) := ev_op ha hb (rv_ixS h hv)
/-- an item of a new list -/
theorem ev_ixN {xs : List V} {i : Int} (ha : EvL ta σ H xs) (hb : ∀ H1, Ex H H1 → Ev tb σ H1 (.int i)) (hv : atI xs i = some v) : Ev (tOp (rIxL K) ta tb) σ H v :=
  ev_opL1 ha hb fun p H1 hp _ => rv_ixL (sq_of hp) hv
theorem ev_lenS {w : Str} (ha : Ev ta σ H (.str w)) (h : w.length ≤ 100000) : Ev (tCB rLenS1 (tCons ta tNil)) σ H (.int (w.length : Int)) := fun H1 e Q q =>
  ha H1 e _ fun H2 e2 => ⟨w, rfl, sz_of h, q H2 e2⟩
theorem ev_chain {r r' : R2} {k kz : Bool} {tc : TE} {w : V} (ha : Ev ta σ H x) (hb : Ev tb σ H y) (h1 : RV r x y H (.bl k)) (hc : k = true → Ev tc σ H w) (h2 : k = true → RV r' y w H (.bl kz)) : Ev (tChain r r' ta tb tc) σ H (.bl (k && kz)) := fun H1 e Q q =>
  ha H1 e _ fun H2 e2 => hb H2 (e.trans e2) _ fun H3 e3 => h1 H3 ((e.trans e2).trans e3) _ fun H4 e4 => ⟨k, rfl, by
    cases k with
    | true =>
      show tc σ H4 _
      exact hc rfl H4 (((e.trans e2).trans e3).trans e4) _ fun H5 e5 => h2 rfl H5 ((((e.trans e2).trans e3).trans e4).trans e5) Q fun H6 e6 => q H6 ((((e2.trans e3).trans e4).trans e5).trans e6)
    | false =>
      show Q (.bl false) H4
      exact q H4 ((e2.trans e3).trans e4)⟩
/-- statements over every heap that extends B -/
def Alw (ts : TS) (D : Ends) (σ : L2.St) (B : Hp) : Prop := ∀ H, Ex B H → ts D σ H
variable {D : Ends} {tu tw : TS} {g : TG} {B : Hp}
theorem alw_seq (h : Alw tu { D with nx := tw D } σ B) : Alw (tSeq tu tw) D σ B := h
theorem alw_set {i : Nat} (h : Ev te σ B v) (k : ∀ H, Ex B H → D.nx (σ.set i (some v)) H) : Alw (tAsg te (gName i)) D σ B := fun H e => h H e _ fun H1 e1 => k H1 (e.trans e1)
theorem alw_setP {i : Nat} (h : EvP te σ B P) (k : ∀ v H1, Ex B H1 → P H1 v → ∀ H, Ex H1 H → D.nx (σ.set i (some v)) H) : Alw (tAsg te (gName i)) D σ B := fun H e => h H e _ fun v H1 e1 hp => k v H1 (e.trans e1) hp H1 (Ex.refl H1)
theorem alw_if {b : Bool} (h : EvT t σ B b) (h1 : b = true → Alw tu D σ B) (h2 : b = false → Alw tw D σ B) : Alw (tIfS t tu tw) D σ B := fun H e => h H e _ fun H1 e1 => by
  cases b with
  | true =>
    show tu D σ H1
    exact h1 rfl H1 (e.trans e1)
  | false =>
    show tw D σ H1
    exact h2 rfl H1 (e.trans e1)
theorem alw_ret (h : Ev te σ B v) (k : ∀ H, Ex B H → D.rt v H) : Alw (tRet te) D σ B := fun H e => h H e _ fun H1 e1 => k H1 (e.trans e1)
theorem alw_retP (h : EvP te σ B P) (k : ∀ v H, Ex B H → P H v → D.rt v H) : Alw (tRet te) D σ B := fun H e => h H e _ fun v H1 e1 hp => k v H1 (e.trans e1) hp
theorem alw_next (k : ∀ H, Ex B H → D.nx σ H) : Alw tNext D σ B := k
theorem alw_here (h : Alw tu D σ B) : tu D σ B := h B (Ex.refl B)
theorem alw_forR1 {ta : TA} {j : Nat} {n : Int} (h : EvA ta σ B [.int n]) (hn : 0 ≤ n ∧ n ≤ 100000) (Pv : Nat → L2.St → Hp → Prop) (h0 : ∀ H1, Ex B H1 → Pv 0 σ H1)
    (hs : ∀ (i : Nat) σ' H', (i : Int) < n → Pv i σ' H' → tu { D with nx := Pv (i + 1), ct := Pv (i + 1), bk := D.nx } (σ'.set j (some (.int (i : Int)))) H') (hd : ∀ σ' H', Pv n.toNat σ' H' → D.nx σ' H') : Alw (tFor (iRng1 ta) (gName j) tu) D σ B :=
  fun H e => s_forR1 (h.mono e) hn Pv (fun H1 e1 => h0 H1 (e.trans e1)) hs hd
theorem alw_app {l : Addr} {xs : List V} (hl : ∀ H, Ex B H → H l = some (.lst xs)) (ha : Ev ta σ B (.ref l)) (h : Ev te σ B v) (hz : xs.length < 100000) (k : ∀ H, Ex B H → D.nx σ (upd H l (.lst (xs ++ [v])))) :
    Alw (tDrop (tBM K "list" rAppend ta (tCons te tNil))) D σ B := fun H e =>
  s_app (hl H e) (ha.mono e) (h.mono e) hz fun H1 e1 => k H1 (e.trans e1)
/-- in a row -/
theorem al_set {i : Nat} (h : Ev te σ B v) (k : Alw tw D (σ.set i (some v)) B) : Alw (tSeq (tAsg te (gName i)) tw) D σ B := fun H e => h H e _ fun H1 e1 => k H1 (e.trans e1)
theorem al_setP {i : Nat} (h : EvP te σ B P) (k : ∀ v H1, Ex B H1 → P H1 v → Alw tw D (σ.set i (some v)) H1) : Alw (tSeq (tAsg te (gName i)) tw) D σ B := fun H e => h H e _ fun v H1 e1 hp => k v H1 (e.trans e1) hp H1 (Ex.refl H1)
theorem al_if {b : Bool} {ty : TS} (h : EvT t σ B b) (h1 : b = true → Alw tu { D with nx := ty D } σ B) (h2 : b = false → Alw tw { D with nx := ty D } σ B) : Alw (tSeq (tIfS t tu tw) ty) D σ B := alw_if (D := { D with nx := ty D }) h h1 h2
theorem al_skip (h : Alw tw D σ B) : Alw tNext { D with nx := tw D } σ B := h
theorem al_drop (h : Ev te σ B v) (k : Alw tw D σ B) : Alw (tSeq (tDrop te) tw) D σ B := fun H e => h H e _ fun H1 e1 => k H1 (e.trans e1)
theorem al_forR1 {ta : TA} {j : Nat} {n : Int} (h : EvA ta σ B [.int n]) (hn : 0 ≤ n ∧ n ≤ 100000) (Pv : Nat → L2.St → Hp → Prop) (h0 : ∀ H1, Ex B H1 → Pv 0 σ H1)
    (hs : ∀ (i : Nat) σ' H', (i : Int) < n → Pv i σ' H' → tu { D with nx := Pv (i + 1), ct := Pv (i + 1), bk := tw D } (σ'.set j (some (.int (i : Int)))) H') (hd : ∀ σ' H', Pv n.toNat σ' H' → tw D σ' H') : Alw (tSeq (tFor (iRng1 ta) (gName j) tu) tw) D σ B :=
  alw_forR1 (D := { D with nx := tw D }) h hn Pv h0 hs hd
end
end KW

/-! plain functions: what the laws draw, what the house keeps -/
namespace KW
open PySem PySem.Spec PyProof.Rows L2 Evl

/-! ### draws -/
def cellAt (ns : List Int) (k : Int) : Int :=
  if k < (ns.length : Int) then ns.getD k.toNat 0 else if ns = [] then 0 else ns.getD (k % (ns.length : Int)).toNat 0 * 31 + k
def drawn (ns : List Int) (k : Int) : Int := (cellAt ns k + 7919 * k + 1) * 48271 % 2147483647
@[irreducible] def mixed (ns : List Int) (k m : Int) : Int := (drawn ns k * drawn ns k + 7 * drawn ns k + k) % 2147483629 % m
theorem mixed_nn (ns : List Int) (k : Int) {m : Int} (h : 0 < m) : 0 ≤ mixed ns k m := by
  unfold mixed
  exact Int.emod_nonneg _ (by omega)
theorem mixed_lt (ns : List Int) (k : Int) {m : Int} (h : 0 < m) : mixed ns k m < m := by
  unfold mixed
  exact Int.emod_lt_of_pos _ h
theorem drawn_nn (ns : List Int) (k : Int) : 0 ≤ drawn ns k := Int.emod_nonneg _ (by decide)
theorem drawn_lt (ns : List Int) (k : Int) : drawn ns k < 2147483647 := Int.emod_lt_of_pos _ (by decide)

/-! ### keys -/
def signs : Str := "abcdefghijklmnopqrstuvwxyz0123456789/"
def signL : List Nat := signs.cps.toList
theorem signL_eq : signL = [97,98,99,100,101,102,103,104,105,106,107,108,109,110,111,112,113,114,115,116,117,118,119,120,121,122,48,49,50,51,52,53,54,55,56,57,47] := by decide +kernel
theorem signL_len : signL.length = 37 := by decide +kernel
def isKey (x : Str) : Bool := decide (1 ≤ x.length) && (decide (x.length ≤ 12) && x.cps.toList.all fun c => decide (c ∈ signL))
theorem isKey_iff {x : Str} : isKey x = true ↔ 1 ≤ x.length ∧ x.length ≤ 12 ∧ ∀ c ∈ x.cps.toList, c ∈ signL := by
  unfold isKey
  simp only [Bool.and_eq_true, decide_eq_true_eq, List.all_eq_true]
def keyLens : List Int := [1, 2, 3, 5, 8, 11, 12]
def keyLen (ns : List Int) (at_ : Int) : Nat := (keyLens.getD (mixed ns at_ 7).toNat 1).toNat
theorem keyLen_le (ns : List Int) (at_ : Int) : 1 ≤ keyLen ns at_ ∧ keyLen ns at_ ≤ 12 := by
  unfold keyLen
  have h1 := mixed_nn ns at_ (m := 7) (by decide)
  have h2 := mixed_lt ns at_ (m := 7) (by decide)
  generalize mixed ns at_ 7 = z at h1 h2
  obtain rfl | rfl | rfl | rfl | rfl | rfl | rfl : z = 0 ∨ z = 1 ∨ z = 2 ∨ z = 3 ∨ z = 4 ∨ z = 5 ∨ z = 6 := by omega
  all_goals decide
def signAt (ns : List Int) (k : Int) : Nat := signL.getD (mixed ns k 37).toNat 0
theorem signAt_mem (ns : List Int) (k : Int) : signAt ns k ∈ signL := by
  unfold signAt
  have h1 := mixed_nn ns k (m := 37) (by decide)
  have h2 := mixed_lt ns k (m := 37) (by decide)
  have h3 : (mixed ns k 37).toNat < signL.length := by rw [signL_len]; omega
  rw [List.getD_eq_getElem?_getD, List.getElem?_eq_getElem h3]
  exact List.getElem_mem h3
def keyPart (ns : List Int) (at_ : Int) (n : Nat) : Str := ⟨((List.range n).map fun k : Nat => signAt ns (at_ + 1 + (k : Int))).toArray⟩
def lawKey (ns : List Int) (at_ : Int) : Str := keyPart ns at_ (keyLen ns at_)
theorem lawKey_len (ns : List Int) (at_ : Int) : (lawKey ns at_).length = keyLen ns at_ := by
  unfold lawKey keyPart Str.length
  simp
theorem lawKey_key (ns : List Int) (at_ : Int) : isKey (lawKey ns at_) = true := by
  rw [isKey_iff, lawKey_len]
  refine ⟨(keyLen_le ns at_).1, (keyLen_le ns at_).2, ?_⟩
  unfold lawKey keyPart
  intro c hc
  simp only [List.mem_map, List.mem_range] at hc
  obtain ⟨k, _, rfl⟩ := hc
  exact signAt_mem _ _
def one (c : Nat) : Str := ⟨#[c]⟩
/-- the next key: another one, one sign more, or one sign changed -/
def nextKey (ns : List Int) (here : Int) (last : Str) : Str :=
  if mixed ns (here + 15) 4 = 0 then lawKey ns here
  else if mixed ns (here + 15) 4 = 1 ∧ last.length < 12 then last ++ one (signAt ns (here + 1))
  else cutS last none (some (mixed ns (here + 16) (last.length : Int))) ++ one (signAt ns (here + 1)) ++ cutS last (some (mixed ns (here + 16) (last.length : Int) + 1)) none
theorem sIx_some {n d : Nat} {i : Int} (h0 : 0 ≤ i) (h1 : i ≤ n) : HT.sIx n d (some i) = i.toNat := by
  show (if i < 0 then (i + (n : Int)).toNat else min i.toNat n) = i.toNat
  rw [if_neg (by omega)]
  omega
theorem str_app (a b : Str) : (a ++ b).cps.toList = a.cps.toList ++ b.cps.toList := by
  show (a.cps ++ b.cps).toList = _
  simp
theorem str_len (a : Str) : a.length = a.cps.toList.length := by simp [Str.length]
theorem str_ext {a b : Str} (h : a.cps.toList = b.cps.toList) : a = b := by
  cases a; cases b
  congr
  exact Array.toList_inj.mp h
theorem cut_pre {z : Str} {i : Int} (h0 : 0 ≤ i) (h1 : i ≤ (z.length : Int)) : (cutS z none (some i)).cps.toList = z.cps.toList.take i.toNat := by
  unfold cutS
  rw [sIx_some h0 h1, HT.sIx_none]
  simp
theorem cut_post {z : Str} {i : Int} (h0 : 0 ≤ i) (h1 : i ≤ (z.length : Int)) : (cutS z (some i) none).cps.toList = z.cps.toList.drop i.toNat := by
  unfold cutS
  rw [sIx_some h0 h1, HT.sIx_none]
  simp only [List.toList_toArray]
  rw [List.take_of_length_le]
  rw [List.length_drop, ← str_len]
  exact Nat.le_refl _
theorem one_toList (c : Nat) : (one c).cps.toList = [c] := rfl
theorem isKey_pos {x : Str} (h : isKey x = true) : 0 < (x.length : Int) := by
  have := (isKey_iff.mp h).1
  omega
theorem isKey_le {x : Str} (h : isKey x = true) : x.length ≤ 12 := (isKey_iff.mp h).2.1
theorem nextKey_key (ns : List Int) (here : Int) {last : Str} (h : isKey last = true) : isKey (nextKey ns here last) = true := by
  have hp := isKey_pos h
  obtain ⟨k1, k2, k3⟩ := isKey_iff.mp h
  have m1 := mixed_nn ns (here + 16) hp
  have m2 := mixed_lt ns (here + 16) hp
  unfold nextKey
  split
  · exact lawKey_key _ _
  · split
    · rename_i hh
      rw [isKey_iff, str_len, str_app, List.length_append, ← str_len]
      refine ⟨by omega, ?_, ?_⟩
      · show last.length + 1 ≤ 12
        omega
      · intro c hc
        rcases List.mem_append.mp hc with hc | hc
        · exact k3 c hc
        · rw [one_toList, List.mem_singleton] at hc
          rw [hc]
          exact signAt_mem _ _
    · rw [isKey_iff, str_len, str_app, str_app, cut_pre m1 (by omega), cut_post (by omega) (by omega), one_toList]
      simp only [List.length_append, List.length_take, List.length_drop, List.length_cons, List.length_nil, ← str_len]
      refine ⟨by omega, by omega, ?_⟩
      intro c hc
      rcases List.mem_append.mp hc with hc | hc
      · rcases List.mem_append.mp hc with hc | hc
        · exact k3 c (List.mem_of_mem_take hc)
        · rw [List.mem_singleton] at hc
          rw [hc]
          exact signAt_mem _ _
      · exact k3 c (List.mem_of_mem_drop hc)
/-- the keys up to the n-th -/
def keysUp (ns : List Int) (at_ : Int) : Nat → List Str
  | 0 => [lawKey ns at_]
  | n + 1 => keysUp ns at_ n ++ [nextKey ns (at_ + 20 * ((n : Int) + 1)) ((keysUp ns at_ n).getD n "a")]
theorem keysUp_len (ns : List Int) (at_ : Int) : ∀ n, (keysUp ns at_ n).length = n + 1
  | 0 => rfl
  | n + 1 => by rw [keysUp, List.length_append, keysUp_len ns at_ n]; rfl
theorem keysUp_key (ns : List Int) (at_ : Int) : ∀ n, ∀ x ∈ keysUp ns at_ n, isKey x = true
  | 0, x, h => by
    rw [keysUp, List.mem_singleton] at h
    rw [h]
    exact lawKey_key _ _
  | n + 1, x, h => by
    rw [keysUp] at h
    rcases List.mem_append.mp h with h | h
    · exact keysUp_key ns at_ n x h
    · rw [List.mem_singleton] at h
      rw [h]
      refine nextKey_key _ _ (keysUp_key ns at_ n _ ?_)
      have hl : n < (keysUp ns at_ n).length := by rw [keysUp_len]; omega
      rw [List.getD_eq_getElem?_getD, List.getElem?_eq_getElem hl]
      exact List.getElem_mem hl
def lawKeys (ns : List Int) (at_ : Int) : List Str := keysUp ns at_ 4
theorem lawKeys_len (ns : List Int) (at_ : Int) : (lawKeys ns at_).length = 5 := keysUp_len _ _ _
theorem lawKeys_key (ns : List Int) (at_ : Int) : ∀ x ∈ lawKeys ns at_, isKey x = true := keysUp_key _ _ _
/-- an item of the keys -/
def pick (xs : List Str) (i : Int) : Str := xs.getD i.toNat "a"
theorem pick_mem {xs : List Str} {i : Int} (h0 : 0 ≤ i) (h1 : i < (xs.length : Int)) : pick xs i ∈ xs := by
  unfold pick
  have hl : i.toNat < xs.length := by omega
  rw [List.getD_eq_getElem?_getD, List.getElem?_eq_getElem hl]
  exact List.getElem_mem hl
theorem atI_pick {xs : List Str} {i : Int} (h0 : 0 ≤ i) (h1 : i < (xs.length : Int)) : atI (xs.map V.str) i = some (.str (pick xs i)) := by
  obtain ⟨n, rfl⟩ := Int.eq_ofNat_of_zero_le h0
  have hl : n < xs.length := by omega
  unfold pick
  refine atI_nat ?_
  rw [Int.toNat_natCast, List.getElem?_map, List.getElem?_eq_getElem hl, List.getD_eq_getElem?_getD, List.getElem?_eq_getElem hl]
  rfl
/-! ### spans -/
def lawSpan (ns : List Int) (at_ : Int) (keys : List Str) : Str × Str :=
  let x := pick keys (mixed ns at_ (keys.length : Int))
  let y := pick keys (mixed ns (at_ + 1) (keys.length : Int))
  if mixed ns (at_ + 2) 3 = 0 then ("/", "zzzzzzzzzzzz")
  else if mixed ns (at_ + 3) 8 = 0 then (maxS x y, minS x y) else (minS x y, maxS x y)
theorem maxS_of {x y : Str} {P : Str → Prop} (hx : P x) (hy : P y) : P (maxS x y) := by
  unfold maxS
  split
  · exact hy
  · exact hx
theorem minS_of {x y : Str} {P : Str → Prop} (hx : P x) (hy : P y) : P (minS x y) := by
  unfold minS
  split
  · exact hy
  · exact hx
theorem lawSpan_key (ns : List Int) (at_ : Int) {keys : List Str} (h : ∀ x ∈ keys, isKey x = true) (hl : 0 < keys.length) : isKey (lawSpan ns at_ keys).1 = true ∧ isKey (lawSpan ns at_ keys).2 = true := by
  have hp : 0 < (keys.length : Int) := by omega
  have hx := h _ (pick_mem (mixed_nn ns at_ hp) (mixed_lt ns at_ hp))
  have hy := h _ (pick_mem (mixed_nn ns (at_ + 1) hp) (mixed_lt ns (at_ + 1) hp))
  unfold lawSpan
  dsimp only
  split
  · exact ⟨by decide +kernel, by decide +kernel⟩
  · split
    · exact ⟨maxS_of (P := fun z => isKey z = true) hx hy, minS_of (P := fun z => isKey z = true) hx hy⟩
    · exact ⟨minS_of (P := fun z => isKey z = true) hx hy, maxS_of (P := fun z => isKey z = true) hx hy⟩

/-! ### the house -/
structure Rec where
  value : Int
  made : Int
  changed : Int
  version : Int
  lease : Option Int
  deriving DecidableEq
inductive Deed where
  | put (k : Str) (v : Int) (l : Option Int)
  | drop (k : Str)
  deriving DecidableEq
def Deed.key : Deed → Str
  | .put k _ _ => k
  | .drop k => k
def Deed.isPut : Deed → Bool
  | .put _ _ _ => true
  | .drop _ => false
structure Evt where
  num : Int
  deed : Deed
  deriving DecidableEq
abbrev Recs := List (Str × Rec)
section
variable {κ α : Type} [DecidableEq κ]
def lookA (rs : List (κ × α)) (k : κ) : Option α := (rs.find? fun p => decide (p.1 = k)).map (·.2)
def putA (rs : List (κ × α)) (k : κ) (r : α) : List (κ × α) :=
  if (rs.any fun p => decide (p.1 = k)) = true then rs.map (fun p => if p.1 = k then (p.1, r) else p) else rs ++ [(k, r)]
def dropA (rs : List (κ × α)) (k : κ) : List (κ × α) := rs.filter fun p => decide (p.1 ≠ k)
def keysA (rs : List (κ × α)) : List κ := rs.map (·.1)
theorem lookA_nil (k : κ) : lookA ([] : List (κ × α)) k = none := rfl
theorem lookA_cons (p : κ × α) (rs : List (κ × α)) (k : κ) : lookA (p :: rs) k = if p.1 = k then some p.2 else lookA rs k := by
  unfold lookA
  rw [List.find?_cons]
  by_cases e : p.1 = k
  · simp [e]
  · simp [e]
theorem any_lookA (rs : List (κ × α)) (k : κ) : (rs.any fun p => decide (p.1 = k)) = (lookA rs k).isSome := by
  induction rs with
  | nil => rfl
  | cons p r ih =>
    rw [List.any_cons, lookA_cons, ih]
    by_cases e : p.1 = k
    · simp [e]
    · simp [e]
theorem lookA_mem {rs : List (κ × α)} {k : κ} {r : α} (h : lookA rs k = some r) : (k, r) ∈ rs := by
  induction rs with
  | nil => cases h
  | cons p q ih =>
    rw [lookA_cons] at h
    by_cases e : p.1 = k
    · rw [if_pos e] at h
      have : p = (k, r) := by rw [← e, ← Option.some.inj h]
      rw [this]
      exact List.mem_cons_self
    · rw [if_neg e] at h
      exact List.mem_cons_of_mem _ (ih h)
theorem lookA_none {rs : List (κ × α)} {k : κ} : lookA rs k = none ↔ k ∉ keysA rs := by
  induction rs with
  | nil => simp [lookA_nil, keysA]
  | cons p q ih =>
    rw [lookA_cons]
    by_cases e : p.1 = k
    · simp [e, keysA]
    · rw [if_neg e, ih]
      show ¬ k ∈ keysA q ↔ ¬ k ∈ p.1 :: keysA q
      rw [List.mem_cons]
      constructor
      · intro h z
        rcases z with z | z
        · exact e z.symm
        · exact h z
      · intro h z
        exact h (.inr z)
theorem lookA_some {rs : List (κ × α)} {k : κ} : (lookA rs k).isSome = true ↔ k ∈ keysA rs := by
  have h := lookA_none (rs := rs) (k := k)
  cases q : lookA rs k with
  | none => simp [h.mp q]
  | some r =>
    simp
    exact Classical.byContradiction fun z => by rw [h.mpr z] at q; cases q
theorem lookA_of_mem {rs : List (κ × α)} (nd : (keysA rs).Nodup) {k : κ} {r : α} (h : (k, r) ∈ rs) : lookA rs k = some r := by
  induction rs with
  | nil => cases h
  | cons p q ih =>
    have nd' : (p.1 :: keysA q).Nodup := nd
    obtain ⟨n1, n2⟩ := List.nodup_cons.mp nd'
    rw [lookA_cons]
    rcases List.mem_cons.mp h with e | h
    · rw [← e]
      simp
    · rw [if_neg, ih n2 h]
      intro e
      exact n1 (by rw [e]; exact List.mem_map.mpr ⟨_, h, rfl⟩)
theorem keysA_putA_old {rs : List (κ × α)} {k : κ} (r : α) (h : (lookA rs k).isSome = true) : keysA (putA rs k r) = keysA rs := by
  unfold putA
  rw [any_lookA, if_pos h]
  unfold keysA
  rw [List.map_map]
  refine List.map_congr_left fun p _ => ?_
  show (if p.1 = k then (p.1, r) else p).1 = p.1
  split <;> rfl
theorem putA_new {rs : List (κ × α)} {k : κ} (r : α) (h : lookA rs k = none) : putA rs k r = rs ++ [(k, r)] := by
  unfold putA
  rw [any_lookA, h]
  simp
theorem lookA_append (a b : List (κ × α)) (k : κ) : lookA (a ++ b) k = (lookA a k).or (lookA b k) := by
  induction a with
  | nil => simp [lookA_nil]
  | cons p q ih =>
    rw [List.cons_append, lookA_cons, lookA_cons, ih]
    by_cases e : p.1 = k
    · simp [e]
    · simp [e]
theorem lookA_map (rs : List (κ × α)) (k j : κ) (r : α) : lookA (rs.map fun p => if p.1 = k then (p.1, r) else p) j = if j = k then (lookA rs k).map (fun _ => r) else lookA rs j := by
  induction rs with
  | nil => simp [lookA_nil]
  | cons p t ih =>
    rw [List.map_cons, lookA_cons, ih, lookA_cons, lookA_cons]
    by_cases e : p.1 = k
    · rw [if_pos e, if_pos e]
      by_cases e2 : j = k
      · rw [if_pos e2, if_pos (by rw [e2]; exact e)]
        simp [e2]
      · rw [if_neg e2, if_neg e2, if_neg (fun z => e2 (by rw [← z]; exact e)), if_neg (fun z => e2 (by rw [← z]; exact e))]
    · rw [if_neg e, if_neg e]
      by_cases e2 : p.1 = j
      · rw [if_pos e2, if_pos e2, if_neg (fun z => e (by rw [e2, z]))]
      · rw [if_neg e2, if_neg e2]
theorem lookA_putA (rs : List (κ × α)) (k j : κ) (r : α) : lookA (putA rs k r) j = if j = k then some r else lookA rs j := by
  cases q : lookA rs k with
  | none =>
    rw [putA_new r q, lookA_append]
    by_cases e : j = k
    · rw [e, if_pos rfl, q, lookA_cons, if_pos rfl]
      rfl
    · rw [if_neg e, lookA_cons, if_neg (fun z => e z.symm), lookA_nil, Option.or_none]
  | some o =>
    unfold putA
    rw [any_lookA, q]
    simp only [Option.isSome_some, if_true]
    rw [lookA_map, q]
    rfl
theorem nodup_putA {rs : List (κ × α)} (nd : (keysA rs).Nodup) (k : κ) (r : α) : (keysA (putA rs k r)).Nodup := by
  cases q : lookA rs k with
  | none =>
    rw [putA_new r q]
    unfold keysA
    rw [List.map_append]
    exact nd_snoc nd (lookA_none.mp q)
  | some o =>
    rw [keysA_putA_old r (by rw [q]; rfl)]
    exact nd
theorem lookA_dropA (rs : List (κ × α)) (k j : κ) : lookA (dropA rs k) j = if j = k then none else lookA rs j := by
  induction rs with
  | nil => simp [dropA, lookA_nil]
  | cons p t ih =>
    unfold dropA at ih ⊢
    rw [List.filter_cons]
    by_cases e : p.1 = k
    · rw [if_neg (by simp [e]), ih, lookA_cons]
      by_cases e2 : j = k
      · rw [if_pos e2, if_pos e2]
      · rw [if_neg e2, if_neg e2, if_neg (fun z => e2 (by rw [← z, e]))]
    · rw [if_pos (by simp [e]), lookA_cons, lookA_cons, ih]
      by_cases e2 : p.1 = j
      · rw [if_pos e2, if_pos e2, if_neg (fun z => e (by rw [e2, z]))]
      · rw [if_neg e2, if_neg e2]
theorem nodup_dropA {rs : List (κ × α)} (nd : (keysA rs).Nodup) (k : κ) : (keysA (dropA rs k)).Nodup := by
  unfold keysA dropA
  exact List.Nodup.sublist (List.Sublist.map _ List.filter_sublist) nd
end
abbrev lookR (rs : Recs) (k : Str) : Option Rec := lookA rs k
abbrev putR (rs : Recs) (k : Str) (r : Rec) : Recs := putA rs k r
abbrev dropR (rs : Recs) (k : Str) : Recs := dropA rs k
def hasR (rs : Recs) (k : Str) : Bool := (lookR rs k).isSome
/-- the record behind a put -/
def newRec (rs : Recs) (n : Int) (k : Str) (v : Int) (l : Option Int) : Rec :=
  match lookR rs k with
  | some r => ⟨v, r.made, n, r.version + 1, l⟩
  | none => ⟨v, n, n, 1, l⟩
def changeR (rs : Recs) (e : Evt) : Recs :=
  match e.deed with
  | .put k v l => putR rs k (newRec rs e.num k v l)
  | .drop k => dropR rs k
structure HS where
  recs : Recs
  old : Recs
  log : List Evt
  last : Int
  base : Int
  ends : List (Int × (Int × Int))
  granted : Int
  now : Int
  spans : List (Option (Str × Str × Int))
  cut : List Int
  deriving DecidableEq
def HS.new : HS := ⟨[], [], [], 0, 0, [], 0, 0, [], []⟩
def realD (rs : Recs) (ds : List Deed) : List Deed := ds.filter fun d => d.isPut || hasR rs d.key
/-- deeds done with one number -/
def HS.write (s : HS) (ds : List Deed) : HS :=
  let real := realD s.recs ds
  if real = [] then s
  else { s with last := s.last + 1, log := s.log ++ real.map (fun d => ⟨s.last + 1, d⟩), recs := real.foldl (fun rs d => changeR rs ⟨s.last + 1, d⟩) s.recs }
/-- keys and records in order -/
def sLe (a b : Str) : Bool := !decide (b.cps.toList < a.cps.toList)
def sortS (xs : List Str) : List Str := xs.mergeSort sLe
def getR (rs : Recs) (k : Str) : Rec := (lookR rs k).getD ⟨0, 0, 0, 0, none⟩
def inRows (rs : Recs) : Recs := (sortS (keysA rs)).map fun k => (k, getR rs k)
def within (k a b : Str) : Bool := sLe a k && sLe k b
def spanRows (rs : Recs) (a b : Str) : Recs := (inRows rs).filter fun p => within p.1 a b
end KW

/-! what stands in the heap -/
namespace KW
open PySem PySem.Spec PyProof.Rows L2 Evl

def optV : Option Int → V
  | none => .non
  | some i => .int i
def recVs (r : Rec) : List V := [.int r.value, .int r.made, .int r.changed, .int r.version, optV r.lease]
def deedVs : Deed → List V
  | .put k v l => [.str "put", .str k, .int v, optV l]
  | .drop k => [.str "drop", .str k]
def evVs (e : Evt) : List V := match e.deed with
  | .put k v l => [.int e.num, .str "put", .str k, .int v, optV l]
  | .drop k => [.int e.num, .str "drop", .str k, .non, .non]
def TAt (H : Hp) (v : V) (xs : List V) : Prop := ∃ a, v = .ref a ∧ H a = some (.tup xs)
theorem TAt.kt {H H' : Hp} {v : V} {xs : List V} (k : Kt H H') (h : TAt H v xs) : TAt H' v xs := by
  obtain ⟨a, e, h⟩ := h
  exact ⟨a, e, k _ _ h⟩
def RecV (H : Hp) (v : V) (r : Rec) : Prop := TAt H v (recVs r)
def EvV (H : Hp) (v : V) (e : Evt) : Prop := TAt H v (evVs e)
def DeedV (H : Hp) (v : V) (d : Deed) : Prop := TAt H v (deedVs d)
def RowV (H : Hp) (v : V) (p : Str × Rec) : Prop := ∃ w, TAt H v [.str p.1, w] ∧ RecV H w p.2
theorem RecV.kt {H H' : Hp} {v : V} {r : Rec} (k : Kt H H') (h : RecV H v r) : RecV H' v r := TAt.kt k h
theorem EvV.kt {H H' : Hp} {v : V} {r : Evt} (k : Kt H H') (h : EvV H v r) : EvV H' v r := TAt.kt k h
theorem DeedV.kt {H H' : Hp} {v : V} {r : Deed} (k : Kt H H') (h : DeedV H v r) : DeedV H' v r := TAt.kt k h
theorem RowV.kt {H H' : Hp} {v : V} {p : Str × Rec} (k : Kt H H') (h : RowV H v p) : RowV H' v p := by
  obtain ⟨w, h1, h2⟩ := h
  exact ⟨w, h1.kt k, RecV.kt k h2⟩

/-! ### lists of things -/
section
variable {α β : Type} {F G : α → β → Prop}
theorem pr_get : ∀ {l : List α} {m : List β} {i : Nat} {a : α}, Paired F l m → l[i]? = some a → ∃ b, m[i]? = some b ∧ F a b
  | _, _, _, _, .nil, e => by simp at e
  | _, _, 0, _, .cons r _, e => by simp at e; subst e; exact ⟨_, rfl, r⟩
  | _, _, i + 1, a, .cons _ t, e => by
    obtain ⟨u, h1, h2⟩ := pr_get (i := i) (a := a) t (by simpa using e)
    exact ⟨u, by simpa using h1, h2⟩
theorem pr_get' : ∀ {l : List α} {m : List β} {i : Nat} {b : β}, Paired F l m → m[i]? = some b → ∃ a, l[i]? = some a ∧ F a b
  | _, _, _, _, .nil, e => by simp at e
  | _, _, 0, _, .cons r _, e => by simp at e; subst e; exact ⟨_, rfl, r⟩
  | _, _, i + 1, a, .cons _ t, e => by
    obtain ⟨u, h1, h2⟩ := pr_get' (i := i) (b := a) t (by simpa using e)
    exact ⟨u, by simpa using h1, h2⟩
theorem pr_len {l : List α} {m : List β} (h : Paired F l m) : l.length = m.length := Paired.length h
theorem pr_mono {l : List α} {m : List β} (h : Paired F l m) (k : ∀ a b, F a b → G a b) : Paired G l m := L2.Paired.mapP h k
theorem pr_append : ∀ {l l' : List α} {m m' : List β}, Paired F l m → Paired F l' m' → Paired F (l ++ l') (m ++ m')
  | _, _, _, _, .nil, s => s
  | _, _, _, _, .cons r t, s => .cons r (pr_append t s)
theorem pr_snoc {l : List α} {m : List β} {a : α} {b : β} (h : Paired F l m) (r : F a b) : Paired F (l ++ [a]) (m ++ [b]) := pr_append h (.cons r .nil)
theorem pr_nil_iff {l : List α} {m : List β} (h : Paired F l m) : l = [] ↔ m = [] := by
  cases h with
  | nil => simp
  | cons _ _ => simp
end
/-- a list at l, its items by P -/
def LsAt {α : Type} (P : Hp → V → α → Prop) (H : Hp) (l : Addr) (xs : List α) : Prop := ∃ vs, H l = some (.lst vs) ∧ Paired (P H) vs xs
abbrev RowsAt : Hp → Addr → Recs → Prop := LsAt RowV
abbrev LogAt : Hp → Addr → List Evt → Prop := LsAt EvV
theorem LsAt.move {α : Type} {P : Hp → V → α → Prop} {H H' : Hp} {l : Addr} {xs : List α} (h : LsAt P H l xs) (k : Kt H H') (s : ∀ v x, P H v x → P H' v x) (e : ∀ o, H l = some o → H' l = some o) : LsAt P H' l xs := by
  obtain ⟨vs, h1, h2⟩ := h
  exact ⟨vs, e _ h1, pr_mono h2 s⟩
/-! ### dicts -/
def DcAt {κ α : Type} (f : κ → Key) (P : Hp → V → α → Prop) (H : Hp) (d : Addr) (rs : List (κ × α)) : Prop :=
  ∃ es : List (Key × V), H d = some (.dK es) ∧ Paired (fun (e : Key × V) (p : κ × α) => e.1 = f p.1 ∧ P H e.2 p.2) es rs
section
variable {κ α : Type} [DecidableEq κ] {f : κ → Key} {R : V → α → Prop}
theorem val_of (inj : ∀ a b, f a = f b → a = b) : ∀ {es : List (Key × V)} {rs : List (κ × α)}, Paired (fun (e : Key × V) (p : κ × α) => e.1 = f p.1 ∧ R e.2 p.2) es rs → ∀ k : κ,
    (∃ v r, valV es (f k) = some v ∧ lookA rs k = some r ∧ R v r) ∨ (valV es (f k) = none ∧ lookA rs k = none)
  | _, _, .nil, k => .inr ⟨rfl, rfl⟩
  | _, _, .cons (a := e) (b := p) (l₁ := es) (l₂ := rs) h t, k => by
    by_cases q : p.1 = k
    · refine .inl ⟨e.2, p.2, valV_pos (by rw [h.1, q]), by rw [lookA_cons, if_pos q], h.2⟩
    · rw [lookA_cons, if_neg q, valV_neg (fun z => q (inj _ _ (by rw [← h.1, z])))]
      exact val_of inj t k
theorem any_of (inj : ∀ a b, f a = f b → a = b) {es : List (Key × V)} {rs : List (κ × α)} (h : Paired (fun (e : Key × V) (p : κ × α) => e.1 = f p.1 ∧ R e.2 p.2) es rs) (k : κ) :
    (es.any fun kv => decide (kv.1 = f k)) = (rs.any fun p => decide (p.1 = k)) := by
  induction h with
  | nil => rfl
  | cons h t ih =>
    rw [List.any_cons, List.any_cons, ih, h.1]
    congr 1
    exact decide_eq_decide.mpr ⟨fun z => inj _ _ z, fun z => by rw [z]⟩
theorem put_of (inj : ∀ a b, f a = f b → a = b) {es : List (Key × V)} {rs : List (κ × α)} (h : Paired (fun (e : Key × V) (p : κ × α) => e.1 = f p.1 ∧ R e.2 p.2) es rs) (k : κ) {v : V} {r : α} (hv : R v r) :
    Paired (fun (e : Key × V) (p : κ × α) => e.1 = f p.1 ∧ R e.2 p.2) (putK es (f k) v) (putA rs k r) := by
  unfold putK putA
  rw [any_of inj h k]
  split
  · rename_i hc
    clear hc
    induction h with
    | nil => exact .nil
    | @cons e p es rs h t ih =>
      rw [List.map_cons, List.map_cons]
      refine .cons ?_ ih
      by_cases q : p.1 = k
      · rw [if_pos q, if_pos (by rw [h.1, q])]
        exact ⟨h.1, hv⟩
      · rw [if_neg q, if_neg (fun z => q (inj _ _ (by rw [← h.1, z])))]
        exact h
  · exact pr_snoc h ⟨rfl, hv⟩
theorem drop_of (inj : ∀ a b, f a = f b → a = b) {es : List (Key × V)} {rs : List (κ × α)} (h : Paired (fun (e : Key × V) (p : κ × α) => e.1 = f p.1 ∧ R e.2 p.2) es rs) (k : κ) :
    Paired (fun (e : Key × V) (p : κ × α) => e.1 = f p.1 ∧ R e.2 p.2) (dropK es (f k)) (dropA rs k) := by
  unfold dropK dropA
  induction h with
  | nil => exact .nil
  | @cons e p es rs h t ih =>
    rw [List.filter_cons, List.filter_cons]
    by_cases q : p.1 = k
    · rw [if_neg (by simp [h.1, q]), if_neg (by simp [q])]
      exact ih
    · rw [if_pos (by simp only [ne_eq, decide_eq_true_eq]; exact fun z => q (inj _ _ (by rw [← h.1, z]))), if_pos (by simp [q])]
      exact .cons h ih
theorem keys_of {es : List (Key × V)} {rs : List (κ × α)} (h : Paired (fun (e : Key × V) (p : κ × α) => e.1 = f p.1 ∧ R e.2 p.2) es rs) : es.map (fun kv => kV kv.1) = (keysA rs).map fun k => kV (f k) := by
  induction h with
  | nil => rfl
  | cons h t ih =>
    rw [List.map_cons, ih, h.1]
    rfl
end
theorem inr_inj (a b : Str) (h : (Sum.inr a : Key) = Sum.inr b) : a = b := Sum.inr.inj h
theorem inl_inj (a b : Int) (h : (Sum.inl a : Key) = Sum.inl b) : a = b := Sum.inl.inj h
abbrev RecsAt : Hp → Addr → Recs → Prop := DcAt (fun k : Str => (Sum.inr k : Key)) RecV
def EndV (H : Hp) (v : V) (p : Int × Int) : Prop := TAt H v [.int p.1, .int p.2]
abbrev EndsAt : Hp → Addr → List (Int × (Int × Int)) → Prop := DcAt (fun k : Int => (Sum.inl k : Key)) EndV
def SpanV (H : Hp) (v : V) : Option (Str × Str × Int) → Prop
  | none => v = .non
  | some (a, b, n) => TAt H v [.str a, .str b, .int n]
abbrev SpansAt : Hp → Addr → List (Option (Str × Str × Int)) → Prop := LsAt SpanV
abbrev CutAt (H : Hp) (d : Addr) (cs : List Int) : Prop := DcAt (fun k : Int => (Sum.inl k : Key)) (fun _ v (_ : Unit) => v = .bl true) H d (cs.map fun c => (c, ()))
theorem SpanV.kt {H H' : Hp} {v : V} {p : Option (Str × Str × Int)} (k : Kt H H') (h : SpanV H v p) : SpanV H' v p := by
  cases p with
  | none => exact h
  | some p => exact TAt.kt k h
theorem DcAt.move {κ α : Type} {f : κ → Key} {P : Hp → V → α → Prop} {H H' : Hp} {d : Addr} {rs : List (κ × α)} (h : DcAt f P H d rs) (s : ∀ v x, P H v x → P H' v x) (e : ∀ o, H d = some o → H' d = some o) : DcAt f P H' d rs := by
  obtain ⟨es, h1, h2⟩ := h
  exact ⟨es, e _ h1, pr_mono h2 fun a b z => ⟨z.1, s _ _ z.2⟩⟩

/-! ### the house -/
def hFlds (r o l : Addr) (last base : Int) (e : Addr) (granted now : Int) (s c : Addr) : List (Str × V) :=
  [("records", .ref r), ("old_records", .ref o), ("log", .ref l), ("last", .int last), ("base", .int base), ("ends", .ref e), ("granted", .int granted), ("now", .int now), ("spans", .ref s), ("cut", .ref c)]
section
variable (r o l : Addr) (last base : Int) (e : Addr) (granted now : Int) (s c : Addr)
theorem hf_records : (hFlds r o l last base e granted now s c).lookup ("records" : Str) = some (V.ref r) := by kernel_rfl
theorem hf_old : (hFlds r o l last base e granted now s c).lookup ("old_records" : Str) = some (V.ref o) := by kernel_rfl
theorem hf_log : (hFlds r o l last base e granted now s c).lookup ("log" : Str) = some (V.ref l) := by kernel_rfl
theorem hf_last : (hFlds r o l last base e granted now s c).lookup ("last" : Str) = some (V.int last) := by kernel_rfl
theorem hf_base : (hFlds r o l last base e granted now s c).lookup ("base" : Str) = some (V.int base) := by kernel_rfl
theorem hf_ends : (hFlds r o l last base e granted now s c).lookup ("ends" : Str) = some (V.ref e) := by kernel_rfl
theorem hf_granted : (hFlds r o l last base e granted now s c).lookup ("granted" : Str) = some (V.int granted) := by kernel_rfl
theorem hf_now : (hFlds r o l last base e granted now s c).lookup ("now" : Str) = some (V.int now) := by kernel_rfl
theorem hf_spans : (hFlds r o l last base e granted now s c).lookup ("spans" : Str) = some (V.ref s) := by kernel_rfl
theorem hf_cut : (hFlds r o l last base e granted now s c).lookup ("cut" : Str) = some (V.ref c) := by kernel_rfl
theorem hp_last (x : Int) : putF "last" (.int x) (hFlds r o l last base e granted now s c) = hFlds r o l x base e granted now s c := by kernel_rfl
theorem hp_base (x : Int) : putF "base" (.int x) (hFlds r o l last base e granted now s c) = hFlds r o l last x e granted now s c := by kernel_rfl
theorem hp_granted (x : Int) : putF "granted" (.int x) (hFlds r o l last base e granted now s c) = hFlds r o l last base e x now s c := by kernel_rfl
theorem hp_now (x : Int) : putF "now" (.int x) (hFlds r o l last base e granted now s c) = hFlds r o l last base e granted x s c := by kernel_rfl
theorem hp_old (x : Addr) : putF "old_records" (.ref x) (hFlds r o l last base e granted now s c) = hFlds r x l last base e granted now s c := by kernel_rfl
theorem hp_log (x : Addr) : putF "log" (.ref x) (hFlds r o l last base e granted now s c) = hFlds r o x last base e granted now s c := by kernel_rfl
theorem hp_records (x : Addr) : putF "records" (.ref x) (hFlds r o l last base e granted now s c) = hFlds x o l last base e granted now s c := by kernel_rfl
theorem hp_ends (x : Addr) : putF "ends" (.ref x) (hFlds r o l last base e granted now s c) = hFlds r o l last base x granted now s c := by kernel_rfl
theorem hp_spans (x : Addr) : putF "spans" (.ref x) (hFlds r o l last base e granted now s c) = hFlds r o l last base e granted now x c := by kernel_rfl
theorem hp_cut (x : Addr) : putF "cut" (.ref x) (hFlds r o l last base e granted now s c) = hFlds r o l last base e granted now s x := by kernel_rfl
theorem hf_len : (hFlds r o l last base e granted now s c).length < 1000 := by
  show 10 < 1000
  decide
end
def houseMeths : List Str := (["__init__", "write", "put", "drop", "deal", "number", "folded", "records_at", "records_when", "look", "rows", "since", "changes", "fold_to", "need_lease", "need_term", "grant", "renew", "left", "keys_of", "end", "give_back", "wait", "clock", "leases", "need_watcher", "watch", "unheard", "heard", "hear", "hear_some", "stop", "watchers", "fold"] : List String).map Str.ofString
theorem hf_meth (r o l : Addr) (last base : Int) (e : Addr) (granted now : Int) (s c : Addr) {m : Str} (h : m ∈ houseMeths) : (hFlds r o l last base e granted now s c).lookup m = none := by
  have k : ∀ m ∈ houseMeths, (m == "records") = false ∧ (m == "old_records") = false ∧ (m == "log") = false ∧ (m == "last") = false ∧ (m == "base") = false ∧ (m == "ends") = false ∧ (m == "granted") = false ∧ (m == "now") = false ∧ (m == "spans") = false ∧ (m == "cut") = false := by decide +kernel
  obtain ⟨k1, k2, k3, k4, k5, k6, k7, k8, k9, k10⟩ := k m h
  unfold hFlds
  simp only [List.lookup_cons, k1, k2, k3, k4, k5, k6, k7, k8, k9, k10, List.lookup_nil]
/-- the cells of a house -/
structure HCell where
  r : Addr
  o : Addr
  l : Addr
  e : Addr
  s : Addr
  c : Addr
def HCell.fp (p : Addr) (z : HCell) : List Addr := [p, z.r, z.o, z.l, z.e, z.s, z.c]
structure HouseAt (C : Addr) (H : Hp) (p : Addr) (s : HS) (z : HCell) : Prop where
  ob : ∃ dx, H p = some (.ins C dx (hFlds z.r z.o z.l s.last s.base z.e s.granted s.now z.s z.c))
  recs : RecsAt H z.r s.recs
  old : RecsAt H z.o s.old
  log : LogAt H z.l s.log
  ends : EndsAt H z.e s.ends
  spans : SpansAt H z.s s.spans
  cut : CutAt H z.c s.cut
  ro : z.r ≠ z.o
  re : z.r ≠ z.e
  rc : z.r ≠ z.c
  oe : z.o ≠ z.e
  oc : z.o ≠ z.c
  ec : z.e ≠ z.c
  ls : z.l ≠ z.s
/-- what is not of the cells F stays; the cells F' behind are old ones or new -/
structure Keep (F F' : List Addr) (H H' : Hp) : Prop where
  kp : ∀ b o, H b = some o → b ∉ F → H' b = some o
  fr : ∀ b ∈ F', b ∈ F ∨ H b = none
  kt : Kt H H'
theorem Keep.ex {F : List Addr} {H H' : Hp} (e : Ex H H') : Keep F F H H' := ⟨fun b o h _ => e b o h, fun b h => .inl h, Ex.kt e⟩
theorem Keep.trans {F F1 F2 : List Addr} {H H1 H2 : Hp} (a : Keep F F1 H H1) (b : Keep F1 F2 H1 H2) : Keep F F2 H H2 where
  kp := fun c o h n => b.kp c o (a.kp c o h n) fun z => (a.fr c z).elim n fun q => by rw [h] at q; cases q
  fr := fun c h => by
    rcases b.fr c h with h | h
    · exact a.fr c h
    · by_cases n : c ∈ F
      · exact .inl n
      · refine .inr ?_
        cases q : H c with
        | none => rfl
        | some o => rw [a.kp c o q n] at h; cases h
  kt := a.kt.trans b.kt
/-- a thing that stands apart from F -/
def Out (F : List Addr) (H : Hp) (a : Addr) (o : HO) : Prop := H a = some o ∧ a ∉ F
theorem Out.keep {F F' : List Addr} {H H' : Hp} {a : Addr} {o : HO} (h : Out F H a o) (k : Keep F F' H H') : Out F' H' a o :=
  ⟨k.kp a o h.1 h.2, fun z => (k.fr a z).elim h.2 fun q => by rw [h.1] at q; cases q⟩
theorem HouseAt.move {C : Addr} {H H' : Hp} {p : Addr} {s : HS} {z : HCell} (h : HouseAt C H p s z) (k : Kt H H') (e : ∀ b ∈ z.fp p, ∀ o, H b = some o → H' b = some o) : HouseAt C H' p s z where
  ob := by
    obtain ⟨dx, q⟩ := h.ob
    exact ⟨dx, e p (by simp [HCell.fp]) _ q⟩
  recs := h.recs.move (fun v x q => RecV.kt k q) (e z.r (by simp [HCell.fp]))
  old := h.old.move (fun v x q => RecV.kt k q) (e z.o (by simp [HCell.fp]))
  log := h.log.move k (fun v x q => EvV.kt k q) (e z.l (by simp [HCell.fp]))
  ends := h.ends.move (fun v x q => TAt.kt k q) (e z.e (by simp [HCell.fp]))
  spans := h.spans.move k (fun v x q => SpanV.kt k q) (e z.s (by simp [HCell.fp]))
  cut := h.cut.move (fun v x q => q) (e z.c (by simp [HCell.fp]))
  ro := h.ro
  re := h.re
  rc := h.rc
  oe := h.oe
  oc := h.oc
  ec := h.ec
  ls := h.ls
theorem HouseAt.ex {C : Addr} {H H' : Hp} {p : Addr} {s : HS} {z : HCell} (h : HouseAt C H p s z) (e : Ex H H') : HouseAt C H' p s z := h.move (Ex.kt e) fun b _ o q => e b o q
end KW

/-! comprehensions whose turns change nothing -/
namespace KW
open PySem PySem.Spec PyProof.Rows L2 Evl
/-- what is walked over: items that stand -/
structure Walk1 (J : It) (B : Hp) (xs : List V) : Prop where
  go : ∀ i x H, Ex B H → xs[i]? = some x → J.go i H
  stop : ∀ H, Ex B H → J.stop xs.length H
  yld : ∀ i x H v H', Ex B H → xs[i]? = some x → J.yld i H v H' → H' = H ∧ v = x
theorem walk_list {K : PySem.W.Frag} {B : Hp} {a : Addr} {xs : List V} (h : SqL K B a xs) : Walk1 (Itl K a) B xs :=
  ⟨fun i x H e hx => ⟨xs, x, ex_l e h, hx⟩, fun H e => ⟨xs, ex_l e h, Nat.le_refl _⟩, fun i x H v H' e hx hy => ⟨hy.1, Option.some.inj ((hy.2 xs (ex_l e h)).symm.trans hx)⟩⟩
theorem walk_tup {K : PySem.W.Frag} {B : Hp} {a : Addr} {xs : List V} (h : SqT K B a xs) : Walk1 (Itt K a) B xs :=
  ⟨fun i x H e hx => ⟨xs, x, ex_t e h, hx⟩, fun H e => ⟨xs, ex_t e h, Nat.le_refl _⟩, fun i x H v H' e hx hy => ⟨hy.1, Option.some.inj ((hy.2 xs (ex_t e h)).symm.trans hx)⟩⟩
def signV (c : Nat) : V := .str ⟨#[c]⟩
theorem walk_str {B : Hp} (x : Str) : Walk1 (Its x) B (x.cps.toList.map signV) where
  go := fun i v H e hx => by
    rw [List.getElem?_map] at hx
    obtain ⟨c, hc, _⟩ := Option.map_eq_some_iff.mp hx
    have := (List.getElem?_eq_some_iff.mp hc).1
    show i < x.cps.size
    simpa using this
  stop := fun H e => by
    show x.cps.size ≤ _
    simp
  yld := fun i v H u H' e hx hy => by
    obtain ⟨h1, c, h2, h3⟩ := hy
    refine ⟨h1, ?_⟩
    rw [List.getElem?_map, Array.getElem?_toList, h2] at hx
    rw [h3]
    exact Option.some.inj hx
def rngV (lo : Int) (n : Nat) : List V := (List.range n).map fun i : Nat => V.int (lo + (i : Int))
theorem walk_rng {B : Hp} (lo : Int) (n : Nat) : Walk1 (Itr lo n) B (rngV lo n) where
  go := fun i v H e hx => by
    have h := (List.getElem?_eq_some_iff.mp hx).1
    unfold rngV at h
    show i < n
    simpa using h
  stop := fun H e => by
    show n ≤ _
    simp [rngV]
  yld := fun i v H u H' e hx hy => by
    refine ⟨hy.1, ?_⟩
    unfold rngV at hx
    rw [List.getElem?_map] at hx
    obtain ⟨c, hc, h2⟩ := Option.map_eq_some_iff.mp hx
    have h3 := (List.getElem?_eq_some_iff.mp hc)
    obtain ⟨h4, h5⟩ := h3
    rw [List.getElem_range] at h5
    rw [hy.2, ← h2, h5]
def EvI (wi : TI) (σ : L2.St) (B : Hp) (xs : List V) : Prop := ∀ H1, Ex B H1 → ∀ R : It → Hp → Prop, (∀ J H2, Ex H1 H2 → Walk1 J H2 xs → R J H2) → wi σ H1 R
section
variable {K : PySem.W.Frag} {σ : L2.St} {B : Hp} {tl te : TE} {xs : List V} {a : Addr}
theorem ei_list (h : Ev tl σ B (.ref a)) (hx : SqL K B a xs) : EvI (iList K tl) σ B xs := fun H1 e R q => h H1 e _ fun H2 e2 => ⟨a, rfl, ⟨xs, ex_l (e.trans e2) hx⟩, q _ H2 e2 (walk_list (ex_l (e.trans e2) hx))⟩
theorem ei_listN (h : EvL tl σ B xs) : EvI (iList K tl) σ B xs := fun H1 e R q => h H1 e _ fun p H2 hp e2 h2 => ⟨p, rfl, ⟨xs, sq_of h2⟩, q _ H2 e2 (walk_list (sq_of h2))⟩
theorem ei_tup (h : Ev tl σ B (.ref a)) (hx : SqT K B a xs) : EvI (iTup K tl) σ B xs := fun H1 e R q => h H1 e _ fun H2 e2 => ⟨a, rfl, ⟨xs, ex_t (e.trans e2) hx⟩, q _ H2 e2 (walk_tup (ex_t (e.trans e2) hx))⟩
theorem ei_str {x : Str} (h : Ev tl σ B (.str x)) : EvI (iStr tl) σ B (x.cps.toList.map signV) := fun H1 e R q => h H1 e _ fun H2 e2 => ⟨x, rfl, q _ H2 e2 (walk_str x)⟩
theorem ei_seqL (h : Ev tl σ B (.ref a)) (hx : SqL K B a xs) : EvI (iSeq K tl) σ B xs := fun H1 e R q => h H1 e _ fun H2 e2 => ⟨a, rfl, .inl ⟨xs, ex_l (e.trans e2) hx, q _ H2 e2 (walk_list (ex_l (e.trans e2) hx))⟩⟩
theorem ei_seqT (h : Ev tl σ B (.ref a)) (hx : SqT K B a xs) : EvI (iSeq K tl) σ B xs := fun H1 e R q => h H1 e _ fun H2 e2 => ⟨a, rfl, .inr ⟨xs, ex_t (e.trans e2) hx, q _ H2 e2 (walk_tup (ex_t (e.trans e2) hx))⟩⟩
theorem ei_rng {ta : TA} {n : Int} (h : EvA ta σ B [.int n]) (hn : 0 ≤ n ∧ n ≤ 100000) : EvI (iRng1 ta) σ B (rngV 0 n.toNat) := fun H1 e R q => h H1 e _ fun H2 e2 => ⟨n, rfl, by omega, by omega, q _ H2 e2 (walk_rng 0 n.toNat)⟩
end
theorem paired_eq_of : ∀ {l m : List V}, Paired (fun (a b : V) => a = b) l m → l = m
  | _, _, .nil => rfl
  | _, _, .cons r t => by rw [r, paired_eq_of t]
/-- a new list whose items are known by P -/
def EvLP {α : Type} (te : TE) (σ : L2.St) (B : Hp) (P : Hp → V → α → Prop) (ys : List α) : Prop := ∀ H1, Ex B H1 → ∀ Q : VK, (∀ p H2, H1 p = none → Ex H1 H2 → LsAt P H2 p ys → Q (.ref p) H2) → te σ H1 Q
section
variable {α β : Type} {σ : L2.St} {B : Hp} {te : TE} {P : Hp → V → α → Prop} {ys : List α}
theorem EvLP.mono {B' : Hp} (e : Ex B B') (h : EvLP te σ B P ys) : EvLP te σ B' P ys := fun H1 a Q q => h H1 (e.trans a) Q q
theorem EvLP.toL {ys : List V} (h : EvLP te σ B (fun _ v y => v = y) ys) : EvL te σ B ys := fun H1 e Q q => h H1 e Q fun p H2 hp e2 hl => by
  obtain ⟨vs, h1, h2⟩ := hl
  have : vs = ys := paired_eq_of h2
  subst this
  exact q p H2 hp e2 h1
theorem EvLP.p (h : EvLP te σ B P ys) : EvP te σ B (fun H v => ∃ p, v = .ref p ∧ LsAt P H p ys) := fun H1 e Q q => h H1 e Q fun p H2 hp e2 hl => q _ H2 e2 ⟨p, rfl, hl⟩
theorem lc_typed {J : It} {xs : List V} {ds : List β} {R : V → β → Prop} {wi : TI} {tt : TT} {j : Nat} {vs : List Nat} (hi : EvI wi σ B xs) (hp : Paired R xs ds) (f : β → Option α) (st : ∀ H H' v y, Kt H H' → P H v y → P H' v y)
    (hw : ∀ x : V, wipe ((wipe σ vs).set j (some x)) vs = wipe σ vs)
    (ht : ∀ x d, R x d → EvT tt ((wipe σ vs).set j (some x)) B (f d).isSome) (he : ∀ x d y, R x d → f d = some y → EvP te ((wipe σ vs).set j (some x)) B (fun H v => P H v y)) (hl : xs.length ≤ 100000) :
    EvLP (tLc wi (gName j) tt te vs) σ B P (ds.filterMap f) := fun H1 e Q q => by
  refine hi H1 e _ fun J H2 e2 W => ?_
  intro D hD
  have hlen := pr_len hp
  refine ⟨fun i m H => m = xs.length - i ∧ i ≤ xs.length ∧ Ex H2 H ∧ ∃ acc, H D = some (.lst acc) ∧ Paired (P H) acc ((ds.take i).filterMap f), ⟨xs.length, by simp, Nat.zero_le _, Ex.new hD, [], upd_same, .nil⟩, ?_⟩
  rintro i m H ⟨rfl, hi2, eH, acc, hacc, pacc⟩
  by_cases hlt : i < xs.length
  · refine .inr ?_
    obtain ⟨x, hx⟩ : ∃ x, xs[i]? = some x := ⟨_, List.getElem?_eq_getElem hlt⟩
    obtain ⟨d, hd, hR⟩ := pr_get hp hx
    have htake : ds.take (i + 1) = ds.take i ++ [d] := by
      rw [List.take_succ, hd]
      rfl
    refine ⟨W.go i x H eH hx, fun H' => i + 1 ≤ xs.length ∧ Ex H2 H' ∧ ∃ acc, H' D = some (.lst acc) ∧ Paired (P H') acc ((ds.take (i + 1)).filterMap f), fun H' h' => ⟨xs.length - (i + 1), by omega, rfl, h'⟩, ?_⟩
    intro v H' hy
    obtain ⟨rfl, rfl⟩ := W.yld i x H v H' eH hx hy
    refine ⟨hw v, ?_⟩
    have eB : Ex B H' := (e.trans e2).trans eH
    have hflen : acc.length ≤ i := by
      have h1 := pr_len pacc
      have h2 : ((ds.take i).filterMap f).length ≤ (ds.take i).length := List.length_filterMap_le _ _
      rw [List.length_take] at h2
      omega
    refine ht v d hR H' eB _ fun H3 e3 => ?_
    cases hf : f d with
    | none =>
      show (if false = true then _ else _)
      rw [if_neg Bool.false_ne_true]
      refine ⟨hlt, eH.trans e3, acc, e3 D _ hacc, ?_⟩
      rw [htake, List.filterMap_append]
      have : List.filterMap f [d] = [] := by simp [hf]
      rw [this, List.append_nil]
      exact pr_mono pacc fun a b z => st _ _ _ _ (Ex.kt e3) z
    | some y =>
      show (if true = true then _ else _)
      rw [if_pos rfl]
      refine he v d y hR hf H3 (eB.trans e3) _ fun u H4 e4 hu => ?_
      have hD4 : H4 D = some (.lst acc) := e4 D _ (e3 D _ hacc)
      have kt5 : Kt H4 (upd H4 D (.lst (acc ++ [u]))) := (Kt.refl H4).upd (ne_tup_of hD4 fun xs z => by cases z)
      refine ⟨acc, hD4, Nat.lt_of_le_of_lt hflen (Nat.lt_of_lt_of_le hlt (sz_of hl)), hlt, ?_, acc ++ [u], upd_same, ?_⟩
      · exact Ex.mut ((eH.trans e3).trans e4) hD
      · rw [htake, List.filterMap_append]
        have : List.filterMap f [d] = [y] := by simp [hf]
        rw [this]
        exact pr_append (pr_mono pacc fun a b z => st _ _ _ _ ((Ex.kt e3).trans ((Ex.kt e4).trans kt5)) z) (.cons (st _ _ _ _ kt5 hu) .nil)
  · have hi3 : i = xs.length := by omega
    subst hi3
    refine .inl ⟨W.stop H eH, q D H (fresh_back e2 hD) (e2.trans eH) ⟨acc, hacc, ?_⟩⟩
    rw [hlen, List.take_length] at pacc
    exact pacc
theorem paired_eq (xs : List V) : Paired (fun (a b : V) => a = b) xs xs := by
  induction xs with
  | nil => exact .nil
  | cons a r ih => exact .cons rfl ih
theorem paired_map {γ : Type} (g : γ → V) (xs : List γ) : Paired (fun (a : V) (b : γ) => a = g b) (xs.map g) xs := by
  induction xs with
  | nil => exact .nil
  | cons a r ih => exact .cons rfl ih
theorem paired_mem {γ : Type} {F : V → γ → Prop} : ∀ {l : List V} {m : List γ}, Paired F l m → Paired (fun a b => F a b ∧ b ∈ m) l m
  | _, _, .nil => .nil
  | _, _, .cons r t => .cons ⟨r, List.mem_cons_self⟩ (pr_mono (paired_mem t) fun a b z => ⟨z.1, List.mem_cons_of_mem _ z.2⟩)
end
end KW

/-! the promises -/
namespace KW
open PySem PySem.Spec PyProof.Rows L2 Evl

/-- things of any kind -/
inductive Thing (K : PySem.W.Frag) (H : Hp) : V → Prop where
  | non : Thing K H .non
  | bl (b : Bool) : Thing K H (.bl b)
  | int (i : Int) : Thing K H (.int i)
  | str (x : Str) (h : x.length ≤ 100000) : Thing K H (.str x)
  | lst {a : Addr} {xs : List V} (e : H a = some (.lst xs)) : Thing K H (.ref a)
  | tup {a : Addr} {xs : List V} (e : H a = some (.tup xs)) : Thing K H (.ref a)
  | dK {a : Addr} {kvs : List (Key × V)} (e : H a = some (.dK kvs)) : Thing K H (.ref a)
theorem Thing.ex {K : PySem.W.Frag} {H H' : Hp} {v : V} (e : Ex H H') (h : Thing K H v) : Thing K H' v := by
  cases h with
  | non => exact .non
  | bl b => exact .bl b
  | int i => exact .int i
  | str x h => exact .str x h
  | lst q => exact .lst (e _ _ q)
  | tup q => exact .tup (e _ _ q)
  | dK q => exact .dK (e _ _ q)
theorem thing_key {K : PySem.W.Frag} {H : Hp} {x : Str} (h : isKey x = true) : Thing K H (.str x) := .str x (by have := isKey_le h; omega)
def isKeyV : V → Bool
  | .str x => isKey x
  | _ => false
def isWholeV (v : V) (low : Int) : Bool := match v with
  | .int i => decide (low ≤ i)
  | _ => false
def isValueV (v : V) : Bool := match v with
  | .int i => decide (0 ≤ i) && decide (i ≤ 9999)
  | _ => false
section
variable (K : PySem.W.Frag)
def sp_is_key : Sp := fun vs H Q _ => ∃ v, vs = [v] ∧ Thing K H v ∧ ∀ H', Ex H H' → Q (.bl (isKeyV v)) H'
def sp_is_whole : Sp := fun vs H Q _ => ∃ v low, vs = [v, .int low] ∧ Thing K H v ∧ ∀ H', Ex H H' → Q (.bl (isWholeV v low)) H'
def sp_is_value : Sp := fun vs H Q _ => ∃ v, vs = [v] ∧ Thing K H v ∧ ∀ H', Ex H H' → Q (.bl (isValueV v)) H'
def spNeed (t : V → Bool) (x : Str) : Sp := fun vs H Q E => ∃ v, vs = [v] ∧ Thing K H v ∧ ∀ H', Ex H H' → (t v = true → Q .non H') ∧ (t v = false → E (.ref (He.ga K x)) none H')
def sp_need_key : Sp := spNeed K isKeyV "NoKey"
def sp_need_value : Sp := spNeed K isValueV "NoValue"
def sp_need_whole : Sp := fun vs H Q E => ∃ v low, vs = [v, .int low] ∧ Thing K H v ∧ ∀ H', Ex H H' → (isWholeV v low = true → Q .non H') ∧ (isWholeV v low = false → E (.ref (He.ga K "NoNumber")) none H')
def sp_is_within (_ : PySem.W.Frag) : Sp := fun vs H Q _ => ∃ k a b, vs = [.str k, .str a, .str b] ∧ Q (.bl (within k a b)) H
/-- one thing alone is changed -/
def Keep1 (d : Addr) (H H' : Hp) : Prop := ∀ b o, b ≠ d → H b = some o → H' b = some o
def evOk (rs : Recs) (e : Evt) : Prop := ∀ k, e.deed = .drop k → hasR rs k = true
def sp_change (_ : PySem.W.Frag) : Sp := fun vs H Q _ => ∃ d v rs e, vs = [.ref d, v] ∧ RecsAt H d rs ∧ EvV H v e ∧ evOk rs e ∧ rs.length ≤ 100000 ∧ ∀ H', RecsAt H' d (changeR rs e) → Keep1 d H H' → Kt H H' → Q .non H'
def sp_in_rows (_ : PySem.W.Frag) : Sp := fun vs H Q _ => ∃ d rs, vs = [.ref d] ∧ RecsAt H d rs ∧ (keysA rs).Nodup ∧ rs.length < 64 ∧ ∀ H' l, Ex H H' → H l = none → RowsAt H' l (inRows rs) → Q (.ref l) H'
/-- methods of a house -/
def sp_h_init : Sp := fun vs H Q _ => ∃ p dx, vs = [.ref p] ∧ H p = some (.ins (clsHouse K) dx []) ∧ ∀ H' z, HouseAt (clsHouse K) H' p HS.new z → Keep [p] (z.fp p) H H' → Q .non H'
def DeedsAt (K : PySem.W.Frag) (H : Hp) (a : Addr) (ds : List Deed) : Prop := ∃ vs, (H a = some (.lst vs) ∨ H a = some (.tup vs)) ∧ Paired (DeedV H) vs ds
def HS.small (s : HS) (n : Nat) : Prop := s.recs.length + n ≤ 50000 ∧ s.log.length + n ≤ 50000
def sp_h_write : Sp := fun vs H Q _ => ∃ p s z a ds, vs = [.ref p, .ref a] ∧ HouseAt (clsHouse K) H p s z ∧ DeedsAt K H a ds ∧ a ∉ z.fp p ∧ s.small ds.length ∧ (ds.map Deed.key).Nodup ∧
  ∀ H' z', HouseAt (clsHouse K) H' p (s.write ds) z' → Keep (z.fp p) (z'.fp p) H H' → Q (.bl (!decide (realD s.recs ds = []))) H'
def sp_h_need_lease : Sp := fun vs H Q E => ∃ p s z v, vs = [.ref p, v] ∧ HouseAt (clsHouse K) H p s z ∧ Thing K H v ∧ ∀ H', Ex H H' →
  (∀ i, v = .int i → 1 ≤ i → i ∈ keysA s.ends → Q .non H') ∧ ((∀ i, v = .int i → 1 ≤ i → i ∉ keysA s.ends) → E (.ref (He.ga K "NoLease")) none H')
/-- put and drop: good keys and values -/
def leaseOk (s : HS) (l : Option Int) : Prop := ∀ i, l = some i → 1 ≤ i ∧ i ∈ keysA s.ends
def sp_h_put : Sp := fun vs H Q E => ∃ p s z k v l, vs = [.ref p, .str k, .int v, optV l] ∧ HouseAt (clsHouse K) H p s z ∧ isKey k = true ∧ 0 ≤ v ∧ v ≤ 9999 ∧ leaseOk s l ∧ s.small 1 ∧
  ∀ H' z', HouseAt (clsHouse K) H' p (s.write [.put k v l]) z' → Keep (z.fp p) (z'.fp p) H H' → Q (.int (s.last + 1)) H'
def sp_h_drop : Sp := fun vs H Q E => ∃ p s z k, vs = [.ref p, .str k] ∧ HouseAt (clsHouse K) H p s z ∧ isKey k = true ∧ s.small 1 ∧
  ∀ H' z', HouseAt (clsHouse K) H' p (s.write [.drop k]) z' → Keep (z.fp p) (z'.fp p) H H' → Q (.bl (hasR s.recs k)) H'
def sp_h_number : Sp := fun vs H Q _ => ∃ p s z, vs = [.ref p] ∧ HouseAt (clsHouse K) H p s z ∧ Q (.int s.last) H
/-- the records at a number -/
def HS.at (s : HS) (n : Int) : Recs := if n = s.last then s.recs else (s.log.filter fun e => decide (e.num ≤ n)).foldl changeR s.old
/-- every drop in the log drops what is there -/
def HS.logOk (s : HS) : Prop := ∀ n : Int, ∀ pre e post, (s.log.filter fun e => decide (e.num ≤ n)) = pre ++ e :: post → evOk (pre.foldl changeR s.old) e
def sp_h_records_at : Sp := fun vs H Q _ => ∃ p s z n, vs = [.ref p, .int n] ∧ HouseAt (clsHouse K) H p s z ∧ s.logOk ∧ s.log.length + s.old.length ≤ 50000 ∧
  ∀ H' d, Ex H H' → RecsAt H' d (s.at n) → Q (.ref d) H'
/-- a number that is asked: none, or one there was -/
def numV (s : HS) (n : Option Int) : Int := n.getD s.last
def numBad (s : HS) (n : Option Int) : Prop := ∃ i, n = some i ∧ (i < 0 ∨ s.last < i)
def numFold (s : HS) (n : Option Int) : Prop := ∃ i, n = some i ∧ 0 ≤ i ∧ i ≤ s.last ∧ i < s.base
def numOk (s : HS) (n : Option Int) : Prop := ∀ i, n = some i → 0 ≤ i ∧ i ≤ s.last ∧ s.base ≤ i
def sp_h_records_when : Sp := fun vs H Q E => ∃ p s z n, vs = [.ref p, optV n] ∧ HouseAt (clsHouse K) H p s z ∧ s.logOk ∧ s.log.length + s.old.length ≤ 50000 ∧
  ∀ H', Ex H H' → (numBad s n → E (.ref (He.ga K "NoNumber")) none H') ∧ (numFold s n → E (.ref (He.ga K "Folded")) none H') ∧ (numOk s n → ∀ d, RecsAt H' d (s.at (numV s n)) → Q (.ref d) H')
def recOV (H : Hp) (v : V) : Option Rec → Prop
  | none => v = .non
  | some r => RecV H v r
def sp_h_look : Sp := fun vs H Q E => ∃ p s z k n, vs = [.ref p, .str k, optV n] ∧ HouseAt (clsHouse K) H p s z ∧ isKey k = true ∧ s.logOk ∧ s.log.length + s.old.length ≤ 50000 ∧
  ∀ H', Ex H H' → (numBad s n → E (.ref (He.ga K "NoNumber")) none H') ∧ (numFold s n → E (.ref (He.ga K "Folded")) none H') ∧ (numOk s n → ∀ v, recOV H' v (lookR (s.at (numV s n)) k) → Q v H')
def sp_h_rows : Sp := fun vs H Q E => ∃ p s z a b n, vs = [.ref p, .str a, .str b, optV n] ∧ HouseAt (clsHouse K) H p s z ∧ isKey a = true ∧ isKey b = true ∧ s.logOk ∧ s.log.length + s.old.length ≤ 50000 ∧
  (keysA (s.at (numV s n))).Nodup ∧ (s.at (numV s n)).length < 64 ∧
  ∀ H', Ex H H' → (numBad s n → E (.ref (He.ga K "NoNumber")) none H') ∧ (numFold s n → E (.ref (He.ga K "Folded")) none H') ∧ (numOk s n → ∀ l, H l = none → RowsAt H' l (spanRows (s.at (numV s n)) a b) → Q (.ref l) H')
/-! the laws' defs -/
def Scr (H : Hp) (a : Addr) (ns : List Int) : Prop := ((∃ o, H a = some (.frz o (.lst (ns.map V.int)))) ∨ SqL K (fun _ => none) a (ns.map V.int)) ∧ ns.length ≤ 63
def sp_l_cell_at : Sp := fun vs H Q _ => ∃ a ns k, vs = [.ref a, .int k] ∧ Scr K H a ns ∧ 0 ≤ k ∧ ∀ H', Ex H H' → Q (.int (cellAt ns k)) H'
def sp_l_mixed : Sp := fun vs H Q _ => ∃ a ns k m, vs = [.ref a, .int k, .int m] ∧ Scr K H a ns ∧ 0 ≤ k ∧ 0 < m ∧ ∀ H', Ex H H' → Q (.int (mixed ns k m)) H'
def sp_l_key : Sp := fun vs H Q _ => ∃ a ns k, vs = [.ref a, .int k] ∧ Scr K H a ns ∧ 0 ≤ k ∧ ∀ H', Ex H H' → Q (.str (lawKey ns k)) H'
def sp_l_keys : Sp := fun vs H Q _ => ∃ a ns k, vs = [.ref a, .int k] ∧ Scr K H a ns ∧ 0 ≤ k ∧ ∀ H' l, Ex H H' → H l = none → H' l = some (.lst ((lawKeys ns k).map V.str)) → Q (.ref l) H'
def sp_l_span : Sp := fun vs H Q _ => ∃ a ns k l keys, vs = [.ref a, .int k, .ref l] ∧ Scr K H a ns ∧ 0 ≤ k ∧ H l = some (.lst (keys.map V.str)) ∧ 0 < keys.length ∧ (∀ x ∈ keys, isKey x = true) ∧
  ∀ H' t, Ex H H' → H' t = some (.tup [.str (lawSpan ns k keys).1, .str (lawSpan ns k keys).2]) → Q (.ref t) H'
def sp_l_rows (_ : PySem.W.Frag) : Sp := fun vs H Q _ => ∃ d rs a b, vs = [.ref d, .str a, .str b] ∧ RecsAt H d rs ∧ (keysA rs).Nodup ∧ rs.length < 64 ∧ ∀ H' l, Ex H H' → H l = none → RowsAt H' l (spanRows rs a b) → Q (.ref l) H'
def sp_law : Sp := fun vs H Q _ => ∃ a ns, vs = [.ref a] ∧ Scr K H a ns ∧ ∀ H', Q (.bl true) H'
end
theorem Scr.sq {K : PySem.W.Frag} {H : Hp} {a : Addr} {ns : List Int} (h : Scr K H a ns) : SqL K H a (ns.map V.int) := by
  rcases h.1 with ⟨o, h⟩ | h
  · exact .inl (.inr ⟨o, h⟩)
  · rcases h with h | h
    · rcases h with h | ⟨o, h⟩
      · cases h
      · cases h
    · exact .inr h
theorem Scr.ex {K : PySem.W.Frag} {H H' : Hp} {a : Addr} {ns : List Int} (e : Ex H H') (h : Scr K H a ns) : Scr K H' a ns := by
  refine ⟨?_, h.2⟩
  rcases h.1 with ⟨o, h⟩ | h
  · exact .inl ⟨o, e _ _ h⟩
  · exact .inr h
theorem Scr.of {K : PySem.W.Frag} {H : Hp} {a : Addr} {ns : List Int} (hl : ns.length ≤ 63) (h : SqL K H a (ns.map V.int)) (o : Only H) : Scr K H a ns := by
  refine ⟨?_, hl⟩
  rcases h with h | h
  · rcases h with h | h
    · rcases o a with q | ⟨u, xs, q⟩
      · rw [h] at q; cases q
      · rw [h] at q; cases q
    · exact .inl h
  · exact .inr (.inr h)
end KW

/-! readings, printed by mkT.py -/
namespace KW
open PySem PySem.Spec PyProof.Rows L2 Evl
def t_is_key (K : PySem.W.Frag) : TS := (tRet (tAndV (tCB (rIsi K) (tCons (tVar 0) (tCons (tC (.ty "str")) tNil))) (tAndV (tChain rLeI rLeI (tC (.int 1)) (tCB rLenS1 (tCons (tVar 0) tNil)) (tC (.int 12))) (tCB (rAll K) (tCons (tLc (iStr (tVar 0)) (gName 1) tYes (tOp rInS (tVar 1) (tC (.str "abcdefghijklmnopqrstuvwxyz0123456789/"))) [1]) tNil)))))
abbrev N_is_key : List Str := ["thing", "sign"]
def t_is_whole (K : PySem.W.Frag) : TS := (tRet (tAndV (tCB (rIsi K) (tCons (tVar 0) (tCons (tC (.ty "int")) tNil))) (tAndV (tNotV (tCB (rIsi K) (tCons (tVar 0) (tCons (tC (.ty "bool")) tNil)))) (tOp rLeI (tVar 1) (tVar 0)))))
abbrev N_is_whole : List Str := ["thing", "low"]
def t_is_value (K : PySem.W.Frag) : TS := (tRet (tAndV (tCall (sp_is_whole K) [] E0 (tCons (tVar 0) (tCons (tC (.int 0)) tNil))) (tOp rLeI (tVar 0) (tC (.int 9999)))))
abbrev N_is_value : List Str := ["thing"]
def t_need_key (K : PySem.W.Frag) (E : XK) : TS := (tIfS (tNot (tB (tCall (sp_is_key K) [] E0 (tCons (tVar 0) tNil)))) (tRz E (He.ga K "NoKey")) tNext)
abbrev N_need_key : List Str := ["key"]
def t_need_value (K : PySem.W.Frag) (E : XK) : TS := (tIfS (tNot (tB (tCall (sp_is_value K) [] E0 (tCons (tVar 0) tNil)))) (tRz E (He.ga K "NoValue")) tNext)
abbrev N_need_value : List Str := ["value"]
def t_need_whole (K : PySem.W.Frag) (E : XK) : TS := (tIfS (tNot (tB (tCall (sp_is_whole K) [] E0 (tCons (tVar 0) (tCons (tVar 1) tNil))))) (tRz E (He.ga K "NoNumber")) tNext)
abbrev N_need_whole : List Str := ["number", "low"]
def t_is_within (K : PySem.W.Frag) : TS := (tRet (tChain rLeS rLeS (tVar 1) (tVar 0) (tVar 2)))
abbrev N_is_within : List Str := ["key", "first", "last"]
def t_change (K : PySem.W.Frag) : TS := (tSeq (tAsg (tVar 1) (gTup K 5 (gCons (gName 2) (gCons (gName 3) (gCons (gName 4) (gCons (gName 5) (gCons (gName 6) gNil)))))))
  (tIfS (tTest (tOp rEq (tVar 3) (tC (.str "drop")))) (tDrop (tDPop1 (tVar 0) (tVar 4))) (tIfS (tB (tDIn (tVar 4) (tVar 0))) (sDPut (tVar 0) (tVar 4) (tTup (tCons (tVar 5) (tCons (tOp (rIxT K) (tDGet (tVar 0) (tVar 4)) (tC (.int 1))) (tCons (tVar 2) (tCons (tOp rAddI (tOp (rIxT K) (tDGet (tVar 0) (tVar 4)) (tC (.int 3))) (tC (.int 1))) (tCons (tVar 6) tNil))))))) (sDPut (tVar 0) (tVar 4) (tTup (tCons (tVar 5) (tCons (tVar 2) (tCons (tVar 2) (tCons (tC (.int 1)) (tCons (tVar 6) tNil))))))))))
abbrev N_change : List Str := ["records", "event", "number", "kind", "key", "value", "lease"]
def t_in_rows (K : PySem.W.Frag) : TS := (tRet (tLc (iList K (tCB (rSortedS K) (tCons (tCB rListD (tCons (tVar 0) tNil)) tNil))) (gName 1) tYes (tTup (tCons (tVar 1) (tCons (tDGet (tVar 0) (tVar 1)) tNil))) [1]))
abbrev N_in_rows : List Str := ["records", "key"]
def t_h_init (K : PySem.W.Frag) : TS := (tSeq (sFld K (tVar 0) tDNewK "records")
  (tSeq (sFld K (tVar 0) tDNewK "old_records")
  (tSeq (sFld K (tVar 0) (tLst tNil) "log")
  (tSeq (sFld K (tVar 0) (tC (.int 0)) "last")
  (tSeq (sFld K (tVar 0) (tC (.int 0)) "base")
  (tSeq (sFld K (tVar 0) tDNewK "ends")
  (tSeq (sFld K (tVar 0) (tC (.int 0)) "granted")
  (tSeq (sFld K (tVar 0) (tC (.int 0)) "now")
  (tSeq (sFld K (tVar 0) (tLst tNil) "spans")
  (sFld K (tVar 0) tDNewK "cut"))))))))))
abbrev N_h_init : List Str := ["self"]
def t_h_write (K : PySem.W.Frag) : TS := (tSeq (tAsg (tLc (iSeq K (tVar 1)) (gName 3) (tOr (tTest (tOp rEq (tOp (rIxT K) (tVar 3) (tC (.int 0))) (tC (.str "put")))) (tB (tDIn (tOp (rIxT K) (tVar 3) (tC (.int 1))) (tFld K (tVar 0) "records")))) (tVar 3) [3]) (gName 2))
  (tSeq (tIfS (tTest (tOp (rNeP K) (tVar 2) (tLst tNil))) (sFld K (tVar 0) (tOp rAddI (tFld K (tVar 0) "last") (tC (.int 1))) "last") tNext)
  (tSeq (tFor (iList K (tVar 2)) (gName 3)
  (tSeq (tAsg (tOp (rCatA K) (tOp (rCatA K) (tTup (tCons (tFld K (tVar 0) "last") tNil)) (tVar 3)) (tOp (rRep01 K) (tTup (tCons (tC .non) (tCons (tC .non) tNil))) (tCB rInt1 (tCons (tOp rEq (tOp (rIxT K) (tVar 3) (tC (.int 0))) (tC (.str "drop"))) tNil)))) (gName 4))
  (tSeq (tDrop (tBM K "list" rAppend (tFld K (tVar 0) "log") (tCons (tVar 4) tNil)))
  (tDrop (tCall (sp_change K) [] E0 (tCons (tFld K (tVar 0) "records") (tCons (tVar 4) tNil)))))))
  (tRet (tOp (rNeP K) (tVar 2) (tLst tNil))))))
abbrev N_h_write : List Str := ["self", "deeds", "real", "deed", "event"]
def t_h_put (K : PySem.W.Frag) (E : XK) : TS := (tSeq (tDrop (tCall (sp_need_key K) [] E (tCons (tVar 1) tNil)))
  (tSeq (tDrop (tCall (sp_need_value K) [] E (tCons (tVar 2) tNil)))
  (tSeq (tIfS (tTest (tOp rNotN (tVar 3) (tC .non))) (tDrop (tMeth (clsHouse K) "need_lease" (sp_h_need_lease K) [] E (tVar 0) (tCons (tVar 3) tNil))) tNext)
  (tSeq (tDrop (tMeth (clsHouse K) "write" (sp_h_write K) [] E0 (tVar 0) (tCons (tLst (tCons (tTup (tCons (tC (.str "put")) (tCons (tVar 1) (tCons (tVar 2) (tCons (tVar 3) tNil))))) tNil)) tNil)))
  (tRet (tFld K (tVar 0) "last"))))))
abbrev N_h_put : List Str := ["self", "key", "value", "lease"]
def t_h_drop (K : PySem.W.Frag) (E : XK) : TS := (tSeq (tDrop (tCall (sp_need_key K) [] E (tCons (tVar 1) tNil)))
  (tRet (tMeth (clsHouse K) "write" (sp_h_write K) [] E0 (tVar 0) (tCons (tLst (tCons (tTup (tCons (tC (.str "drop")) (tCons (tVar 1) tNil))) tNil)) tNil))))
abbrev N_h_drop : List Str := ["self", "key"]
def t_h_number (K : PySem.W.Frag) : TS := (tRet (tFld K (tVar 0) "last"))
abbrev N_h_number : List Str := ["self"]
def t_h_records_at (K : PySem.W.Frag) : TS := (tSeq (tIfS (tTest (tOp rEq (tVar 1) (tFld K (tVar 0) "last"))) (tRet (tFld K (tVar 0) "records")) tNext)
  (tSeq (tAsg (tCB rDictD (tCons (tFld K (tVar 0) "old_records") tNil)) (gName 2))
  (tSeq (tFor (iList K (tFld K (tVar 0) "log")) (gName 3)
  (tIfS (tTest (tOp rLeI (tOp (rIxT K) (tVar 3) (tC (.int 0))) (tVar 1))) (tDrop (tCall (sp_change K) [] E0 (tCons (tVar 2) (tCons (tVar 3) tNil)))) tNext))
  (tRet (tVar 2)))))
abbrev N_h_records_at : List Str := ["self", "number", "made", "event"]
def t_h_records_when (K : PySem.W.Frag) (E : XK) : TS := (tSeq (tIfS (tTest (tOp rIsN (tVar 1) (tC .non))) (tRet (tFld K (tVar 0) "records")) tNext)
  (tSeq (tIfS (tOr (tNot (tB (tCall (sp_is_whole K) [] E0 (tCons (tVar 1) (tCons (tC (.int 0)) tNil))))) (tTest (tOp rGtI (tVar 1) (tFld K (tVar 0) "last")))) (tRz E (He.ga K "NoNumber")) tNext)
  (tSeq (tIfS (tTest (tOp rLtI (tVar 1) (tFld K (tVar 0) "base"))) (tRz E (He.ga K "Folded")) tNext)
  (tRet (tMeth (clsHouse K) "records_at" (sp_h_records_at K) [] E0 (tVar 0) (tCons (tVar 1) tNil))))))
abbrev N_h_records_when : List Str := ["self", "number"]
def t_h_look (K : PySem.W.Frag) (E : XK) : TS := (tSeq (tDrop (tCall (sp_need_key K) [] E (tCons (tVar 1) tNil)))
  (tRet (tDGet1 (tMeth (clsHouse K) "records_when" (sp_h_records_when K) [] E (tVar 0) (tCons (tVar 2) tNil)) (tVar 1))))
abbrev N_h_look : List Str := ["self", "key", "number"]
def t_h_rows (K : PySem.W.Frag) (E : XK) : TS := (tSeq (tDrop (tCall (sp_need_key K) [] E (tCons (tVar 1) tNil)))
  (tSeq (tDrop (tCall (sp_need_key K) [] E (tCons (tVar 2) tNil)))
  (tRet (tLc (iList K (tCall (sp_in_rows K) [] E0 (tCons (tMeth (clsHouse K) "records_when" (sp_h_records_when K) [] E (tVar 0) (tCons (tVar 3) tNil)) tNil))) (gName 4) (tB (tCall (sp_is_within K) [] E0 (tCons (tOp (rIxT K) (tVar 4) (tC (.int 0))) (tCons (tVar 1) (tCons (tVar 2) tNil))))) (tVar 4) [4]))))
abbrev N_h_rows : List Str := ["self", "first", "last", "number", "row"]
def t_h_need_lease (K : PySem.W.Frag) (E : XK) : TS := (tIfS (tOr (tNot (tB (tCall (sp_is_whole K) [] E0 (tCons (tVar 1) (tCons (tC (.int 1)) tNil))))) (tB (tDNotIn (tVar 1) (tFld K (tVar 0) "ends")))) (tRz E (He.ga K "NoLease")) tNext)
abbrev N_h_need_lease : List Str := ["self", "lease"]
def t_l_cell_at (K : PySem.W.Frag) : TS := (tSeq (tIfS (tTest (tOp rLtI (tVar 1) (tCB (rLenS K) (tCons (tVar 0) tNil)))) (tRet (tOp (rIxL K) (tVar 0) (tVar 1))) tNext)
  (tSeq (tIfS (tTest (tOp (rEqP K) (tVar 0) (tLst tNil))) (tRet (tC (.int 0))) tNext)
  (tRet (tOp rAddI (tOp rMulI (tOp (rIxL K) (tVar 0) (tOp rModI (tVar 1) (tCB (rLenS K) (tCons (tVar 0) tNil)))) (tC (.int 31))) (tVar 1)))))
abbrev N_l_cell_at : List Str := ["script", "k"]
def t_l_mixed (K : PySem.W.Frag) : TS := (tSeq (tAsg (tOp rModI (tOp rMulI (tOp rAddI (tOp rAddI (tCall (sp_l_cell_at K) [] E0 (tCons (tVar 0) (tCons (tVar 1) tNil))) (tOp rMulI (tC (.int 7919)) (tVar 1))) (tC (.int 1))) (tC (.int 48271))) (tC (.int 2147483647))) (gName 3))
  (tRet (tOp rModI (tOp rModI (tOp rAddI (tOp rAddI (tOp rMulI (tVar 3) (tVar 3)) (tOp rMulI (tC (.int 7)) (tVar 3))) (tVar 1)) (tC (.int 2147483629))) (tVar 2))))
abbrev N_l_mixed : List Str := ["script", "k", "many", "drawn"]
def t_l_key (K : PySem.W.Frag) : TS := (tSeq (tAsg (tC (.str "abcdefghijklmnopqrstuvwxyz0123456789/")) (gName 2))
  (tSeq (tAsg (tC (.str "")) (gName 3))
  (tSeq (tFor (iRng1 (tCons (tOp (rIxL K) (tLst (tCons (tC (.int 1)) (tCons (tC (.int 2)) (tCons (tC (.int 3)) (tCons (tC (.int 5)) (tCons (tC (.int 8)) (tCons (tC (.int 11)) (tCons (tC (.int 12)) tNil)))))))) (tCall (sp_l_mixed K) [] E0 (tCons (tVar 0) (tCons (tVar 1) (tCons (tC (.int 7)) tNil))))) tNil)) (gName 4)
  (tAsg (tOp rCatS (tVar 3) (tOp rIxS (tVar 2) (tCall (sp_l_mixed K) [] E0 (tCons (tVar 0) (tCons (tOp rAddI (tOp rAddI (tVar 1) (tC (.int 1))) (tVar 4)) (tCons (tC (.int 37)) tNil)))))) (gName 3)))
  (tRet (tVar 3)))))
abbrev N_l_key : List Str := ["script", "at", "signs", "made", "k"]
def t_l_keys (K : PySem.W.Frag) : TS := (tSeq (tAsg (tLst (tCons (tCall (sp_l_key K) [] E0 (tCons (tVar 0) (tCons (tVar 1) tNil))) tNil)) (gName 2))
  (tSeq (tFor (iRng1 (tCons (tC (.int 4)) tNil)) (gName 3)
  (tSeq (tAsg (tOp rAddI (tVar 1) (tOp rMulI (tC (.int 20)) (tOp rAddI (tVar 3) (tC (.int 1))))) (gName 4))
  (tSeq (tAsg (tOp (rIxL K) (tVar 2) (tUn rNegI (tC (.int 1)))) (gName 5))
  (tSeq (tAsg (tCall (sp_l_mixed K) [] E0 (tCons (tVar 0) (tCons (tOp rAddI (tVar 4) (tC (.int 15))) (tCons (tC (.int 4)) tNil)))) (gName 6))
  (tSeq (tAsg (tCall (sp_l_mixed K) [] E0 (tCons (tVar 0) (tCons (tOp rAddI (tVar 4) (tC (.int 16))) (tCons (tCB rLenS1 (tCons (tVar 5) tNil)) tNil)))) (gName 7))
  (tIfS (tTest (tOp rEq (tVar 6) (tC (.int 0)))) (tDrop (tBM K "list" rAppend (tVar 2) (tCons (tCall (sp_l_key K) [] E0 (tCons (tVar 0) (tCons (tVar 4) tNil))) tNil))) (tIfS (tAnd (tTest (tOp rEq (tVar 6) (tC (.int 1)))) (tTest (tOp rLtI (tCB rLenS1 (tCons (tVar 5) tNil)) (tC (.int 12))))) (tDrop (tBM K "list" rAppend (tVar 2) (tCons (tOp rCatS (tVar 5) (tOp rIxS (tCall (sp_l_key K) [] E0 (tCons (tVar 0) (tCons (tVar 4) tNil))) (tC (.int 0)))) tNil))) (tDrop (tBM K "list" rAppend (tVar 2) (tCons (tOp rCatS (tOp rCatS (tSl rSlS (tVar 5) tNoPart (tPart (tVar 7))) (tOp rIxS (tCall (sp_l_key K) [] E0 (tCons (tVar 0) (tCons (tVar 4) tNil))) (tC (.int 0)))) (tSl rSlS (tVar 5) (tPart (tOp rAddI (tVar 7) (tC (.int 1)))) tNoPart)) tNil))))))))))
  (tRet (tVar 2))))
abbrev N_l_keys : List Str := ["script", "at", "made", "k", "here", "last", "way", "place"]
def t_l_span (K : PySem.W.Frag) : TS := (tSeq (tAsg (tLst (tCons (tOp (rIxL K) (tVar 2) (tCall (sp_l_mixed K) [] E0 (tCons (tVar 0) (tCons (tVar 1) (tCons (tCB (rLenS K) (tCons (tVar 2) tNil)) tNil))))) (tCons (tOp (rIxL K) (tVar 2) (tCall (sp_l_mixed K) [] E0 (tCons (tVar 0) (tCons (tOp rAddI (tVar 1) (tC (.int 1))) (tCons (tCB (rLenS K) (tCons (tVar 2) tNil)) tNil))))) tNil))) (gName 3))
  (tSeq (tIfS (tTest (tOp rEq (tCall (sp_l_mixed K) [] E0 (tCons (tVar 0) (tCons (tOp rAddI (tVar 1) (tC (.int 2))) (tCons (tC (.int 3)) tNil)))) (tC (.int 0)))) (tRet (tTup (tCons (tC (.str "/")) (tCons (tC (.str "zzzzzzzzzzzz")) tNil)))) tNext)
  (tSeq (tIfS (tTest (tOp rEq (tCall (sp_l_mixed K) [] E0 (tCons (tVar 0) (tCons (tOp rAddI (tVar 1) (tC (.int 3))) (tCons (tC (.int 8)) tNil)))) (tC (.int 0)))) (tRet (tTup (tCons (tCB (rMaxS K) (tCons (tVar 3) tNil)) (tCons (tCB (rMinS K) (tCons (tVar 3) tNil)) tNil)))) tNext)
  (tRet (tTup (tCons (tCB (rMinS K) (tCons (tVar 3) tNil)) (tCons (tCB (rMaxS K) (tCons (tVar 3) tNil)) tNil)))))))
abbrev N_l_span : List Str := ["script", "at", "keys", "ends"]
def t_l_rows (K : PySem.W.Frag) : TS := (tRet (tLc (iList K (tCB (rSortedS K) (tCons (tCB rListD (tCons (tVar 0) tNil)) tNil))) (gName 3) (tTest (tChain rLeS rLeS (tVar 1) (tVar 3) (tVar 2))) (tTup (tCons (tVar 3) (tCons (tDGet (tVar 0) (tVar 3)) tNil))) [3]))
abbrev N_l_rows : List Str := ["records", "first", "last", "key"]
end KW

/-! the laws' draws, keys, spans -/
namespace KW
open PySem PySem.Spec PyProof.Rows L2 Evl
theorem dpAll_ints {K : PySem.W.Frag} {H : Hp} : ∀ ns : List Int, DpAll K H (ns.map V.int) (ns.map PyData.int)
  | [] => .nil
  | n :: r => .cons (.int n) (dpAll_ints r)
theorem plain_ints : ∀ ns : List Int, PyData.plainAll (ns.map PyData.int) = true
  | [] => rfl
  | n :: r => by
    rw [List.map_cons, PyData.plainAll, plain_ints r]
    rfl
theorem depth_ints : ∀ ns : List Int, PyData.depthAll (ns.map PyData.int) = 0
  | [] => rfl
  | n :: r => by
    rw [List.map_cons, PyData.depthAll, depth_ints r]
    rfl
theorem eqv_nil (xs : List PyData) : PyData.eqv (.list xs) (.list []) = decide (xs = []) := by
  cases xs with
  | nil => simp [PyData.eqv, PyData.eqvAll]
  | cons a b => simp [PyData.eqv, PyData.eqvAll]
section
variable {K : PySem.W.Frag} {σ : L2.St} {H H' : Hp} {ta tb te tx : TE} {a : Addr} {ns : List Int} {k m : Int}
theorem ev_lenScr (ha : Ev ta σ H (.ref a)) (h : Scr K H a ns) : Ev (tCB (rLenS K) (tCons ta tNil)) σ H (.int (ns.length : Int)) := by
  have e := ev_len ha h.sq
  rw [List.length_map] at e
  exact e
theorem ev_nilScr (ha : Ev ta σ H (.ref a)) (h : Scr K H a ns) : Ev (tOp (rEqP K) ta (tLst tNil)) σ H (.bl (decide (ns = []))) := by
  refine ev_opL ha (el_lst ea_nil (by decide)) fun p H1 hp e => rv_val fun H2 e2 Q q => ?_
  refine ⟨.list (ns.map PyData.int), .list [], .lst (h.ex (e.trans e2)).sq (dpAll_ints ns), .lst (sq_of (e2 p _ hp)) .nil, plain_ints ns, rfl, ?_, ?_⟩
  · show PyData.depthAll _ + 1 ≤ 60
    rw [depth_ints]
    decide
  · rw [eqv_nil]
    have : decide (ns.map PyData.int = []) = decide (ns = []) := by simp
    rw [this]
    exact q
theorem atI_getD {i : Int} (h0 : 0 ≤ i) (h1 : i < (ns.length : Int)) : atI (ns.map V.int) i = some (.int (ns.getD i.toNat 0)) := by
  obtain ⟨n, rfl⟩ := Int.eq_ofNat_of_zero_le h0
  have hl : n < ns.length := by omega
  refine atI_nat ?_
  rw [Int.toNat_natCast, List.getElem?_map, List.getElem?_eq_getElem hl, List.getD_eq_getElem?_getD, List.getElem?_eq_getElem hl]
  rfl
theorem ev_mixed (h : EvA (tCons ta (tCons tb (tCons tx tNil))) σ H [.ref a, .int k, .int m]) (hs : Scr K H a ns) (hk : 0 ≤ k) (hm : 0 < m) {E : XK} : Ev (tCall (sp_l_mixed K) [] E (tCons ta (tCons tb (tCons tx tNil)))) σ H (.int (mixed ns k m)) :=
  ev_call h fun H1 e Q q E => ⟨a, ns, k, m, rfl, hs.ex e, hk, hm, fun H2 e2 => q H2 e2⟩
theorem ev_cell (h : EvA (tCons ta (tCons tb tNil)) σ H [.ref a, .int k]) (hs : Scr K H a ns) (hk : 0 ≤ k) {E : XK} : Ev (tCall (sp_l_cell_at K) [] E (tCons ta (tCons tb tNil))) σ H (.int (cellAt ns k)) :=
  ev_call h fun H1 e Q q E => ⟨a, ns, k, rfl, hs.ex e, hk, fun H2 e2 => q H2 e2⟩
theorem ev_key (h : EvA (tCons ta (tCons tb tNil)) σ H [.ref a, .int k]) (hs : Scr K H a ns) (hk : 0 ≤ k) {E : XK} : Ev (tCall (sp_l_key K) [] E (tCons ta (tCons tb tNil))) σ H (.str (lawKey ns k)) :=
  ev_call h fun H1 e Q q E => ⟨a, ns, k, rfl, hs.ex e, hk, fun H2 e2 => q H2 e2⟩
end
section
variable {K : PySem.W.Frag} {vs : List V} {H : Hp} {Q : VK} {E : XK}
theorem pure_l_cell_at (h : sp_l_cell_at K vs H Q E) : t_l_cell_at K { nx := fun _ H' => Q .non H', rt := Q } (start N_l_cell_at vs) H := by
  obtain ⟨a, ns, k, rfl, hs, hk, q⟩ := h
  refine alw_here (alw_seq (alw_if (et_test (ev_lt (ev_var rfl) (ev_lenScr (ev_var rfl) hs))) (fun hb => ?_) fun hb => alw_next fun H1 e1 => ?_))
  · have hb := of_decide_eq_true hb
    refine alw_ret (ev_ixL (ev_var rfl) (ev_var rfl) hs.sq (atI_getD hk hb)) fun H1 e1 => ?_
    have e : cellAt ns k = ns.getD k.toNat 0 := by
      unfold cellAt
      rw [if_pos hb]
    rw [← e]
    exact q H1 e1
  · have hb := of_decide_eq_false hb
    refine alw_seq (alw_if (et_test (ev_nilScr (ev_var rfl) hs)) (fun hn => ?_) fun hn => alw_next fun H2 e2 => ?_) H1 e1
    · have hn := of_decide_eq_true hn
      refine alw_ret ev_c fun H2 e2 => ?_
      have e : cellAt ns k = 0 := by
        unfold cellAt
        rw [if_neg hb, if_pos hn]
      have q2 := q H2 e2
      rw [e] at q2
      exact q2
    · have hn := of_decide_eq_false hn
      have hl : 0 < (ns.length : Int) := by
        have : ns.length ≠ 0 := fun z => hn (List.eq_nil_of_length_eq_zero z)
        omega
      refine alw_ret (ev_add (ev_mul (ev_ixL (ev_var rfl) (ev_mod (ev_var rfl) (ev_lenScr (ev_var rfl) hs) hl) hs.sq (atI_getD (Int.emod_nonneg _ (by omega)) (Int.emod_lt_of_pos _ hl))) ev_c (.inr ⟨by decide, by decide⟩)) (ev_var rfl)) (fun H3 e3 => ?_) H2 e2
      have e : cellAt ns k = ns.getD (k % (ns.length : Int)).toNat 0 * 31 + k := by
        unfold cellAt
        rw [if_neg hb, if_neg hn]
      rw [← e]
      exact q H3 e3
theorem pure_l_mixed (h : sp_l_mixed K vs H Q E) : t_l_mixed K { nx := fun _ H' => Q .non H', rt := Q } (start N_l_mixed vs) H := by
  obtain ⟨a, ns, k, m, rfl, hs, hk, hm, q⟩ := h
  have d1 := drawn_nn ns k
  have d2 := drawn_lt ns k
  have e : (cellAt ns k + 7919 * k + 1) * 48271 % 2147483647 = drawn ns k := rfl
  refine alw_here (alw_seq (alw_set (v := .int (drawn ns k)) ?_ fun H1 e1 => ?_))
  · exact ev_mod (ev_mul (ev_add (ev_add (ev_cell (ea_cons (ev_var rfl) (ea_cons (ev_var rfl) ea_nil)) hs hk) (ev_mul ev_c (ev_var rfl) (.inl ⟨by decide, by decide⟩))) ev_c) ev_c (.inr ⟨by decide, by decide⟩)) ev_c (by decide)
  · refine alw_ret (ev_mod (ev_mod (ev_add (ev_add (ev_mul (ev_var rfl) (ev_var rfl) (.inl ⟨by omega, by omega⟩)) (ev_mul ev_c (ev_var rfl) (.inl ⟨by decide, by decide⟩))) (ev_var rfl)) ev_c (by decide)) (ev_var rfl) hm) (fun H2 e2 => ?_) H1 e1
    have e3 : mixed ns k m = (drawn ns k * drawn ns k + 7 * drawn ns k + k) % 2147483629 % m := by unfold mixed; rfl
    rw [← e3]
    exact q H2 e2
end
end KW

/-! keys and spans of the laws -/
namespace KW
open PySem PySem.Spec PyProof.Rows L2 Evl
theorem keyPart_succ (ns : List Int) (k : Int) (i : Nat) : keyPart ns k (i + 1) = keyPart ns k i ++ (⟨#[signAt ns (k + 1 + (i : Int))]⟩ : Str) := by
  refine str_ext ?_
  rw [str_app]
  unfold keyPart
  simp [List.range_succ]
theorem keyPart_len (ns : List Int) (k : Int) (i : Nat) : (keyPart ns k i).length = i := by
  unfold keyPart Str.length
  simp
theorem sign_at (ns : List Int) (k : Int) : atI signs.cps.toList (mixed ns k 37) = some (signAt ns k) := by
  have h0 := mixed_nn ns k (m := 37) (by decide)
  have h1 := mixed_lt ns k (m := 37) (by decide)
  unfold signAt
  generalize mixed ns k 37 = z at h0 h1
  obtain ⟨n, rfl⟩ := Int.eq_ofNat_of_zero_le h0
  have hl : n < signL.length := by rw [signL_len]; omega
  refine atI_nat ?_
  rw [Int.toNat_natCast, List.getD_eq_getElem?_getD, List.getElem?_eq_getElem hl]
  exact List.getElem?_eq_getElem hl
theorem len_at (ns : List Int) (k : Int) : atI [V.int 1, V.int 2, V.int 3, V.int 5, V.int 8, V.int 11, V.int 12] (mixed ns k 7) = some (.int (keyLen ns k : Int)) := by
  have h0 := mixed_nn ns k (m := 7) (by decide)
  have h1 := mixed_lt ns k (m := 7) (by decide)
  unfold keyLen
  generalize mixed ns k 7 = z at h0 h1
  obtain rfl | rfl | rfl | rfl | rfl | rfl | rfl : z = 0 ∨ z = 1 ∨ z = 2 ∨ z = 3 ∨ z = 4 ∨ z = 5 ∨ z = 6 := by omega
  all_goals rfl
section
variable {K : PySem.W.Frag} {vs : List V} {H : Hp} {Q : VK} {E : XK}
theorem pure_l_key (h : sp_l_key K vs H Q E) : t_l_key K { nx := fun _ H' => Q .non H', rt := Q } (start N_l_key vs) H := by
  obtain ⟨a, ns, k, rfl, hs, hk, q⟩ := h
  obtain ⟨l1, l2⟩ := keyLen_le ns k
  refine alw_here (al_set ev_c (al_set ev_c (al_forR1 (n := (keyLen ns k : Int)) ?_ ⟨by omega, by omega⟩
    (fun i σ' H' => ∃ kv, σ' = [some (.ref a), some (.int k), some (.str signs), some (.str (keyPart ns k i)), kv] ∧ Ex H H') ?_ ?_ ?_)))
  · refine ea_cons (ev_ixN (el_lst (ea_cons ev_c (ea_cons ev_c (ea_cons ev_c (ea_cons ev_c (ea_cons ev_c (ea_cons ev_c (ea_cons ev_c ea_nil))))))) (by decide)) (fun H3 e3 => ?_) (len_at ns k)) ea_nil
    exact ev_mixed (ea_cons (ev_var rfl) (ea_cons (ev_var rfl) (ea_cons ev_c ea_nil))) (hs.ex e3) hk (by decide)
  · intro H3 e3
    exact ⟨none, rfl, e3⟩
  · rintro i σ' H' hi ⟨kv, rfl, e3⟩
    refine alw_here (alw_set (ev_catS (ev_var rfl) (ev_ixS (ev_var rfl) (ev_mixed (ea_cons (ev_var rfl) (ea_cons (ev_add (ev_add (ev_var rfl) ev_c) (ev_var rfl)) (ea_cons ev_c ea_nil))) (hs.ex e3) (by omega) (by decide)) (by decide +kernel) (sign_at ns _)) ?_) fun H4 e4 => ?_)
    · rw [keyPart_len]
      show i + 1 ≤ 100000
      omega
    · refine ⟨some (.int (i : Int)), ?_, e3.trans e4⟩
      rw [keyPart_succ]
      rfl
  · rintro σ' H' ⟨kv, rfl, e3⟩
    refine alw_here (alw_ret (ev_var rfl) fun H4 e4 => ?_)
    have e : keyPart ns k ((keyLen ns k : Int)).toNat = lawKey ns k := by
      rw [Int.toNat_natCast]
      rfl
    rw [e]
    exact q H4 (e3.trans e4)
theorem atI_last {xs : List V} {v : V} {n : Nat} (hl : xs.length = n + 1) (h : xs[n]? = some v) : atI xs (-1) = some v := by
  unfold atI ixN
  rw [if_neg (by decide), if_pos (by omega)]
  show xs[((-1 : Int) + (xs.length : Int)).toNat]? = some v
  have : ((-1 : Int) + (xs.length : Int)).toNat = n := by omega
  rw [this]
  exact h
theorem ev_slPre {σ : L2.St} {H : Hp} {te tx : TE} {z : Str} {i : Int} (h : Ev te σ H (.str z)) (hi : Ev tx σ H (.int i)) (hz : z.length ≤ 100000) : Ev (tSl rSlS te tNoPart (tPart tx)) σ H (.str (cutS z none (some i))) := fun H1 e Q q =>
  h H1 e _ fun H2 e2 => hi H2 (e.trans e2) _ fun H3 e3 => ⟨i, rfl, z, rfl, sz_of hz, q H3 (e2.trans e3)⟩
theorem ev_slPost {σ : L2.St} {H : Hp} {te tx : TE} {z : Str} {i : Int} (h : Ev te σ H (.str z)) (hi : Ev tx σ H (.int i)) (hz : z.length ≤ 100000) : Ev (tSl rSlS te (tPart tx) tNoPart) σ H (.str (cutS z (some i) none)) := fun H1 e Q q =>
  h H1 e _ fun H2 e2 => hi H2 (e.trans e2) _ fun H3 e3 => ⟨i, rfl, z, rfl, sz_of hz, q H3 (e2.trans e3)⟩
theorem key_first (ns : List Int) (k : Int) : atI (lawKey ns k).cps.toList 0 = some (signAt ns (k + 1)) := by
  have h := (keyLen_le ns k).1
  refine atI_nat (j := 0) ?_
  unfold lawKey keyPart
  simp only [List.toList_toArray]
  rw [List.getElem?_map, List.getElem?_range (by omega)]
  simp
theorem pure_l_keys (h : sp_l_keys K vs H Q E) : t_l_keys K { nx := fun _ H' => Q .non H', rt := Q } (start N_l_keys vs) H := by
  obtain ⟨a, ns, k, rfl, hs, hk, q⟩ := h
  refine alw_here (al_setP (P := fun H' v => ∃ l, v = .ref l ∧ H l = none ∧ H' l = some (.lst ((keysUp ns k 0).map V.str))) ?_ fun v H1 e1 hv => ?_)
  · intro H1 e1 Q1 q1
    refine el_lst (ea_cons (ev_key (ea_cons (ev_var rfl) (ea_cons (ev_var rfl) ea_nil)) hs hk) ea_nil) (show 1 ≤ 100000 by decide) H1 e1 Q1 fun p H2 hp e2 h2 => q1 _ H2 e2 ⟨p, rfl, fresh_back e1 hp, h2⟩
  · obtain ⟨l, rfl, hl0, hl1⟩ := hv
    refine al_forR1 (n := 4) (ea_cons ev_c ea_nil) ⟨by decide, by decide⟩
      (fun i σ' H' => ∃ v1 v2 v3 v4 v5, σ' = [some (.ref a), some (.int k), some (.ref l), v1, v2, v3, v4, v5] ∧ Ex H H' ∧ H' l = some (.lst ((keysUp ns k i).map V.str))) ?_ ?_ ?_
    · intro H2 e2
      exact ⟨none, none, none, none, none, rfl, e1.trans e2, e2 l _ hl1⟩
    · rintro i σ' H2 hi ⟨v1, v2, v3, v4, v5, rfl, e2, hl⟩
      have hs2 := hs.ex e2
      have hlen := keysUp_len ns k i
      generalize hlast : (keysUp ns k i).getD i "a" = last
      have hix : (keysUp ns k i)[i]? = some last := by
        have hl2 : i < (keysUp ns k i).length := by omega
        rw [← hlast, List.getD_eq_getElem?_getD, List.getElem?_eq_getElem hl2]
        rfl
      have hkey : isKey last = true := keysUp_key ns k i last (List.mem_of_getElem? hix)
      have hp := isKey_pos hkey
      have hle := isKey_le hkey
      have hlast2 : atI ((keysUp ns k i).map V.str) (-1) = some (.str last) := atI_last (n := i) (by simp [hlen]) (by rw [List.getElem?_map, hix]; rfl)
      have hst : ∀ {H3 : Hp}, Ex H H3 → H3 l = some (.lst ((keysUp ns k i ++ [nextKey ns (k + 20 * ((i : Int) + 1)) last]).map V.str)) → H3 l = some (.lst ((keysUp ns k (i + 1)).map V.str)) := fun _ h => by
        rw [keysUp, hlast]
        exact h
      have hnx : ∀ {v1 v2 v3 v4 v5 : Option V} {H3 : Hp} {z : Str}, Ex H2 H3 → z = nextKey ns (k + 20 * ((i : Int) + 1)) last →
          ∃ v1' v2' v3' v4' v5', [some (.ref a), some (.int k), some (.ref l), v1, v2, v3, v4, v5] = [some (V.ref a), some (.int k), some (.ref l), v1', v2', v3', v4', v5'] ∧ Ex H (upd H3 l (.lst ((keysUp ns k i).map V.str ++ [V.str z]))) ∧ (upd H3 l (.lst ((keysUp ns k i).map V.str ++ [V.str z]))) l = some (.lst ((keysUp ns k (i + 1)).map V.str)) := fun {v1 v2 v3 v4 v5 H3 z} e3 hz => by
        refine ⟨v1, v2, v3, v4, v5, rfl, Ex.mut (e2.trans e3) hl0, ?_⟩
        rw [upd_same, keysUp, hlast, hz, List.map_append]
        rfl
      refine alw_here (al_set (ev_add (ev_var rfl) (ev_mul ev_c (ev_add (ev_var rfl) ev_c) (.inl ⟨by decide, by decide⟩))) (al_set (ev_ixL (ev_var rfl) (ev_neg ev_c) (sq_of hl) hlast2)
        (al_set (ev_mixed (ea_cons (ev_var rfl) (ea_cons (ev_add (ev_var rfl) ev_c) (ea_cons ev_c ea_nil))) hs2 (by omega) (by decide))
        (al_set (ev_mixed (ea_cons (ev_var rfl) (ea_cons (ev_add (ev_var rfl) ev_c) (ea_cons (ev_lenS (ev_var rfl) (by omega)) ea_nil))) hs2 (by omega) hp)
        (alw_if (et_test (ev_eqI (ev_var rfl) ev_c)) (fun hb => ?_) fun hb => alw_if (et_and (et_test (ev_eqI (ev_var rfl) ev_c)) fun _ => et_test (ev_lt (ev_lenS (ev_var rfl) (by omega)) ev_c)) (fun hc => ?_) fun hc => ?_)))))
      · have hb := of_decide_eq_true hb
        refine alw_app (fun H3 e3 => e3 l _ hl) (ev_var rfl) (ev_key (ea_cons (ev_var rfl) (ea_cons (ev_var rfl) ea_nil)) hs2 (by omega)) (by simp [hlen]; omega) fun H3 e3 => hnx e3 ?_
        unfold nextKey
        rw [if_pos hb]
      · have hb := of_decide_eq_false hb
        have hc := Bool.and_eq_true_iff.mp hc
        have hc1 := of_decide_eq_true hc.1
        have hc2 := of_decide_eq_true hc.2
        refine alw_app (fun H3 e3 => e3 l _ hl) (ev_var rfl) (ev_catS (ev_var rfl) (ev_ixS (ev_key (ea_cons (ev_var rfl) (ea_cons (ev_var rfl) ea_nil)) hs2 (by omega)) ev_c (by have := isKey_le (lawKey_key ns (k + 20 * ((i : Int) + 1))); omega) (key_first ns _)) ?_) (by simp [hlen]; omega) fun H3 e3 => hnx e3 ?_
        · show last.length + 1 ≤ 100000
          omega
        · unfold nextKey
          rw [if_neg hb, if_pos ⟨hc1, by omega⟩]
          rfl
      · have hb := of_decide_eq_false hb
        have m1 := mixed_nn ns (k + 20 * ((i : Int) + 1) + 16) hp
        have m2 := mixed_lt ns (k + 20 * ((i : Int) + 1) + 16) hp
        have hcc : ¬ (mixed ns (k + 20 * ((i : Int) + 1) + 15) 4 = 1 ∧ last.length < 12) := fun z => by
          rw [decide_eq_true z.1, decide_eq_true (show (last.length : Int) < 12 by omega)] at hc
          cases hc
        have l1 : (cutS last none (some (mixed ns (k + 20 * ((i : Int) + 1) + 16) (last.length : Int)))).length ≤ 12 := by
          rw [str_len, cut_pre m1 (by omega), List.length_take, ← str_len]
          omega
        have l2 : (cutS last (some (mixed ns (k + 20 * ((i : Int) + 1) + 16) (last.length : Int) + 1)) none).length ≤ 12 := by
          rw [str_len, cut_post (by omega) (by omega), List.length_drop, ← str_len]
          omega
        refine alw_app (fun H3 e3 => e3 l _ hl) (ev_var rfl) (ev_catS (ev_catS (ev_slPre (ev_var rfl) (ev_var rfl) (by omega)) (ev_ixS (ev_key (ea_cons (ev_var rfl) (ea_cons (ev_var rfl) ea_nil)) hs2 (by omega)) ev_c (by have := isKey_le (lawKey_key ns (k + 20 * ((i : Int) + 1))); omega) (key_first ns _)) ?_) (ev_slPost (ev_var rfl) (ev_add (ev_var rfl) ev_c) (by omega)) ?_) (by simp [hlen]; omega) fun H3 e3 => hnx e3 ?_
        · show _ + 1 ≤ 100000
          omega
        · rw [str_len (_ ++ _), str_app, List.length_append, ← str_len]
          show _ + 1 + _ ≤ 100000
          omega
        · unfold nextKey
          rw [if_neg hb, if_neg hcc]
          rfl
    · rintro σ' H2 ⟨v1, v2, v3, v4, v5, rfl, e2, hl⟩
      exact alw_here (alw_ret (ev_var rfl) fun H3 e3 => q H3 l (e2.trans e3) hl0 (e3 l _ hl))
end
end KW

/-! keys, values, numbers: what is asked of things -/
namespace KW
open PySem PySem.Spec PyProof.Rows L2 Evl
def tyO : Option HO → String
  | some (.lst _) => "list"
  | some (.tup _) => "tuple"
  | _ => "dict"
def tyName (H : Hp) : V → String
  | .non => "NoneType"
  | .bl _ => "bool"
  | .int _ => "int"
  | .str _ => "str"
  | .ref a => tyO (H a)
  | _ => "object"
theorem Thing.ty {K : PySem.W.Frag} {H : Hp} {v : V} (h : Thing K H v) : TyX K H v (.type (tyName H v)) := by
  cases h with
  | non => exact .base .non
  | bl b => exact .base (.bl b)
  | int i => exact .base (.int i)
  | str x _ => exact .base (.str x)
  | @lst a xs e =>
    show TyX K H (.ref a) (.type (tyO (H a)))
    rw [e]
    exact .base (.lst e)
  | @tup a xs e =>
    show TyX K H (.ref a) (.type (tyO (H a)))
    rw [e]
    exact .base (.tup e)
  | @dK a xs e =>
    show TyX K H (.ref a) (.type (tyO (H a)))
    rw [e]
    exact .base (.dK e)
theorem Thing.ty_ex {K : PySem.W.Frag} {H H' : Hp} {v : V} (h : Thing K H v) (e : Ex H H') : tyName H' v = tyName H v := by
  cases h with
  | non => rfl
  | bl b => rfl
  | int i => rfl
  | str x _ => rfl
  | @lst a xs q =>
    show tyO (H' a) = tyO (H a)
    rw [q, e _ _ q]
  | @tup a xs q =>
    show tyO (H' a) = tyO (H a)
    rw [q, e _ _ q]
  | @dK a xs q =>
    show tyO (H' a) = tyO (H a)
    rw [q, e _ _ q]
theorem tyO_cases (o : Option HO) : tyO o = "list" ∨ tyO o = "tuple" ∨ tyO o = "dict" := by
  unfold tyO
  split
  · exact .inl rfl
  · exact .inr (.inl rfl)
  · exact .inr (.inr rfl)
section
variable {K : PySem.W.Frag} {σ : L2.St} {H H' : Hp} {ta tb te tx : TE} {v : V}
theorem ev_isi {n : String} {b : Bool} (ha : Ev ta σ H v) (h : Thing K H v) (hk : kitB (tyName H v) n = some b) : Ev (tCB (rIsi K) (tCons ta (tCons (tC (.ty n)) tNil))) σ H (.bl b) := fun H1 e Q q =>
  ha H1 e _ fun H2 e2 => ⟨v, .ty n, .type (tyName H2 v), .type n, b, rfl, .ty n, (h.ex (e.trans e2)).ty, kit_ty (by rw [h.ty_ex (e.trans e2)]; exact hk), q H2 e2⟩
theorem ev_all {bs : List Bool} (ha : EvL ta σ H (bs.map V.bl)) : Ev (tCB (rAll K) (tCons ta tNil)) σ H (.bl (bs.all id)) := fun H1 e Q q =>
  ha H1 e _ fun p H2 hp e2 h2 => ⟨p, bs, rfl, sq_of h2, q H2 e2⟩
theorem ev_any {bs : List Bool} (ha : EvL ta σ H (bs.map V.bl)) : Ev (tCB (rAny K) (tCons ta tNil)) σ H (.bl (bs.any id)) := fun H1 e Q q =>
  ha H1 e _ fun p H2 hp e2 h2 => ⟨p, bs, rfl, sq_of h2, q H2 e2⟩
theorem ev_isWhole {low : Int} {E : XK} (ha : Ev ta σ H v) (hb : Ev tb σ H (.int low)) (h : Thing K H v) : Ev (tCall (sp_is_whole K) [] E (tCons ta (tCons tb tNil))) σ H (.bl (isWholeV v low)) :=
  ev_call (ea_cons ha (ea_cons hb ea_nil)) fun H1 e Q q E => ⟨v, low, rfl, h.ex e, q⟩
theorem ev_isKey {E : XK} (ha : Ev ta σ H v) (h : Thing K H v) : Ev (tCall (sp_is_key K) [] E (tCons ta tNil)) σ H (.bl (isKeyV v)) :=
  ev_call (ea_cons ha ea_nil) fun H1 e Q q E => ⟨v, rfl, h.ex e, q⟩
theorem ev_isValue {E : XK} (ha : Ev ta σ H v) (h : Thing K H v) : Ev (tCall (sp_is_value K) [] E (tCons ta tNil)) σ H (.bl (isValueV v)) :=
  ev_call (ea_cons ha ea_nil) fun H1 e Q q E => ⟨v, rfl, h.ex e, q⟩
end
theorem kit_not {H : Hp} {v : V} (h : v = .non ∨ (∃ b, v = .bl b) ∨ (∃ i, v = .int i) ∨ ∃ a, v = .ref a) : kitB (tyName H v) "str" = some false := by
  rcases h with rfl | ⟨b, rfl⟩ | ⟨i, rfl⟩ | ⟨a, rfl⟩
  · show kitB "NoneType" "str" = some false
    decide +kernel
  · show kitB "bool" "str" = some false
    decide +kernel
  · show kitB "int" "str" = some false
    decide +kernel
  · show kitB (tyO (H a)) "str" = some false
    rcases tyO_cases (H a) with e | e | e
    · rw [e]; decide +kernel
    · rw [e]; decide +kernel
    · rw [e]; decide +kernel
theorem kit_nint {H : Hp} {v : V} (h : v = .non ∨ (∃ x, v = .str x) ∨ ∃ a, v = .ref a) : kitB (tyName H v) "int" = some false := by
  rcases h with rfl | ⟨i, rfl⟩ | ⟨a, rfl⟩
  · show kitB "NoneType" "int" = some false
    decide +kernel
  · show kitB "str" "int" = some false
    decide +kernel
  · show kitB (tyO (H a)) "int" = some false
    rcases tyO_cases (H a) with e | e | e
    · rw [e]; decide +kernel
    · rw [e]; decide +kernel
    · rw [e]; decide +kernel
section
variable {K : PySem.W.Frag} {vs : List V} {H : Hp} {Q : VK} {E : XK}
theorem pure_is_key (h : sp_is_key K vs H Q E) : t_is_key K { nx := fun _ H' => Q .non H', rt := Q } (start N_is_key vs) H := by
  obtain ⟨v, rfl, ht, q⟩ := h
  have no : (v = .non ∨ (∃ b, v = .bl b) ∨ (∃ i, v = .int i) ∨ ∃ a, v = .ref a) → isKeyV v = false → t_is_key K { nx := fun _ H' => Q .non H', rt := Q } (start N_is_key [v]) H := fun hn hf => by
    refine alw_here (alw_ret (ev_andV (b := false) (ev_isi (ev_var rfl) ht (kit_not hn)) (fun z => by cases z)) fun H1 e1 => ?_)
    have q2 := q H1 e1
    rw [hf] at q2
    exact q2
  cases ht with
  | non => exact no (.inl rfl) rfl
  | bl b => exact no (.inr (.inl ⟨b, rfl⟩)) rfl
  | int i => exact no (.inr (.inr (.inl ⟨i, rfl⟩))) rfl
  | lst e => exact no (.inr (.inr (.inr ⟨_, rfl⟩))) rfl
  | tup e => exact no (.inr (.inr (.inr ⟨_, rfl⟩))) rfl
  | dK e => exact no (.inr (.inr (.inr ⟨_, rfl⟩))) rfl
  | str x hl =>
    by_cases hx : x.length ≤ 12
    · have hcomp : EvL (tLc (iStr (tVar 0)) (gName 1) tYes (tOp rInS (tVar 1) (tC (.str "abcdefghijklmnopqrstuvwxyz0123456789/"))) [1]) (start N_is_key [V.str x]) H ((x.cps.toList.map fun c => decide (c ∈ signL)).map V.bl) := by
        have h1 := lc_typed (α := V) (J := Itr 0 0) (P := fun _ v y => v = y) (tt := tYes) (te := tOp rInS (tVar 1) (tC (.str "abcdefghijklmnopqrstuvwxyz0123456789/"))) (j := 1) (vs := [1]) (σ := start N_is_key [V.str x]) (B := H) (wi := iStr (tVar 0))
          (ei_str (x := x) (ev_var rfl)) (paired_map signV x.cps.toList) (fun c => some (V.bl (decide (c ∈ signL)))) (fun _ _ _ _ _ z => z) (fun _ => rfl) (fun x d r H1 e Q q => q H1 (Ex.refl H1))
          (fun u c y r hy => by
            cases hy
            subst r
            exact Ev.p (ev_inS (c := c) (w := signs) (ev_var rfl) ev_c) fun _ _ => rfl) (by rw [List.length_map, ← str_len]; omega)
        have e : List.filterMap (fun c => some (V.bl (decide (c ∈ signL)))) x.cps.toList = (x.cps.toList.map fun c => decide (c ∈ signL)).map V.bl := by
          rw [List.map_map, ← List.filterMap_eq_map]
          rfl
        rw [e] at h1
        exact h1.toL
      refine alw_here (alw_ret (ev_andV (ev_isi (ev_var rfl) (.str x hl) (show kitB "str" "str" = some true by decide +kernel)) fun _ => ev_andV (ev_chain ev_c (ev_lenS (ev_var rfl) hl) rv_I0 (fun _ => ev_c) fun _ => rv_I0) fun _ => ev_all hcomp) fun H1 e1 => ?_)
      have e : isKeyV (.str x) = (true && ((decide (1 ≤ (x.length : Int)) && decide ((x.length : Int) ≤ 12)) && (x.cps.toList.map fun c => decide (c ∈ signL)).all id)) := by
        show isKey x = _
        unfold isKey
        rw [List.all_map, Bool.true_and, Bool.and_assoc]
        congr 1
        · exact decide_eq_decide.mpr (by omega)
        · congr 1
          exact decide_eq_decide.mpr (by omega)
      rw [← e]
      exact q H1 e1
    · refine alw_here (alw_ret (ev_andV (ev_isi (ev_var rfl) (.str x hl) (show kitB "str" "str" = some true by decide +kernel)) fun _ => ev_andV (b := false) (ev_chain ev_c (ev_lenS (ev_var rfl) hl) rv_I0 (fun _ => ev_c) fun _ => rv_I0) fun z => ?_) fun H1 e1 => ?_)
      · have z2 := of_decide_eq_true (Bool.and_eq_true_iff.mp z).2
        omega
      · have e : isKeyV (.str x) = false := by
          show isKey x = false
          unfold isKey
          rw [decide_eq_false hx]
          simp
        have q2 := q H1 e1
        rw [e] at q2
        simpa using q2
theorem pure_is_whole (h : sp_is_whole K vs H Q E) : t_is_whole K { nx := fun _ H' => Q .non H', rt := Q } (start N_is_whole vs) H := by
  obtain ⟨v, low, rfl, ht, q⟩ := h
  have no : (v = .non ∨ (∃ x, v = .str x) ∨ ∃ a, v = .ref a) → isWholeV v low = false → t_is_whole K { nx := fun _ H' => Q .non H', rt := Q } (start N_is_whole [v, .int low]) H := fun hn hf => by
    refine alw_here (alw_ret (ev_andV (b := false) (ev_isi (ev_var rfl) ht (kit_nint hn)) (fun z => by cases z)) fun H1 e1 => ?_)
    have q2 := q H1 e1
    rw [hf] at q2
    exact q2
  cases ht with
  | non => exact no (.inl rfl) rfl
  | str x _ => exact no (.inr (.inl ⟨x, rfl⟩)) rfl
  | lst e => exact no (.inr (.inr ⟨_, rfl⟩)) rfl
  | tup e => exact no (.inr (.inr ⟨_, rfl⟩)) rfl
  | dK e => exact no (.inr (.inr ⟨_, rfl⟩)) rfl
  | bl b =>
    refine alw_here (alw_ret (ev_andV (ev_isi (ev_var rfl) (.bl b) (show kitB "bool" "int" = some true by decide +kernel)) fun _ => ev_andV (b := false) (ev_notV (ev_isi (ev_var rfl) (.bl b) (show kitB "bool" "bool" = some true by decide +kernel))) fun z => by cases z) fun H1 e1 => ?_)
    exact q H1 e1
  | int i =>
    refine alw_here (alw_ret (ev_andV (ev_isi (ev_var rfl) (.int i) (show kitB "int" "int" = some true by decide +kernel)) fun _ => ev_andV (ev_notV (ev_isi (ev_var rfl) (.int i) (show kitB "int" "bool" = some false by decide +kernel))) fun _ => ev_le (ev_var rfl) (ev_var rfl)) fun H1 e1 => ?_)
    exact q H1 e1
theorem pure_is_value (h : sp_is_value K vs H Q E) : t_is_value K { nx := fun _ H' => Q .non H', rt := Q } (start N_is_value vs) H := by
  obtain ⟨v, rfl, ht, q⟩ := h
  by_cases hv : ∃ i, v = .int i
  · obtain ⟨i, rfl⟩ := hv
    refine alw_here (alw_ret (ev_andV (ev_isWhole (ev_var rfl) ev_c ht) fun _ => ev_le (ev_var rfl) ev_c) fun H1 e1 => ?_)
    exact q H1 e1
  · have hf : isWholeV v 0 = false := by
      cases v with
      | int i => exact absurd ⟨i, rfl⟩ hv
      | _ => rfl
    have hg : isValueV v = false := by
      cases v with
      | int i => exact absurd ⟨i, rfl⟩ hv
      | _ => rfl
    have h1 := ev_isWhole (K := K) (σ := start N_is_value [v]) (E := E0) (ev_var (i := 0) rfl) (ev_c (v := .int 0)) ht
    rw [hf] at h1
    refine alw_here (alw_ret (ev_andV (b := false) h1 fun z => by cases z) fun H1 e1 => ?_)
    have q2 := q H1 e1
    rw [hg] at q2
    exact q2
theorem pure_need_key (h : sp_need_key K vs H Q E) : t_need_key K E { nx := fun _ H' => Q .non H', rt := Q } (start N_need_key vs) H := by
  obtain ⟨v, rfl, ht, q⟩ := h
  refine alw_here (alw_if (et_not (et_B (ev_isKey (ev_var rfl) ht))) (fun hb H1 e1 => ?_) fun hb H1 e1 => ?_)
  · exact (q H1 e1).2 (by simpa using hb)
  · exact (q H1 e1).1 (by simpa using hb)
theorem pure_need_value (h : sp_need_value K vs H Q E) : t_need_value K E { nx := fun _ H' => Q .non H', rt := Q } (start N_need_value vs) H := by
  obtain ⟨v, rfl, ht, q⟩ := h
  refine alw_here (alw_if (et_not (et_B (ev_isValue (ev_var rfl) ht))) (fun hb H1 e1 => ?_) fun hb H1 e1 => ?_)
  · exact (q H1 e1).2 (by simpa using hb)
  · exact (q H1 e1).1 (by simpa using hb)
theorem pure_need_whole (h : sp_need_whole K vs H Q E) : t_need_whole K E { nx := fun _ H' => Q .non H', rt := Q } (start N_need_whole vs) H := by
  obtain ⟨v, low, rfl, ht, q⟩ := h
  refine alw_here (alw_if (et_not (et_B (ev_isWhole (ev_var rfl) (ev_var rfl) ht))) (fun hb H1 e1 => ?_) fun hb H1 e1 => ?_)
  · exact (q H1 e1).2 (by simpa using hb)
  · exact (q H1 e1).1 (by simpa using hb)
theorem pure_is_within (h : sp_is_within K vs H Q E) : t_is_within K { nx := fun _ H' => Q .non H', rt := Q } (start N_is_within vs) H := by
  obtain ⟨k, a, b, rfl, q⟩ := h
  refine ⟨_, rfl, _, rfl, a, k, rfl, rfl, _, rfl, ?_⟩
  cases h1 : (!decide (k.cps.toList < a.cps.toList)) with
  | true =>
    rw [if_pos rfl]
    refine ⟨_, rfl, k, b, rfl, rfl, ?_⟩
    have e : within k a b = !decide (b.cps.toList < k.cps.toList) := by
      unfold within sLe
      rw [h1]
      rfl
    have q2 := q
    rw [e] at q2
    exact q2
  | false =>
    rw [if_neg Bool.false_ne_true]
    have e : within k a b = false := by
      unfold within sLe
      rw [h1]
      rfl
    have q2 := q
    rw [e] at q2
    exact q2
theorem pure_l_span (h : sp_l_span K vs H Q E) : t_l_span K { nx := fun _ H' => Q .non H', rt := Q } (start N_l_span vs) H := by
  obtain ⟨a, ns, k, l, keys, rfl, hs, hk, hl, h0, hkeys, q⟩ := h
  have hp : 0 < (keys.length : Int) := by omega
  have hlen : Ev (tCB (rLenS K) (tCons (tVar 2) tNil)) (start N_l_span [.ref a, .int k, .ref l]) H (.int (keys.length : Int)) := by
    have e := ev_len (K := K) (σ := start N_l_span [.ref a, .int k, .ref l]) (ev_var (i := 2) rfl) (sq_of hl)
    rw [List.length_map] at e
    exact e
  refine alw_here (al_setP (P := fun H' v => ∃ p, v = .ref p ∧ H' p = some (.lst [.str (pick keys (mixed ns k (keys.length : Int))), .str (pick keys (mixed ns (k + 1) (keys.length : Int)))])) ?_ fun v H1 e1 hv => ?_)
  · intro H1 e1 Q1 q1
    refine el_lst (ea_cons (ev_ixL (ev_var rfl) (ev_mixed (ea_cons (ev_var rfl) (ea_cons (ev_var rfl) (ea_cons hlen ea_nil))) hs hk hp) (sq_of hl) (atI_pick (mixed_nn ns k hp) (mixed_lt ns k hp))) (ea_cons (ev_ixL (ev_var rfl) (ev_mixed (ea_cons (ev_var rfl) (ea_cons (ev_add (ev_var rfl) ev_c) (ea_cons hlen ea_nil))) hs (by omega) hp) (sq_of hl) (atI_pick (mixed_nn ns (k + 1) hp) (mixed_lt ns (k + 1) hp))) ea_nil)) (show 2 ≤ 100000 by decide) H1 e1 Q1 fun p H2 hp2 e2 h2 => q1 _ H2 e2 ⟨p, rfl, h2⟩
  · obtain ⟨p, rfl, hp1⟩ := hv
    have hs1 := hs.ex e1
    have emax : ∀ {σ : L2.St} {i : Nat}, σ[i]? = some (some (.ref p)) → Ev (tCB (rMaxS K) (tCons (tVar i) tNil)) σ H1 (.str (maxS (pick keys (mixed ns k (keys.length : Int))) (pick keys (mixed ns (k + 1) (keys.length : Int))))) := fun hi H2 e2 Q2 q2 => ⟨_, hi, p, _, _, rfl, sq_of (e2 p _ hp1), q2 H2 (Ex.refl H2)⟩
    have emin : ∀ {σ : L2.St} {i : Nat}, σ[i]? = some (some (.ref p)) → Ev (tCB (rMinS K) (tCons (tVar i) tNil)) σ H1 (.str (minS (pick keys (mixed ns k (keys.length : Int))) (pick keys (mixed ns (k + 1) (keys.length : Int))))) := fun hi H2 e2 Q2 q2 => ⟨_, hi, p, _, _, rfl, sq_of (e2 p _ hp1), q2 H2 (Ex.refl H2)⟩
    have fin : ∀ {te : TE} {σ : L2.St} {x y : Str}, EvU te σ H1 [.str x, .str y] → lawSpan ns k keys = (x, y) → Alw (tRet te) { nx := fun _ H' => Q .non H', rt := Q } σ H1 := fun {te σ x y} hu he H2 e2 => hu H2 e2 _ fun t H3 ht e3 h3 => q H3 t ((e1.trans e2).trans e3) (by rw [he]; exact h3)
    refine al_if (et_test (ev_eqI (ev_mixed (ea_cons (ev_var rfl) (ea_cons (ev_add (ev_var rfl) ev_c) (ea_cons ev_c ea_nil))) hs1 (by omega) (by decide)) ev_c)) (fun hb => ?_) (fun hb => al_skip (al_if (et_test (ev_eqI (ev_mixed (ea_cons (ev_var rfl) (ea_cons (ev_add (ev_var rfl) ev_c) (ea_cons ev_c ea_nil))) hs1 (by omega) (by decide)) ev_c)) (fun hc => ?_) fun hc => al_skip ?_))
    · have hb := of_decide_eq_true hb
      refine fin (eu_tup (ea_cons ev_c (ea_cons ev_c ea_nil)) (show 2 ≤ 100000 by decide)) ?_
      unfold lawSpan
      rw [if_pos hb]
    · have hb := of_decide_eq_false hb
      have hc := of_decide_eq_true hc
      refine fin (eu_tup (ea_cons (emax rfl) (ea_cons (emin rfl) ea_nil)) (show 2 ≤ 100000 by decide)) ?_
      unfold lawSpan
      rw [if_neg hb, if_pos hc]
    · have hb := of_decide_eq_false hb
      have hc := of_decide_eq_false hc
      refine fin (eu_tup (ea_cons (emin rfl) (ea_cons (emax rfl) ea_nil)) (show 2 ≤ 100000 by decide)) ?_
      unfold lawSpan
      rw [if_neg hb, if_neg hc]
end
end KW

/-! texts in order -/
namespace KW
open PySem PySem.Spec PyProof.Rows L2 Evl
theorem sLe_iff {a b : Str} : sLe a b = true ↔ a.cps.toList ≤ b.cps.toList := by
  unfold sLe
  simp only [Bool.not_eq_true', decide_eq_false_iff_not]
  exact List.not_lt
theorem sLe_trans (a b c : Str) (h : sLe a b = true) (h' : sLe b c = true) : sLe a c = true := by
  rw [sLe_iff] at *
  exact List.le_trans h h'
theorem sLe_total (a b : Str) : (sLe a b || sLe b a) = true := by
  rw [Bool.or_eq_true, sLe_iff, sLe_iff]
  exact List.le_total _ _
theorem sLe_anti {a b : Str} (h : sLe a b = true) (h' : sLe b a = true) : a = b := by
  rw [sLe_iff] at *
  exact str_ext (List.le_antisymm h h')
theorem sLe_refl (a : Str) : sLe a a = true := by
  have := sLe_total a a
  rw [Bool.or_self] at this
  exact this
theorem risingS_pair : ∀ (p : Str) (l : List Str), risingS p l = true → (p :: l).Pairwise fun a b => sLe a b = true
  | p, [], _ => List.pairwise_singleton _ _
  | p, x :: r, h => by
    have h2 : (!ltCps x.cps.toList p.cps.toList && risingS x r) = true := h
    obtain ⟨h3, h4⟩ := Bool.and_eq_true_iff.mp h2
    have ih := risingS_pair x r h4
    have hpx : sLe p x = true := by
      unfold sLe
      rw [ltCps_eq] at h3
      exact h3
    refine List.pairwise_cons.mpr ⟨fun b hb => ?_, ih⟩
    rcases List.mem_cons.mp hb with e | hb
    · rw [e]
      exact hpx
    · exact sLe_trans _ _ _ hpx ((List.pairwise_cons.mp ih).1 b hb)
theorem sortedS_pair : ∀ (l : List Str), sortedS l = true → l.Pairwise fun a b => sLe a b = true
  | [], _ => List.Pairwise.nil
  | x :: r, h => risingS_pair x r h
theorem sortS_perm (xs : List Str) : (sortS xs).Perm xs := List.mergeSort_perm _ _
theorem sortS_pair (xs : List Str) : (sortS xs).Pairwise fun a b => sLe a b = true := List.pairwise_mergeSort sLe_trans sLe_total xs
theorem sorted_eq {xs ys : List Str} (h : ys.Perm xs) (hs : ys.Pairwise fun a b => sLe a b = true) : ys = sortS xs :=
  List.Perm.eq_of_pairwise (fun a b _ _ h1 h2 => sLe_anti h1 h2) hs (sortS_pair xs) (h.trans (sortS_perm xs).symm)
theorem sortS_len (xs : List Str) : (sortS xs).length = xs.length := (sortS_perm xs).length_eq
theorem mem_sortS {xs : List Str} {x : Str} : x ∈ sortS xs ↔ x ∈ xs := (sortS_perm xs).mem_iff
theorem sortS_congr {xs ys : List Str} (h : xs.Perm ys) : sortS xs = sortS ys := sorted_eq ((sortS_perm xs).trans h) (sortS_pair xs)
theorem sortS_of_sorted {xs : List Str} (h : xs.Pairwise fun a b => sLe a b = true) : sortS xs = xs := (sorted_eq (List.Perm.refl xs) h).symm
theorem inRows_len (rs : Recs) : (inRows rs).length = rs.length := by
  unfold inRows keysA
  rw [List.length_map, sortS_len, List.length_map]
/-- two sets of records with the same keys and the same records have the same rows -/
theorem inRows_congr {rs qs : Recs} (h : (keysA rs).Perm (keysA qs)) (he : ∀ k ∈ keysA rs, lookR rs k = lookR qs k) : inRows rs = inRows qs := by
  unfold inRows
  rw [sortS_congr h]
  refine List.map_congr_left fun k hk => ?_
  have hk2 : k ∈ keysA rs := h.mem_iff.mpr (mem_sortS.mp hk)
  unfold getR
  rw [he k hk2]
end KW

/-! records: changes, rows -/
namespace KW
open PySem PySem.Spec PyProof.Rows L2 Evl
theorem RecsAt.ex {H H' : Hp} {d : Addr} {rs : Recs} (e : Ex H H') (h : RecsAt H d rs) : RecsAt H' d rs := h.move (fun v x q => RecV.kt (Ex.kt e) q) fun o q => e _ _ q
theorem dget_recs {H : Hp} {d : Addr} {rs : Recs} (h : RecsAt H d rs) (k : Str) : (∃ v r, DGet H d (.str k) (some v) ∧ lookR rs k = some r ∧ RecV H v r) ∨ (DGet H d (.str k) none ∧ lookR rs k = none) := by
  obtain ⟨es, h1, h2⟩ := h
  rcases val_of inr_inj h2 k with ⟨v, r, e1, e2, e3⟩ | ⟨e1, e2⟩
  · refine .inl ⟨v, r, ?_, e2, e3⟩
    rw [← e1]
    exact DGet.k (k := Sum.inr k) h1
  · refine .inr ⟨?_, e2⟩
    rw [← e1]
    exact DGet.k (k := Sum.inr k) h1
section
variable {K : PySem.W.Frag} {σ : L2.St} {H H' : Hp} {ta tb te tx td ty : TE} {d : Addr} {rs : Recs} {k : Str}
theorem ev_inD (ha : Ev ty σ H (.str k)) (hd : Ev td σ H (.ref d)) (h : RecsAt H d rs) : Ev (tDIn ty td) σ H (.bl (hasR rs k)) := fun H1 e Q q =>
  ha H1 e _ fun H2 e2 => hd H2 (e.trans e2) _ fun H3 e3 => by
    unfold hasR at q
    rcases dget_recs (h.ex ((e.trans e2).trans e3)) k with ⟨v, r, g, l, _⟩ | ⟨g, l⟩
    · rw [l] at q
      exact ⟨d, some v, rfl, g, q H3 (e2.trans e3)⟩
    · rw [l] at q
      exact ⟨d, none, rfl, g, q H3 (e2.trans e3)⟩
theorem evp_getD {r : Rec} (hd : Ev td σ H (.ref d)) (ha : Ev ty σ H (.str k)) (h : RecsAt H d rs) (hl : lookR rs k = some r) : EvP (tDGet td ty) σ H (fun H v => RecV H v r) := fun H1 e Q q =>
  hd H1 e _ fun H2 e2 => ha H2 (e.trans e2) _ fun H3 e3 => by
    rcases dget_recs (h.ex ((e.trans e2).trans e3)) k with ⟨v, r', g, l, hr⟩ | ⟨g, l⟩
    · rw [hl] at l
      cases l
      exact ⟨d, v, rfl, g, q v H3 (e2.trans e3) hr⟩
    · rw [hl] at l
      cases l
/-- an item of a tuple that is known so -/
theorem ev_ixP {xs : List V} {i : Int} {v : V} (ha : EvP ta σ H (fun H v => TAt H v xs)) (hb : ∀ H1, Ex H H1 → Ev tb σ H1 (.int i)) (hv : atI xs i = some v) : Ev (tOp (rIxT K) ta tb) σ H v := fun H1 e Q q =>
  ha H1 e _ fun u H2 e2 hu => hb H2 (e.trans e2) H2 (Ex.refl H2) _ fun H3 e3 => by
    obtain ⟨a, rfl, h⟩ := hu
    exact ⟨a, xs, i, v, rfl, rfl, st_of (e3 a _ h), hv, q H3 (e2.trans e3)⟩
theorem ev_ixA {xs : List V} {i : Int} {u v : V} (ha : Ev ta σ H u) (ht : TAt H u xs) (hb : Ev tb σ H (.int i)) (hv : atI xs i = some v) : Ev (tOp (rIxT K) ta tb) σ H v :=
  ev_ixP (Ev.p ha fun H1 e => ht.kt (Ex.kt e)) (fun H1 e => hb.mono e) hv
end
section
variable {K : PySem.W.Frag} {vs : List V} {H : Hp} {Q : VK} {E : XK}
theorem recs_put {H H' : Hp} {d : Addr} {rs : Recs} {k : Str} {r : Rec} {v : V} {es : List (Key × V)} (h1 : H d = some (.dK es)) (h2 : Paired (fun (e : Key × V) (p : Str × Rec) => e.1 = Sum.inr p.1 ∧ RecV H e.2 p.2) es rs) (hv : RecV H v r) :
    RecsAt (upd H d (.dK (putK es (Sum.inr k) v))) d (putR rs k r) := by
  have kt : Kt H (upd H d (.dK (putK es (Sum.inr k) v))) := (Kt.refl H).upd (ne_tup_of h1 fun xs z => by cases z)
  exact ⟨_, upd_same, put_of (f := fun k : Str => (Sum.inr k : Key)) (R := RecV _) inr_inj (pr_mono h2 fun a b z => ⟨z.1, RecV.kt kt z.2⟩) k (RecV.kt kt hv)⟩
theorem recs_drop {H H' : Hp} {d : Addr} {rs : Recs} {k : Str} {es : List (Key × V)} (h1 : H d = some (.dK es)) (h2 : Paired (fun (e : Key × V) (p : Str × Rec) => e.1 = Sum.inr p.1 ∧ RecV H e.2 p.2) es rs) :
    RecsAt (upd H d (.dK (dropK es (Sum.inr k)))) d (dropR rs k) := by
  have kt : Kt H (upd H d (.dK (dropK es (Sum.inr k)))) := (Kt.refl H).upd (ne_tup_of h1 fun xs z => by cases z)
  exact ⟨_, upd_same, drop_of (f := fun k : Str => (Sum.inr k : Key)) (R := RecV _) inr_inj (pr_mono h2 fun a b z => ⟨z.1, RecV.kt kt z.2⟩) k⟩
theorem keep1_upd {H H1 : Hp} {d : Addr} {o : HO} (e : Ex H H1) : Keep1 d H (upd H1 d o) := fun b o n h => by rw [upd_ne n]; exact e b _ h
theorem ev_num (e : Evt) : (evVs e)[0]? = some (.int e.num) := by
  obtain ⟨n, d⟩ := e
  cases d <;> rfl
theorem al_tup5 {σ : L2.St} {B : Hp} {te : TE} {tw : TS} {D : Ends} {v x1 x2 x3 x4 x5 : V} {i1 i2 i3 i4 i5 : Nat} (h : Ev te σ B v) (ht : TAt B v [x1, x2, x3, x4, x5])
    (k : Alw tw D (((((σ.set i1 (some x1)).set i2 (some x2)).set i3 (some x3)).set i4 (some x4)).set i5 (some x5)) B) :
    Alw (tSeq (tAsg te (gTup K 5 (gCons (gName i1) (gCons (gName i2) (gCons (gName i3) (gCons (gName i4) (gCons (gName i5) gNil))))))) tw) D σ B := fun H e => h H e _ fun H1 e1 => by
  obtain ⟨a, rfl, ha⟩ := ht
  exact ⟨a, _, rfl, st_of ((e.trans e1) a _ ha), rfl, _, _, rfl, _, _, rfl, _, _, rfl, _, _, rfl, _, _, rfl, rfl, k H1 (e.trans e1)⟩
theorem al_tup3 {σ : L2.St} {B : Hp} {te : TE} {tw : TS} {D : Ends} {v x1 x2 x3 : V} {i1 i2 i3 : Nat} (h : Ev te σ B v) (ht : TAt B v [x1, x2, x3])
    (k : Alw tw D (((σ.set i1 (some x1)).set i2 (some x2)).set i3 (some x3)) B) :
    Alw (tSeq (tAsg te (gTup K 3 (gCons (gName i1) (gCons (gName i2) (gCons (gName i3) gNil))))) tw) D σ B := fun H e => h H e _ fun H1 e1 => by
  obtain ⟨a, rfl, ha⟩ := ht
  exact ⟨a, _, rfl, st_of ((e.trans e1) a _ ha), rfl, _, _, rfl, _, _, rfl, _, _, rfl, rfl, k H1 (e.trans e1)⟩
theorem pure_change (h : sp_change K vs H Q E) : t_change K { nx := fun _ H' => Q .non H', rt := Q } (start N_change vs) H := by
  obtain ⟨d, v, rs, e, rfl, hr, hv, hok, hl, q⟩ := h
  obtain ⟨n, dd⟩ := e
  cases dd with
  | drop k =>
    have hhas : hasR rs k = true := hok k rfl
    refine alw_here (al_tup5 (ev_var rfl) hv (alw_if (et_test (ev_eqS (ev_var rfl) ev_c)) (fun hb H1 e1 => ?_) fun hb => absurd (of_decide_eq_false hb) (by decide +kernel)))
    obtain ⟨es, h1, h2⟩ := hr.ex e1
    refine ⟨_, rfl, d, rfl, .inl ⟨es, .inl h1⟩, _, rfl, ?_⟩
    rcases val_of inr_inj h2 k with ⟨v, r, z1, z2, z3⟩ | ⟨z1, z2⟩
    · refine ⟨es, Sum.inr k, v, h1, rfl, z1, ?_⟩
      exact q _ (recs_drop (H' := H) h1 h2) (keep1_upd e1) ((Ex.kt e1).upd (by
        obtain ⟨es0, g1, _⟩ := hr
        exact ne_tup_of g1 fun xs z => by cases z))
    · unfold hasR at hhas
      rw [show lookR rs k = none from z2] at hhas
      cases hhas
  | put k x l =>
    have hst : ∀ {te : TE} {r : Rec} {σ : L2.St}, σ[0]? = some (some (.ref d)) → σ[4]? = some (some (.str k)) → EvU te σ H (recVs r) → r = newRec rs n k x l → Alw (sDPut (tVar 0) (tVar 4) te) { nx := fun _ H' => Q .non H', rt := Q } σ H := fun {te r σ} s0 s4 hu he H0 e0 => by
      refine hu H0 e0 _ fun p H1 hp e1 hp1 => ?_
      obtain ⟨es, h1, h2⟩ := hr.ex (e0.trans e1)
      have hlen := pr_len h2
      refine ⟨_, s0, _, s4, d, _, rfl, .inl ⟨es, Sum.inr k, h1, rfl, Nat.lt_of_le_of_lt (Nat.le_of_eq hlen) (Nat.lt_of_le_of_lt hl (by decide)), rfl⟩, ?_⟩
      refine q _ ?_ (keep1_upd (e0.trans e1)) ((Ex.kt (e0.trans e1)).upd (by
        obtain ⟨es0, g1, _⟩ := hr
        exact ne_tup_of g1 fun xs z => by cases z))
      have := recs_put (H' := H1) (k := k) (r := r) h1 h2 ⟨p, rfl, hp1⟩
      rw [he] at this
      exact this
    refine alw_here (al_tup5 (ev_var rfl) hv (alw_if (et_test (ev_eqS (ev_var rfl) ev_c)) (fun hb => absurd (of_decide_eq_true hb) (by decide +kernel)) fun hb => alw_if (et_B (ev_inD (ev_var rfl) (ev_var rfl) hr)) (fun hc => ?_) fun hc => ?_))
    · obtain ⟨r, hlk⟩ : ∃ r, lookR rs k = some r := Option.isSome_iff_exists.mp hc
      have hg : ∀ {σ : L2.St}, σ[0]? = some (some (.ref d)) → σ[4]? = some (some (.str k)) → EvP (tDGet (tVar 0) (tVar 4)) σ H (fun H v => TAt H v (recVs r)) := fun s0 s4 => evp_getD (ev_var s0) (ev_var s4) hr hlk
      refine hst (r := ⟨x, r.made, n, r.version + 1, l⟩) rfl rfl (eu_tup (ea_cons (ev_var rfl) (ea_cons (ev_ixP (hg rfl rfl) (fun _ _ => ev_c) rfl) (ea_cons (ev_var rfl) (ea_cons (ev_add (ev_ixP (hg rfl rfl) (fun _ _ => ev_c) rfl) ev_c) (ea_cons (ev_var rfl) ea_nil))))) (show 5 ≤ 100000 by decide)) ?_
      unfold newRec
      rw [hlk]
    · have hlk : lookR rs k = none := Option.not_isSome_iff_eq_none.mp (by unfold hasR at hc; rw [hc]; exact Bool.false_ne_true)
      refine hst (r := ⟨x, n, n, 1, l⟩) rfl rfl (eu_tup (ea_cons (ev_var rfl) (ea_cons (ev_var rfl) (ea_cons (ev_var rfl) (ea_cons ev_c (ea_cons (ev_var rfl) ea_nil))))) (show 5 ≤ 100000 by decide)) ?_
      unfold newRec
      rw [hlk]
end
end KW

/-! rows -/
namespace KW
open PySem PySem.Spec PyProof.Rows L2 Evl
section
variable {K : PySem.W.Frag} {σ : L2.St} {H H' : Hp} {ta tb te tx td ty : TE} {d : Addr} {rs : Recs} {k : Str}
theorem el_keys (hd : Ev td σ H (.ref d)) (h : RecsAt H d rs) : EvL (tCB rListD (tCons td tNil)) σ H ((keysA rs).map V.str) := fun H1 e Q q =>
  hd H1 e _ fun H2 e2 => by
    obtain ⟨es, h1, h2⟩ := h.ex (e.trans e2)
    refine ⟨d, es, rfl, h1, fun p hp => ?_⟩
    have ek := keys_of h2
    rw [ek]
    exact q p _ (fresh_back e2 hp) (e2.trans (Ex.new hp)) upd_same
theorem el_sortedS {xs : List Str} (ha : EvL ta σ H (xs.map V.str)) (hl : xs.length < 64) : EvL (tCB (rSortedS K) (tCons ta tNil)) σ H ((sortS xs).map V.str) := fun H1 e Q q =>
  ha H1 e _ fun p H2 hp e2 h2 => ⟨p, xs, rfl, sq_of h2, hl, fun ys l hperm hs hn => by
    rw [sorted_eq hperm (sortedS_pair ys hs)]
    exact q l _ (fresh_back e2 hn) (e2.trans (Ex.new hn)) upd_same⟩
theorem lookR_getR {rs : Recs} {k : Str} (h : k ∈ keysA rs) : lookR rs k = some (getR rs k) := by
  have h2 := lookA_some.mpr h
  obtain ⟨r, hr⟩ := Option.isSome_iff_exists.mp h2
  unfold getR
  rw [show lookR rs k = some r from hr]
  rfl
/-- (key, records[key]) -/
theorem evp_row (hk : Ev tx σ H (.str k)) (hd : Ev td σ H (.ref d)) (ha : Ev ty σ H (.str k)) (h : RecsAt H d rs) (hm : k ∈ keysA rs) : EvP (tTup (tCons tx (tCons (tDGet td ty) tNil))) σ H (fun H v => RowV H v (k, getR rs k)) := fun H1 e Q q =>
  hk H1 e _ fun H2 e2 => evp_getD hd ha h (lookR_getR hm) H2 (e.trans e2) _ fun w H3 e3 hw => ⟨(show 2 ≤ sizeLine by decide), fun p hp =>
    q _ _ ((e2.trans e3).trans (Ex.new hp)) ⟨w, ⟨p, rfl, upd_same⟩, RecV.kt (Ex.kt (Ex.new hp)) hw⟩⟩
end
section
variable {K : PySem.W.Frag} {vs : List V} {H : Hp} {Q : VK} {E : XK}
theorem rs_len_keys (rs : Recs) : (keysA rs).length = rs.length := List.length_map ..
theorem pure_in_rows (h : sp_in_rows K vs H Q E) : t_in_rows K { nx := fun _ H' => Q .non H', rt := Q } (start N_in_rows vs) H := by
  obtain ⟨d, rs, rfl, hr, hn, hl, q⟩ := h
  have hk : (keysA rs).length < 64 := by rw [rs_len_keys]; exact hl
  have h1 := lc_typed (α := Str × Rec) (J := Itr 0 0) (P := RowV) (tt := tYes) (te := tTup (tCons (tVar 1) (tCons (tDGet (tVar 0) (tVar 1)) tNil))) (j := 1) (vs := [1]) (σ := start N_in_rows [V.ref d]) (B := H) (wi := iList K (tCB (rSortedS K) (tCons (tCB rListD (tCons (tVar 0) tNil)) tNil)))
    (ei_listN (el_sortedS (el_keys (ev_var rfl) hr) hk)) (paired_mem (paired_map V.str (sortS (keysA rs)))) (fun k => some (k, getR rs k)) (fun _ _ _ _ k z => RowV.kt k z) (fun _ => rfl) (fun x d r H1 e Q q => q H1 (Ex.refl H1))
    (fun u c y r hy => by
      cases hy
      obtain ⟨r1, r2⟩ := r
      subst r1
      exact evp_row (ev_var rfl) (ev_var rfl) (ev_var rfl) hr (mem_sortS.mp r2)) (by rw [List.length_map, sortS_len]; omega)
  have e : List.filterMap (fun k => some (k, getR rs k)) (sortS (keysA rs)) = inRows rs := by
    unfold inRows
    rw [← List.filterMap_eq_map]
    rfl
  rw [e] at h1
  exact h1 H (Ex.refl H) _ fun p H2 hp e2 hl => q H2 p e2 hp hl
theorem pure_l_rows (h : sp_l_rows K vs H Q E) : t_l_rows K { nx := fun _ H' => Q .non H', rt := Q } (start N_l_rows vs) H := by
  obtain ⟨d, rs, a, b, rfl, hr, hn, hl, q⟩ := h
  have hk : (keysA rs).length < 64 := by rw [rs_len_keys]; exact hl
  have h1 := lc_typed (α := Str × Rec) (J := Itr 0 0) (P := RowV) (tt := tTest (tChain rLeS rLeS (tVar 1) (tVar 3) (tVar 2))) (te := tTup (tCons (tVar 3) (tCons (tDGet (tVar 0) (tVar 3)) tNil))) (j := 3) (vs := [3]) (σ := start N_l_rows [V.ref d, .str a, .str b]) (B := H) (wi := iList K (tCB (rSortedS K) (tCons (tCB rListD (tCons (tVar 0) tNil)) tNil)))
    (ei_listN (el_sortedS (el_keys (ev_var rfl) hr) hk)) (paired_mem (paired_map V.str (sortS (keysA rs)))) (fun k => if within k a b = true then some (k, getR rs k) else none) (fun _ _ _ _ k z => RowV.kt k z) (fun _ => rfl)
    (fun x c r => by
      obtain ⟨r1, r2⟩ := r
      subst r1
      have hch := et_test (ev_chain (r := rLeS) (r' := rLeS) (σ := (wipe (start N_l_rows [V.ref d, .str a, .str b]) [3]).set 3 (some (V.str c))) (H := H) (ta := tVar 1) (tb := tVar 3) (tc := tVar 2) (x := .str a) (y := .str c) (w := .str b) (k := sLe a c) (kz := sLe c b) (ev_var rfl) (ev_var rfl) (rv_val fun _ _ _ q => ⟨a, c, rfl, rfl, q⟩) (fun _ => ev_var rfl) fun _ => rv_val fun _ _ _ q => ⟨c, b, rfl, rfl, q⟩)
      have e : (if within c a b = true then some (c, getR rs c) else none).isSome = (sLe a c && sLe c b) := by
        unfold within
        cases (sLe a c && sLe c b) <;> rfl
      rw [e]
      exact hch)
    (fun u c y r hy => by
      obtain ⟨r1, r2⟩ := r
      subst r1
      split at hy
      · cases hy
        exact evp_row (ev_var rfl) (ev_var rfl) (ev_var rfl) hr (mem_sortS.mp r2)
      · cases hy) (by rw [List.length_map, sortS_len]; omega)
  have e : List.filterMap (fun k => if within k a b = true then some (k, getR rs k) else none) (sortS (keysA rs)) = spanRows rs a b := by
    unfold spanRows inRows
    generalize sortS (keysA rs) = ks
    induction ks with
    | nil => rfl
    | cons x r ih =>
      rw [List.map_cons, List.filter_cons, List.filterMap_cons, ih]
      dsimp only
      split
      · rename_i hh
        rw [if_neg (by intro z; rw [if_pos z] at hh; cases hh)]
      · rename_i y hh
        by_cases z : within x a b = true
        · rw [if_pos z] at hh ⊢
          cases hh
          rfl
        · rw [if_neg z] at hh
          cases hh
  rw [e] at h1
  exact h1 H (Ex.refl H) _ fun p H2 hp e2 hl => q H2 p e2 hp hl
end
end KW

/-! a house: made, written, asked -/
namespace KW
open PySem PySem.Spec PyProof.Rows L2 Evl
def houseFields : List Str := (["records", "old_records", "log", "last", "base", "ends", "granted", "now", "spans", "cut"] : List String).map Str.ofString
structure HCls (K : PySem.W.Frag) : Prop where
  Housecl : Cls K (clsHouse K)
  na : ∀ f ∈ houseFields, NoAttr K (clsHouse K) f
section
variable {K : PySem.W.Frag} {σ : L2.St} {H H' : Hp} {ta tb te tx td ty : TE} {p : Addr} {s : HS} {z : HCell}
theorem ev_fld {dx : Addr} {fs : List (Str × V)} {f : Str} {v : V} (HC : HCls K) (ha : Ev ta σ H (.ref p)) (ho : H p = some (.ins (clsHouse K) dx fs)) (hl : fs.lookup f = some v) (hf : f ∈ houseFields) : Ev (tFld K ta f) σ H v := fun H1 e Q q =>
  ha H1 e _ fun H2 e2 => ⟨p, clsHouse K, dx, fs, v, rfl, (e.trans e2) p _ ho, HC.Housecl, HC.na f hf, hl, q H2 e2⟩
variable (HC : HCls K) (ha : Ev ta σ H (.ref p)) (h : HouseAt (clsHouse K) H p s z)
include HC ha h
theorem ev_records : Ev (tFld K ta "records") σ H (.ref z.r) := by
  obtain ⟨dx, ho⟩ := h.ob
  exact ev_fld HC ha ho (hf_records ..) (by decide +kernel)
theorem ev_old : Ev (tFld K ta "old_records") σ H (.ref z.o) := by
  obtain ⟨dx, ho⟩ := h.ob
  exact ev_fld HC ha ho (hf_old ..) (by decide +kernel)
theorem ev_log : Ev (tFld K ta "log") σ H (.ref z.l) := by
  obtain ⟨dx, ho⟩ := h.ob
  exact ev_fld HC ha ho (hf_log ..) (by decide +kernel)
theorem ev_last : Ev (tFld K ta "last") σ H (.int s.last) := by
  obtain ⟨dx, ho⟩ := h.ob
  exact ev_fld HC ha ho (hf_last ..) (by decide +kernel)
theorem ev_base : Ev (tFld K ta "base") σ H (.int s.base) := by
  obtain ⟨dx, ho⟩ := h.ob
  exact ev_fld HC ha ho (hf_base ..) (by decide +kernel)
theorem ev_ends : Ev (tFld K ta "ends") σ H (.ref z.e) := by
  obtain ⟨dx, ho⟩ := h.ob
  exact ev_fld HC ha ho (hf_ends ..) (by decide +kernel)
theorem ev_granted : Ev (tFld K ta "granted") σ H (.int s.granted) := by
  obtain ⟨dx, ho⟩ := h.ob
  exact ev_fld HC ha ho (hf_granted ..) (by decide +kernel)
theorem ev_now : Ev (tFld K ta "now") σ H (.int s.now) := by
  obtain ⟨dx, ho⟩ := h.ob
  exact ev_fld HC ha ho (hf_now ..) (by decide +kernel)
theorem ev_spans : Ev (tFld K ta "spans") σ H (.ref z.s) := by
  obtain ⟨dx, ho⟩ := h.ob
  exact ev_fld HC ha ho (hf_spans ..) (by decide +kernel)
theorem ev_cut : Ev (tFld K ta "cut") σ H (.ref z.c) := by
  obtain ⟨dx, ho⟩ := h.ob
  exact ev_fld HC ha ho (hf_cut ..) (by decide +kernel)
end
section
variable {K : PySem.W.Frag} {vs : List V} {H : Hp} {Q : VK} {E : XK}
/-! ### __init__ -/
theorem putF_len (f : Str) (v : V) (fs : List (Str × V)) : (putF f v fs).length ≤ fs.length + 1 := by
  induction fs with
  | nil => exact Nat.le_refl _
  | cons a t ih =>
    obtain ⟨g, x⟩ := a
    unfold putF
    split
    · exact Nat.le_succ _
    · exact Nat.succ_le_succ ih
theorem st_dict {σ : L2.St} {D : Ends} {tw : TS} {p dx : Addr} {fs : List (Str × V)} {f : Str} (HC : HCls K) (s0 : σ[0]? = some (some (.ref p))) (hp : H p = some (.ins (clsHouse K) dx fs)) (hf : f ∈ houseFields) {n : Nat} (hl : fs.length ≤ n) (hn : n < 1000)
    (k : ∀ d H', (putF f (.ref d) fs).length ≤ n + 1 → H d = none → H' d = some (.dK []) → H' p = some (.ins (clsHouse K) dx (putF f (.ref d) fs)) → (∀ b o, b ≠ p → H b = some o → H' b = some o) → tw D σ H') : tSeq (sFld K (tVar 0) tDNewK f) tw D σ H := by
  intro d hd
  have npd : p ≠ d := ne_of_none hp hd
  refine ⟨_, s0, p, _, dx, fs, rfl, (by rw [upd_ne npd]; exact hp), HC.Housecl, HC.na f hf, Nat.lt_of_le_of_lt hl hn, ?_⟩
  refine k d _ (Nat.le_trans (putF_len _ _ _) (Nat.succ_le_succ hl)) hd ?_ upd_same fun b o hb e => ?_
  · rw [upd_ne npd.symm, upd_same]
  · rw [upd_ne hb, upd_ne (ne_of_none e hd)]
    exact e
theorem st_list {σ : L2.St} {D : Ends} {tw : TS} {p dx : Addr} {fs : List (Str × V)} {f : Str} (HC : HCls K) (s0 : σ[0]? = some (some (.ref p))) (hp : H p = some (.ins (clsHouse K) dx fs)) (hf : f ∈ houseFields) {n : Nat} (hl : fs.length ≤ n) (hn : n < 1000)
    (k : ∀ d H', (putF f (.ref d) fs).length ≤ n + 1 → H d = none → H' d = some (.lst []) → H' p = some (.ins (clsHouse K) dx (putF f (.ref d) fs)) → (∀ b o, b ≠ p → H b = some o → H' b = some o) → tw D σ H') : tSeq (sFld K (tVar 0) (tLst tNil) f) tw D σ H := by
  refine ⟨Nat.zero_le _, fun d hd => ?_⟩
  have npd : p ≠ d := ne_of_none hp hd
  refine ⟨_, s0, p, _, dx, fs, rfl, (by rw [upd_ne npd]; exact hp), HC.Housecl, HC.na f hf, Nat.lt_of_le_of_lt hl hn, ?_⟩
  refine k d _ (Nat.le_trans (putF_len _ _ _) (Nat.succ_le_succ hl)) hd ?_ upd_same fun b o hb e => ?_
  · rw [upd_ne npd.symm, upd_same]
  · rw [upd_ne hb, upd_ne (ne_of_none e hd)]
    exact e
theorem st_val {σ : L2.St} {D : Ends} {tw : TS} {p dx : Addr} {fs : List (Str × V)} {f : Str} {v : V} (HC : HCls K) (s0 : σ[0]? = some (some (.ref p))) (hp : H p = some (.ins (clsHouse K) dx fs)) (hf : f ∈ houseFields) {n : Nat} (hl : fs.length ≤ n) (hn : n < 1000)
    (k : ∀ H', (putF f v fs).length ≤ n + 1 → H' p = some (.ins (clsHouse K) dx (putF f v fs)) → (∀ b o, b ≠ p → H b = some o → H' b = some o) → tw D σ H') : tSeq (sFld K (tVar 0) (tC v) f) tw D σ H := by
  refine ⟨_, s0, p, _, dx, fs, rfl, hp, HC.Housecl, HC.na f hf, Nat.lt_of_le_of_lt hl hn, ?_⟩
  refine k _ (Nat.le_trans (putF_len _ _ _) (Nat.succ_le_succ hl)) upd_same fun b o hb e => ?_
  rw [upd_ne hb]
  exact e
theorem flds_made (r o l e s c : Addr) : putF "cut" (.ref c) (putF "spans" (.ref s) (putF "now" (.int 0) (putF "granted" (.int 0) (putF "ends" (.ref e) (putF "base" (.int 0) (putF "last" (.int 0) (putF "log" (.ref l) (putF "old_records" (.ref o) (putF "records" (.ref r) []))))))))) = hFlds r o l 0 0 e 0 0 s c := by kernel_rfl
theorem pure_h_init (HC : HCls K) (h : sp_h_init K vs H Q E) : t_h_init K { nx := fun _ H' => Q .non H', rt := Q } (start N_h_init vs) H := by
  obtain ⟨p, dx, rfl, hp, q⟩ := h
  refine st_dict HC rfl hp (by decide +kernel) (n := 0) (Nat.le_refl _) (by decide) fun r H1 L1 nr r1 p1 k1 => ?_
  refine st_dict HC rfl p1 (by decide +kernel) L1 (by decide) fun o H2 L2 no o2 p2 k2 => ?_
  refine st_list HC rfl p2 (by decide +kernel) L2 (by decide) fun l H3 L3 nl l3 p3 k3 => ?_
  refine st_val HC rfl p3 (by decide +kernel) L3 (by decide) fun H4 L4 p4 k4 => ?_
  refine st_val HC rfl p4 (by decide +kernel) L4 (by decide) fun H5 L5 p5 k5 => ?_
  refine st_dict HC rfl p5 (by decide +kernel) L5 (by decide) fun e H6 L6 ne e6 p6 k6 => ?_
  refine st_val HC rfl p6 (by decide +kernel) L6 (by decide) fun H7 L7 p7 k7 => ?_
  refine st_val HC rfl p7 (by decide +kernel) L7 (by decide) fun H8 L8 p8 k8 => ?_
  refine st_list HC rfl p8 (by decide +kernel) L8 (by decide) fun s H9 L9 ns s9 p9 k9 => ?_
  refine st_dict (D := { nx := fun _ H' => Q .non H', rt := Q }) (tw := tNext) HC rfl p9 (by decide +kernel) L9 (by decide) fun c H10 L10 nc c10 p10 k10 => ?_
  rw [flds_made] at p10
  have pr : r ≠ p := (ne_of_none hp nr).symm
  have po : o ≠ p := (ne_of_none p1 no).symm
  have pl : l ≠ p := (ne_of_none p2 nl).symm
  have pe : e ≠ p := (ne_of_none p5 ne).symm
  have ps : s ≠ p := (ne_of_none p8 ns).symm
  have pc : c ≠ p := (ne_of_none p9 nc).symm
  have r9 := k9 _ _ pr (k8 _ _ pr (k7 _ _ pr (k6 _ _ pr (k5 _ _ pr (k4 _ _ pr (k3 _ _ pr (k2 _ _ pr r1)))))))
  have o9 := k9 _ _ po (k8 _ _ po (k7 _ _ po (k6 _ _ po (k5 _ _ po (k4 _ _ po (k3 _ _ po o2))))))
  have l9 := k9 _ _ pl (k8 _ _ pl (k7 _ _ pl (k6 _ _ pl (k5 _ _ pl (k4 _ _ pl l3)))))
  have e9 := k9 _ _ pe (k8 _ _ pe (k7 _ _ pe e6))
  have r5 := k5 _ _ pr (k4 _ _ pr (k3 _ _ pr (k2 _ _ pr r1)))
  have o5 := k5 _ _ po (k4 _ _ po (k3 _ _ po o2))
  have l8 := k8 _ _ pl (k7 _ _ pl (k6 _ _ pl (k5 _ _ pl (k4 _ _ pl l3))))
  have kk : ∀ b u, b ≠ p → H b = some u → H10 b = some u := fun b u n h => k10 _ _ n (k9 _ _ n (k8 _ _ n (k7 _ _ n (k6 _ _ n (k5 _ _ n (k4 _ _ n (k3 _ _ n (k2 _ _ n (k1 _ _ n h)))))))))
  have fresh : ∀ b, b ≠ p → ∀ {Hx : Hp}, Hx b = none → (∀ u, H b = some u → Hx b = some u) → H b = none := fun b n Hx hx k => by
    cases w : H b with
    | none => rfl
    | some u => rw [k u w] at hx; cases hx
  refine q H10 ⟨r, o, l, e, s, c⟩ ⟨⟨dx, p10⟩, ⟨[], k10 _ _ pr r9, .nil⟩, ⟨[], k10 _ _ po o9, .nil⟩, ⟨[], k10 _ _ pl l9, .nil⟩, ⟨[], k10 _ _ pe e9, .nil⟩, ⟨[], k10 _ _ ps s9, .nil⟩, ⟨[], c10, .nil⟩,
    ne_of_none r1 no, ne_of_none r5 ne, ne_of_none r9 nc, ne_of_none o5 ne, ne_of_none o9 nc, ne_of_none e9 nc, ne_of_none l8 ns⟩ ⟨fun b u h n => kk b u (fun z => n (by rw [z]; exact List.mem_cons_self)) h, fun b hb => ?_, fun a xs h => kk a _ (fun z => by rw [z, hp] at h; cases h) h⟩
  have hb2 : b = p ∨ b = r ∨ b = o ∨ b = l ∨ b = e ∨ b = s ∨ b = c := by simpa [HCell.fp] using hb
  rcases hb2 with rfl | rfl | rfl | rfl | rfl | rfl | rfl
  · exact .inl List.mem_cons_self
  · exact .inr nr
  · exact .inr (fresh _ po no fun u h => k1 _ _ po h)
  · exact .inr (fresh _ pl nl fun u h => k2 _ _ pl (k1 _ _ pl h))
  · exact .inr (fresh _ pe ne fun u h => k5 _ _ pe (k4 _ _ pe (k3 _ _ pe (k2 _ _ pe (k1 _ _ pe h)))))
  · exact .inr (fresh _ ps ns fun u h => k8 _ _ ps (k7 _ _ ps (k6 _ _ ps (k5 _ _ ps (k4 _ _ ps (k3 _ _ ps (k2 _ _ ps (k1 _ _ ps h))))))))
  · exact .inr (fresh _ pc nc fun u h => k9 _ _ pc (k8 _ _ pc (k7 _ _ pc (k6 _ _ pc (k5 _ _ pc (k4 _ _ pc (k3 _ _ pc (k2 _ _ pc (k1 _ _ pc h)))))))))
end
end KW

/-! House.write -/
namespace KW
open PySem PySem.Spec PyProof.Rows L2 Evl
section
variable {C : Addr} {H H' : Hp} {p : Addr} {s : HS} {z : HCell}
theorem HouseAt.cells (h : HouseAt C H p s z) : (∃ dx fs, H p = some (.ins C dx fs)) ∧ (∃ es, H z.r = some (.dK es)) ∧ (∃ es, H z.o = some (.dK es)) ∧ (∃ vs, H z.l = some (.lst vs)) ∧ (∃ es, H z.e = some (.dK es)) ∧ (∃ vs, H z.s = some (.lst vs)) ∧ ∃ es, H z.c = some (.dK es) := by
  obtain ⟨dx, h0⟩ := h.ob
  obtain ⟨e1, h1, _⟩ := h.recs
  obtain ⟨e2, h2, _⟩ := h.old
  obtain ⟨e3, h3, _⟩ := h.log
  obtain ⟨e4, h4, _⟩ := h.ends
  obtain ⟨e5, h5, _⟩ := h.spans
  obtain ⟨e6, h6, _⟩ := h.cut
  exact ⟨⟨_, _, h0⟩, ⟨_, h1⟩, ⟨_, h2⟩, ⟨_, h3⟩, ⟨_, h4⟩, ⟨_, h5⟩, ⟨_, h6⟩⟩
/-- the cells hold no tuples -/
theorem HouseAt.notup (h : HouseAt C H p s z) {b : Addr} (hb : b ∈ z.fp p) : ∀ xs, H b ≠ some (.tup xs) := by
  obtain ⟨⟨dx, fs, h0⟩, ⟨e1, h1⟩, ⟨e2, h2⟩, ⟨e3, h3⟩, ⟨e4, h4⟩, ⟨e5, h5⟩, ⟨e6, h6⟩⟩ := h.cells
  have hb2 : b = p ∨ b = z.r ∨ b = z.o ∨ b = z.l ∨ b = z.e ∨ b = z.s ∨ b = z.c := by simpa [HCell.fp] using hb
  rcases hb2 with rfl | rfl | rfl | rfl | rfl | rfl | rfl
  · exact ne_tup_of h0 fun xs q => by cases q
  · exact ne_tup_of h1 fun xs q => by cases q
  · exact ne_tup_of h2 fun xs q => by cases q
  · exact ne_tup_of h3 fun xs q => by cases q
  · exact ne_tup_of h4 fun xs q => by cases q
  · exact ne_tup_of h5 fun xs q => by cases q
  · exact ne_tup_of h6 fun xs q => by cases q
theorem HouseAt.some (h : HouseAt C H p s z) {b : Addr} (hb : b ∈ z.fp p) : ∃ o, H b = some o := by
  obtain ⟨⟨dx, fs, h0⟩, ⟨e1, h1⟩, ⟨e2, h2⟩, ⟨e3, h3⟩, ⟨e4, h4⟩, ⟨e5, h5⟩, ⟨e6, h6⟩⟩ := h.cells
  have hb2 : b = p ∨ b = z.r ∨ b = z.o ∨ b = z.l ∨ b = z.e ∨ b = z.s ∨ b = z.c := by simpa [HCell.fp] using hb
  rcases hb2 with rfl | rfl | rfl | rfl | rfl | rfl | rfl
  · exact ⟨_, h0⟩
  · exact ⟨_, h1⟩
  · exact ⟨_, h2⟩
  · exact ⟨_, h3⟩
  · exact ⟨_, h4⟩
  · exact ⟨_, h5⟩
  · exact ⟨_, h6⟩
theorem mem_fp (p : Addr) (z : HCell) : p ∈ z.fp p ∧ z.r ∈ z.fp p ∧ z.o ∈ z.fp p ∧ z.l ∈ z.fp p ∧ z.e ∈ z.fp p ∧ z.s ∈ z.fp p ∧ z.c ∈ z.fp p := by simp [HCell.fp]
/-- an object's own ints are stored -/
theorem house_ob (h : HouseAt C H p s z) {s' : HS} {dx : Addr} (hr : s'.recs = s.recs) (ho : s'.old = s.old) (hl : s'.log = s.log) (he : s'.ends = s.ends) (hs : s'.spans = s.spans) (hc : s'.cut = s.cut) :
    HouseAt C (upd H p (.ins C dx (hFlds z.r z.o z.l s'.last s'.base z.e s'.granted s'.now z.s z.c))) p s' z := by
  obtain ⟨⟨dx0, fs, h0⟩, ⟨e1, h1⟩, ⟨e2, h2⟩, ⟨e3, h3⟩, ⟨e4, h4⟩, ⟨e5, h5⟩, ⟨e6, h6⟩⟩ := h.cells
  have kt : Kt H (upd H p (.ins C dx (hFlds z.r z.o z.l s'.last s'.base z.e s'.granted s'.now z.s z.c))) := (Kt.refl H).upd (h.notup (mem_fp p z).1)
  have k : ∀ {b : Addr} {o u : HO}, H b = some o → o ≠ (.ins C dx0 fs) → H b = some u → (upd H p (.ins C dx (hFlds z.r z.o z.l s'.last s'.base z.e s'.granted s'.now z.s z.c))) b = some u := fun {b o u} hb n q => by
    rw [upd_ne (ne_of hb h0 n)]
    exact q
  exact ⟨⟨dx, upd_same⟩, by rw [hr]; exact h.recs.move (fun v x q => RecV.kt kt q) fun o => k h1 (by intro q; cases q), by rw [ho]; exact h.old.move (fun v x q => RecV.kt kt q) fun o => k h2 (by intro q; cases q),
    by rw [hl]; exact h.log.move kt (fun v x q => EvV.kt kt q) fun o => k h3 (by intro q; cases q), by rw [he]; exact h.ends.move (fun v x q => TAt.kt kt q) fun o => k h4 (by intro q; cases q),
    by rw [hs]; exact h.spans.move kt (fun v x q => SpanV.kt kt q) fun o => k h5 (by intro q; cases q), by rw [hc]; exact h.cut.move (fun v x q => q) fun o => k h6 (by intro q; cases q), h.ro, h.re, h.rc, h.oe, h.oc, h.ec, h.ls⟩
theorem house_log (h : HouseAt C H p s z) {vs : List V} {v : V} {e : Evt} (hl : H z.l = some (.lst vs)) (hv : EvV H v e) : HouseAt C (upd H z.l (.lst (vs ++ [v]))) p { s with log := s.log ++ [e] } z := by
  obtain ⟨⟨dx0, fs, h0⟩, ⟨e1, h1⟩, ⟨e2, h2⟩, ⟨e3, h3⟩, ⟨e4, h4⟩, ⟨e5, h5⟩, ⟨e6, h6⟩⟩ := h.cells
  have kt : Kt H (upd H z.l (.lst (vs ++ [v]))) := (Kt.refl H).upd (h.notup (mem_fp p z).2.2.2.1)
  have k : ∀ {b : Addr} {u : HO}, b ≠ z.l → H b = some u → (upd H z.l (.lst (vs ++ [v]))) b = some u := fun {b u} hb q => by
    rw [upd_ne hb]
    exact q
  obtain ⟨dx, ho⟩ := h.ob
  obtain ⟨ws, l1, l2⟩ := h.log
  rw [hl] at l1
  cases l1
  exact ⟨⟨dx, k (ne_of h0 h3 (by intro q; cases q)) ho⟩, h.recs.move (fun v x q => RecV.kt kt q) fun o => k (ne_of h1 h3 (by intro q; cases q)), h.old.move (fun v x q => RecV.kt kt q) fun o => k (ne_of h2 h3 (by intro q; cases q)),
    ⟨_, upd_same, pr_snoc (pr_mono l2 fun a b q => EvV.kt kt q) (EvV.kt kt hv)⟩, h.ends.move (fun v x q => TAt.kt kt q) fun o => k (ne_of h4 h3 (by intro q; cases q)),
    h.spans.move kt (fun v x q => SpanV.kt kt q) fun o => k h.ls.symm, h.cut.move (fun v x q => q) fun o => k (ne_of h6 h3 (by intro q; cases q)), h.ro, h.re, h.rc, h.oe, h.oc, h.ec, h.ls⟩
theorem house_recs (h : HouseAt C H p s z) {rs : Recs} (hr : RecsAt H' z.r rs) (k1 : Keep1 z.r H H') (kt : Kt H H') : HouseAt C H' p { s with recs := rs } z := by
  obtain ⟨⟨dx0, fs, h0⟩, ⟨e1, h1⟩, ⟨e2, h2⟩, ⟨e3, h3⟩, ⟨e4, h4⟩, ⟨e5, h5⟩, ⟨e6, h6⟩⟩ := h.cells
  obtain ⟨dx, ho⟩ := h.ob
  exact ⟨⟨dx, k1 _ _ (ne_of h0 h1 (by intro q; cases q)) ho⟩, hr, h.old.move (fun v x q => RecV.kt kt q) fun o => k1 _ _ h.ro.symm, h.log.move kt (fun v x q => EvV.kt kt q) fun o => k1 _ _ (ne_of h3 h1 (by intro q; cases q)),
    h.ends.move (fun v x q => TAt.kt kt q) fun o => k1 _ _ h.re.symm, h.spans.move kt (fun v x q => SpanV.kt kt q) fun o => k1 _ _ (ne_of h5 h1 (by intro q; cases q)), h.cut.move (fun v x q => q) fun o => k1 _ _ h.rc.symm, h.ro, h.re, h.rc, h.oe, h.oc, h.ec, h.ls⟩
end
/-! ### the mathematics of a write -/
theorem hasR_changeR {rs : Recs} {e : Evt} {k : Str} (h : e.deed.key ≠ k) : hasR (changeR rs e) k = hasR rs k := by
  obtain ⟨n, d⟩ := e
  unfold hasR changeR
  cases d with
  | put j v l =>
    show (lookA (putA rs j _) k).isSome = _
    rw [lookA_putA, if_neg (fun q => h q.symm)]
  | drop j =>
    show (lookA (dropA rs j) k).isSome = _
    rw [lookA_dropA, if_neg (fun q => h q.symm)]
theorem changeR_len (rs : Recs) (e : Evt) : (changeR rs e).length ≤ rs.length + 1 := by
  obtain ⟨n, d⟩ := e
  unfold changeR
  cases d with
  | put j v l =>
    show (putA rs j _).length ≤ _
    unfold putA
    split
    · rw [List.length_map]
      exact Nat.le_succ _
    · rw [List.length_append]
      exact Nat.le_refl _
  | drop j =>
    show (dropA rs j).length ≤ _
    unfold dropA
    exact Nat.le_trans (List.length_filter_le _ _) (Nat.le_succ _)
theorem foldC_len (n : Int) : ∀ (ds : List Deed) (rs : Recs), (ds.foldl (fun rs d => changeR rs ⟨n, d⟩) rs).length ≤ rs.length + ds.length
  | [], rs => Nat.le_refl _
  | d :: r, rs => by
    rw [List.foldl_cons, List.length_cons]
    have h1 := foldC_len n r (changeR rs ⟨n, d⟩)
    have h2 := changeR_len rs ⟨n, d⟩
    omega
theorem foldC_has (n : Int) {k : Str} : ∀ (ds : List Deed) (rs : Recs), (∀ d ∈ ds, d.key ≠ k) → hasR (ds.foldl (fun rs d => changeR rs ⟨n, d⟩) rs) k = hasR rs k
  | [], rs, _ => rfl
  | d :: r, rs, h => by
    rw [List.foldl_cons, foldC_has n r _ (fun d hd => h d (List.mem_cons_of_mem _ hd)), hasR_changeR (h d List.mem_cons_self)]
theorem real_drop {rs : Recs} {ds : List Deed} {k : Str} (h : Deed.drop k ∈ realD rs ds) : hasR rs k = true := by
  have := (List.mem_filter.mp h).2
  simpa [Deed.isPut, Deed.key] using this
theorem real_nodup {rs : Recs} {ds : List Deed} (h : (ds.map Deed.key).Nodup) : ((realD rs ds).map Deed.key).Nodup := List.Nodup.sublist (List.Sublist.map _ List.filter_sublist) h
theorem take_ne {ds : List Deed} (h : (ds.map Deed.key).Nodup) {i : Nat} {d : Deed} (hd : ds[i]? = some d) : ∀ x ∈ ds.take i, x.key ≠ d.key := by
  intro x hx e
  obtain ⟨j, hj⟩ := List.mem_iff_getElem?.mp hx
  rw [List.getElem?_take] at hj
  split at hj
  · rename_i hlt
    have h1 : (ds.map Deed.key)[j]? = some d.key := by rw [List.getElem?_map, hj]; simp [e]
    have h2 : (ds.map Deed.key)[i]? = some d.key := by rw [List.getElem?_map, hd]; rfl
    have := nd_ix h h1 h2
    omega
  · cases hj
/-- the house behind the first i real deeds -/
def writeN (s : HS) (ds : List Deed) : Int := if realD s.recs ds = [] then s.last else s.last + 1
def writeTo (s : HS) (ds : List Deed) (i : Nat) : HS :=
  { s with last := writeN s ds, log := s.log ++ ((realD s.recs ds).take i).map (fun d => ⟨writeN s ds, d⟩), recs := ((realD s.recs ds).take i).foldl (fun rs d => changeR rs ⟨writeN s ds, d⟩) s.recs }
theorem writeTo_end (s : HS) (ds : List Deed) : writeTo s ds (realD s.recs ds).length = s.write ds := by
  unfold writeTo HS.write writeN
  rw [List.take_length]
  by_cases h : realD s.recs ds = []
  · rw [if_pos h, h, if_pos rfl]
    simp
  · rw [if_neg h, if_neg h]
theorem writeTo_succ (s : HS) (ds : List Deed) {i : Nat} {d : Deed} (h : (realD s.recs ds)[i]? = some d) :
    writeTo s ds (i + 1) = { { writeTo s ds i with log := (writeTo s ds i).log ++ [(⟨writeN s ds, d⟩ : Evt)] } with recs := changeR (writeTo s ds i).recs ⟨writeN s ds, d⟩ } := by
  unfold writeTo
  rw [List.take_succ, h]
  simp
end KW

/-! what holds of a house at all times -/
namespace KW
open PySem PySem.Spec PyProof.Rows L2 Evl
def Chain (rs : Recs) : List Evt → Prop
  | [] => True
  | e :: r => evOk rs e ∧ Chain (changeR rs e) r
theorem chain_append : ∀ {a b : List Evt} {rs : Recs}, Chain rs (a ++ b) ↔ Chain rs a ∧ Chain (a.foldl changeR rs) b
  | [], b, rs => ⟨fun h => ⟨trivial, h⟩, fun h => h.2⟩
  | e :: r, b, rs => by
    show (evOk rs e ∧ Chain (changeR rs e) (r ++ b)) ↔ (evOk rs e ∧ Chain (changeR rs e) r) ∧ _
    rw [chain_append]
    exact and_assoc.symm
theorem chain_at {rs : Recs} {pre : List Evt} {e : Evt} {post : List Evt} (h : Chain rs (pre ++ e :: post)) : evOk (pre.foldl changeR rs) e := (chain_append.mp h).2.1
theorem changeR_nodup {rs : Recs} (h : (keysA rs).Nodup) (e : Evt) : (keysA (changeR rs e)).Nodup := by
  obtain ⟨n, d⟩ := e
  cases d with
  | put k v l => exact nodup_putA h k _
  | drop k => exact nodup_dropA h k
theorem foldR_nodup : ∀ (es : List Evt) {rs : Recs}, (keysA rs).Nodup → (keysA (es.foldl changeR rs)).Nodup
  | [], _, h => h
  | e :: r, rs, h => foldR_nodup r (changeR_nodup h e)
structure HS.Wf (s : HS) : Prop where
  ndo : (keysA s.old).Nodup
  chain : Chain s.old s.log
  eq : s.recs = s.log.foldl changeR s.old
  sorted : s.log.Pairwise fun a b => a.num ≤ b.num
  bnd : ∀ e ∈ s.log, s.base < e.num ∧ e.num ≤ s.last
  b0 : 0 ≤ s.base
  bl : s.base ≤ s.last
theorem HS.Wf.nd {s : HS} (h : s.Wf) : (keysA s.recs).Nodup := by
  rw [h.eq]
  exact foldR_nodup _ h.ndo
theorem wf_new : HS.new.Wf := ⟨List.Pairwise.nil, trivial, rfl, List.Pairwise.nil, (fun e h => nomatch h), Int.le_refl _, Int.le_refl _⟩
/-- what is at most n is a first part -/
theorem filter_take (n : Int) : ∀ {l : List Evt}, l.Pairwise (fun a b => a.num ≤ b.num) → ∃ k, (l.filter fun e => decide (e.num ≤ n)) = l.take k
  | [], _ => ⟨0, rfl⟩
  | e :: r, h => by
    obtain ⟨h1, h2⟩ := List.pairwise_cons.mp h
    by_cases he : e.num ≤ n
    · obtain ⟨k, hk⟩ := filter_take n h2
      refine ⟨k + 1, ?_⟩
      rw [List.filter_cons, if_pos (by simpa using he), hk]
      rfl
    · refine ⟨0, ?_⟩
      rw [List.filter_cons, if_neg (by simpa using he)]
      show _ = []
      refine List.filter_eq_nil_iff.mpr fun x hx => ?_
      have := h1 x hx
      simp
      omega
theorem chain_take {rs : Recs} {l : List Evt} (h : Chain rs l) (k : Nat) : Chain rs (l.take k) := by
  rw [← List.take_append_drop k l] at h
  exact (chain_append.mp h).1
theorem HS.Wf.ok {s : HS} (h : s.Wf) : s.logOk := fun n pre e post hs => by
  obtain ⟨k, hk⟩ := filter_take n h.sorted
  have hc := chain_take h.chain k
  rw [← hk, hs] at hc
  exact chain_at hc
theorem chain_deeds {rs : Recs} (n : Int) : ∀ {ds : List Deed}, (ds.map Deed.key).Nodup → (∀ k, Deed.drop k ∈ ds → hasR rs k = true) → Chain rs (ds.map fun d => ⟨n, d⟩)
  | [], _, _ => trivial
  | d :: r, hn, hd => by
    have hn' : (d.key :: r.map Deed.key).Nodup := hn
    obtain ⟨h1, h2⟩ := List.nodup_cons.mp hn'
    refine ⟨fun k e => hd k (by rw [← show d = .drop k from e]; exact List.mem_cons_self), ?_⟩
    have ih := chain_deeds (rs := changeR rs ⟨n, d⟩) n h2 fun k hk => by
      rw [hasR_changeR (fun e => h1 (by
        rw [show d.key = k from e]
        exact List.mem_map.mpr ⟨_, hk, rfl⟩))]
      exact hd k (List.mem_cons_of_mem _ hk)
    exact ih
theorem foldl_map_ev (n : Int) (ds : List Deed) (rs : Recs) : (ds.map fun d => (⟨n, d⟩ : Evt)).foldl changeR rs = ds.foldl (fun rs d => changeR rs ⟨n, d⟩) rs := List.foldl_map ..
theorem wf_write {s : HS} (h : s.Wf) {ds : List Deed} (hn : (ds.map Deed.key).Nodup) : (s.write ds).Wf := by
  unfold HS.write
  dsimp only
  by_cases hr : realD s.recs ds = []
  · rw [if_pos hr]
    exact h
  · rw [if_neg hr]
    refine ⟨h.ndo, ?_, ?_, ?_, ?_, h.b0, ?_⟩
    · refine chain_append.mpr ⟨h.chain, ?_⟩
      rw [← h.eq]
      exact chain_deeds _ (real_nodup hn) fun k hk => real_drop hk
    · show _ = (s.log ++ _).foldl changeR s.old
      rw [List.foldl_append, ← h.eq, foldl_map_ev]
    · refine List.pairwise_append.mpr ⟨h.sorted, ?_, ?_⟩
      · refine List.pairwise_map.mpr (List.pairwise_of_forall fun a b => Int.le_refl _)
      · intro a ha b hb
        obtain ⟨d, _, rfl⟩ := List.mem_map.mp hb
        have := (h.bnd a ha).2
        show a.num ≤ s.last + 1
        omega
    · intro e he
      rcases List.mem_append.mp he with he | he
      · have := h.bnd e he
        exact ⟨this.1, by show _ ≤ s.last + 1; omega⟩
      · obtain ⟨d, _, rfl⟩ := List.mem_map.mp he
        have := h.bl
        exact ⟨by show s.base < s.last + 1; omega, Int.le_refl _⟩
    · have := h.bl
      show s.base ≤ s.last + 1
      omega
theorem write_log_len (s : HS) (ds : List Deed) : (s.write ds).log.length ≤ s.log.length + ds.length := by
  unfold HS.write
  dsimp only
  split
  · exact Nat.le_add_right _ _
  · show (s.log ++ _).length ≤ _
    rw [List.length_append, List.length_map]
    exact Nat.add_le_add_left (List.length_filter_le _ _) _
theorem write_recs_len (s : HS) (ds : List Deed) : (s.write ds).recs.length ≤ s.recs.length + ds.length := by
  unfold HS.write
  dsimp only
  split
  · exact Nat.le_add_right _ _
  · have h1 := foldC_len (s.last + 1) (realD s.recs ds) s.recs
    have h2 : (realD s.recs ds).length ≤ ds.length := List.length_filter_le _ _
    show ((realD s.recs ds).foldl (fun rs d => changeR rs ⟨s.last + 1, d⟩) s.recs).length ≤ _
    omega
theorem write_same (s : HS) (ds : List Deed) : (s.write ds).old = s.old ∧ (s.write ds).base = s.base ∧ (s.write ds).ends = s.ends ∧ (s.write ds).granted = s.granted ∧ (s.write ds).now = s.now ∧ (s.write ds).spans = s.spans ∧ (s.write ds).cut = s.cut := by
  unfold HS.write
  dsimp only
  split
  · exact ⟨rfl, rfl, rfl, rfl, rfl, rfl, rfl⟩
  · exact ⟨rfl, rfl, rfl, rfl, rfl, rfl, rfl⟩
end KW

/-! conditions, dealings, leases, the clock: plainly -/
namespace KW
open PySem PySem.Spec PyProof.Rows L2 Evl
/-! ### conditions -/
inductive Cond where
  | value (k : Str) (n : Int)
  | changed (k : Str) (n : Int)
  | version (k : Str) (n : Int)
  | less (k : Str) (n : Int)
  | neg (c : Cond)
  deriving DecidableEq
def Cond.depth : Cond → Nat
  | .neg c => c.depth + 1
  | _ => 1
def Cond.key : Cond → Str
  | .value k _ => k
  | .changed k _ => k
  | .version k _ => k
  | .less k _ => k
  | .neg c => c.key
def Cond.num : Cond → Int
  | .value _ n => n
  | .changed _ n => n
  | .version _ n => n
  | .less _ n => n
  | .neg c => c.num
def Cond.ok : Cond → Prop
  | .value k n => isKey k = true ∧ 0 ≤ n ∧ n ≤ 9999
  | .changed k n => isKey k = true ∧ 0 ≤ n
  | .version k n => isKey k = true ∧ 0 ≤ n
  | .less k n => isKey k = true ∧ 0 ≤ n
  | .neg c => c.ok
/-- what a record tells: value, changed, version -/
def valO (r : Option Rec) : Option Int := r.map (·.value)
def chgO (r : Option Rec) : Int := (r.map (·.changed)).getD 0
def verO (r : Option Rec) : Int := (r.map (·.version)).getD 0
def holdsC (rs : Recs) : Cond → Bool
  | .value k n => decide (valO (lookR rs k) = some n)
  | .changed k n => decide (chgO (lookR rs k) = n)
  | .version k n => decide (verO (lookR rs k) = n)
  | .less k n => decide (chgO (lookR rs k) < n)
  | .neg c => !holdsC rs c
/-! ### deeds in order -/
def Deed.lease : Deed → Option Int
  | .put _ _ l => l
  | .drop _ => none
def Deed.okD : Deed → Prop
  | .put k v l => isKey k = true ∧ 0 ≤ v ∧ v ≤ 9999 ∧ ∀ i, l = some i → 1 ≤ i
  | .drop k => isKey k = true
def deedsOk (ds : List Deed) : Prop := ds.length ≤ 4 ∧ (∀ d ∈ ds, d.okD) ∧ (ds.map Deed.key).Nodup
def HS.alive (s : HS) (ds : List Deed) : Prop := ∀ d ∈ ds, leaseOk s d.lease
def HS.good (s : HS) (cs : List Cond) : Bool := cs.all (holdsC s.recs)
def HS.deal (s : HS) (cs : List Cond) (ts os : List Deed) : HS := s.write (if s.good cs = true then ts else os)
/-! ### leases -/
def HS.grant (s : HS) (t : Int) : HS := { s with granted := s.granted + 1, ends := putA s.ends (s.granted + 1) (t, s.now + t) }
def getE (es : List (Int × (Int × Int))) (l : Int) : Int × Int := (lookA es l).getD (0, 0)
def HS.renew (s : HS) (l : Int) : HS := { s with ends := putA s.ends l ((getE s.ends l).1, s.now + (getE s.ends l).1) }
def HS.left (s : HS) (l : Int) : Int := (getE s.ends l).2 - s.now
def HS.keysOf (s : HS) (l : Int) : List Str := (sortS (keysA s.recs)).filter fun k => decide ((getR s.recs k).lease = some l)
def HS.endL (s : HS) (l : Int) : HS := { s.write ((s.keysOf l).map Deed.drop) with ends := dropA s.ends l }
/-- in order of time, then of number -/
def pLe (a b : Int × Int) : Bool := decide (a.1 < b.1) || (decide (a.1 = b.1) && decide (a.2 ≤ b.2))
def HS.due (s : HS) : List (Int × Int) := (s.ends.map fun e => (e.2.2, e.1)).mergeSort pLe
def HS.step (goal : Int) (s : HS) (p : Int × Int) : HS := if p.1 ≤ goal then ({ s with now := p.1 } : HS).endL p.2 else s
def HS.wait (s : HS) (n : Int) : HS := { s.due.foldl (HS.step (s.now + n)) s with now := s.now + n }
def sortI (xs : List Int) : List Int := xs.mergeSort fun a b => decide (a ≤ b)
def HS.leases (s : HS) : List Int := sortI (keysA s.ends)
def HS.since (s : HS) (a b : Str) (n : Int) : List Evt := s.log.filter fun e => decide (n ≤ e.num) && within e.deed.key a b
/-! ### sorting -/
theorem sortI_perm (xs : List Int) : (sortI xs).Perm xs := List.mergeSort_perm _ _
theorem sortI_pair (xs : List Int) : (sortI xs).Pairwise (· ≤ ·) := by
  have h := List.pairwise_mergeSort (le := fun a b : Int => decide (a ≤ b)) (fun a b c h1 h2 => by simp at *; omega) (fun a b => by simp; omega) xs
  exact h.imp fun h => by simpa using h
theorem sortI_eq {xs ys : List Int} (h : ys.Perm xs) (hs : ys.Pairwise (· ≤ ·)) : ys = sortI xs :=
  List.Perm.eq_of_pairwise (fun a b _ _ h1 h2 => Int.le_antisymm h1 h2) hs (sortI_pair xs) (h.trans (sortI_perm xs).symm)
theorem mem_sortI {xs : List Int} {x : Int} : x ∈ sortI xs ↔ x ∈ xs := (sortI_perm xs).mem_iff
theorem sortI_len (xs : List Int) : (sortI xs).length = xs.length := (sortI_perm xs).length_eq
theorem pLe_iff {a b : Int × Int} : pLe a b = true ↔ a.1 < b.1 ∨ (a.1 = b.1 ∧ a.2 ≤ b.2) := by
  unfold pLe
  simp
theorem pLe_trans (a b c : Int × Int) (h : pLe a b = true) (h' : pLe b c = true) : pLe a c = true := by
  rw [pLe_iff] at *
  omega
theorem pLe_total (a b : Int × Int) : (pLe a b || pLe b a) = true := by
  rw [Bool.or_eq_true, pLe_iff, pLe_iff]
  omega
theorem pLe_anti {a b : Int × Int} (h : pLe a b = true) (h' : pLe b a = true) : a = b := by
  rw [pLe_iff] at *
  obtain ⟨a1, a2⟩ := a
  obtain ⟨b1, b2⟩ := b
  simp only at *
  have e1 : a1 = b1 := by omega
  have e2 : a2 = b2 := by omega
  rw [e1, e2]
theorem due_perm (s : HS) : s.due.Perm (s.ends.map fun e => (e.2.2, e.1)) := List.mergeSort_perm _ _
theorem due_pair (s : HS) : s.due.Pairwise fun a b => pLe a b = true := List.pairwise_mergeSort pLe_trans pLe_total _
theorem due_eq {s : HS} {ys : List (Int × Int)} (h : ys.Perm (s.ends.map fun e => (e.2.2, e.1))) (hs : ys.Pairwise fun a b => pLe a b = true) : ys = s.due :=
  List.Perm.eq_of_pairwise (fun a b _ _ h1 h2 => pLe_anti h1 h2) hs (due_pair s) (h.trans (due_perm s).symm)
theorem mem_due {s : HS} {p : Int × Int} : p ∈ s.due ↔ ∃ e ∈ s.ends, p = (e.2.2, e.1) := by
  rw [(due_perm s).mem_iff, List.mem_map]
  constructor
  · rintro ⟨e, h1, h2⟩
    exact ⟨e, h1, h2.symm⟩
  · rintro ⟨e, h1, h2⟩
    exact ⟨e, h1, h2.symm⟩
/-! ### what holds of the leases at all times -/
structure HS.Lw (s : HS) : Prop where
  nd : (keysA s.ends).Nodup
  pos : ∀ l ∈ keysA s.ends, 1 ≤ l ∧ l ≤ s.granted
  g0 : 0 ≤ s.granted
  n0 : 0 ≤ s.now
  trm : ∀ e ∈ s.ends, 1 ≤ e.2.1 ∧ e.2.1 ≤ 99 ∧ s.now < e.2.2 ∧ e.2.2 ≤ s.now + e.2.1
  recl : ∀ k r, lookR s.recs k = some r → ∀ l, r.lease = some l → l ∈ keysA s.ends
theorem lw_new : HS.new.Lw := ⟨List.Pairwise.nil, (fun l h => nomatch h), Int.le_refl _, Int.le_refl _, (fun e h => nomatch h), fun k r h => nomatch h⟩

/-! ### a write and the leases -/
theorem changeR_look (rs : Recs) (e : Evt) (k : Str) : lookR (changeR rs e) k = if k = e.deed.key then (match e.deed with | .put j v l => some (newRec rs e.num j v l) | .drop _ => none) else lookR rs k := by
  obtain ⟨n, d⟩ := e
  cases d with
  | put j v l => exact lookA_putA rs j k _
  | drop j => exact lookA_dropA rs j k
theorem newRec_lease (rs : Recs) (n : Int) (k : Str) (v : Int) (l : Option Int) : (newRec rs n k v l).lease = l := by
  unfold newRec
  split <;> rfl
def leasesIn (rs : Recs) (ok : Int → Prop) : Prop := ∀ k r, lookR rs k = some r → ∀ l, r.lease = some l → ok l
theorem leasesIn_change {rs : Recs} {ok : Int → Prop} (h : leasesIn rs ok) (e : Evt) (he : ∀ l, e.deed.lease = some l → ok l) : leasesIn (changeR rs e) ok := by
  intro k r hk l hl
  rw [changeR_look] at hk
  split at hk
  · obtain ⟨n, d⟩ := e
    cases d with
    | put j v m =>
      have hk : some (newRec rs n j v m) = some r := hk
      rw [← Option.some.inj hk, newRec_lease] at hl
      exact he l hl
    | drop j => cases hk
  · exact h k r hk l hl
theorem leasesIn_fold {ok : Int → Prop} (n : Int) : ∀ (ds : List Deed) {rs : Recs}, leasesIn rs ok → (∀ d ∈ ds, ∀ l, d.lease = some l → ok l) → leasesIn (ds.foldl (fun rs d => changeR rs ⟨n, d⟩) rs) ok
  | [], _, h, _ => h
  | d :: r, rs, h, hd => leasesIn_fold n r (leasesIn_change h ⟨n, d⟩ (hd d List.mem_cons_self)) fun d' h' => hd d' (List.mem_cons_of_mem _ h')
theorem write_recs (s : HS) (ds : List Deed) : (s.write ds).recs = (realD s.recs ds).foldl (fun rs d => changeR rs ⟨s.last + 1, d⟩) s.recs := by
  unfold HS.write
  dsimp only
  split
  · rename_i h
    rw [h]
    rfl
  · rfl
theorem write_last (s : HS) (ds : List Deed) : (s.write ds).last = if realD s.recs ds = [] then s.last else s.last + 1 := by
  unfold HS.write
  dsimp only
  split <;> rfl
theorem write_log (s : HS) (ds : List Deed) : (s.write ds).log = s.log ++ (realD s.recs ds).map (fun d => ⟨s.last + 1, d⟩) := by
  unfold HS.write
  dsimp only
  split
  · rename_i h
    rw [h]
    simp
  · rfl
theorem leasesIn_write {s : HS} {ok : Int → Prop} (h : leasesIn s.recs ok) {ds : List Deed} (hd : ∀ d ∈ ds, ∀ l, d.lease = some l → ok l) : leasesIn (s.write ds).recs ok := by
  rw [write_recs]
  exact leasesIn_fold _ _ h fun d h' => hd d (List.mem_filter.mp h').1
theorem lw_write {s : HS} (h : s.Lw) {ds : List Deed} (ha : s.alive ds) : (s.write ds).Lw := by
  obtain ⟨_, _, h3, h4, h5, _, _⟩ := write_same s ds
  refine ⟨by rw [h3]; exact h.nd, by rw [h3, h4]; exact h.pos, by rw [h4]; exact h.g0, by rw [h5]; exact h.n0, by rw [h3, h5]; exact h.trm, ?_⟩
  rw [h3]
  exact leasesIn_write (ok := fun l => l ∈ keysA s.ends) h.recl fun d hd l hl => (ha d hd l hl).2
theorem keysA_putA {κ α : Type} [DecidableEq κ] {rs : List (κ × α)} {k j : κ} {r : α} : j ∈ keysA (putA rs k r) ↔ j = k ∨ j ∈ keysA rs := by
  rw [← lookA_some, lookA_putA, ← lookA_some]
  by_cases e : j = k
  · simp [e]
  · simp [e]
theorem keysA_dropA {κ α : Type} [DecidableEq κ] {rs : List (κ × α)} {k j : κ} : j ∈ keysA (dropA rs k) ↔ j ≠ k ∧ j ∈ keysA rs := by
  rw [← lookA_some, lookA_dropA, ← lookA_some]
  by_cases e : j = k
  · simp [e]
  · simp [e]
theorem mem_putA {κ α : Type} [DecidableEq κ] {rs : List (κ × α)} {k : κ} {r : α} {p : κ × α} (nd : (keysA rs).Nodup) (h : p ∈ putA rs k r) : p = (k, r) ∨ (p.1 ≠ k ∧ p ∈ rs) := by
  have h1 := lookA_of_mem (nodup_putA nd k r) (k := p.1) (r := p.2) h
  rw [lookA_putA] at h1
  split at h1
  · rename_i e
    refine .inl ?_
    rw [← e, Option.some.inj h1]
  · rename_i e
    exact .inr ⟨e, lookA_mem h1⟩
theorem mem_dropA {κ α : Type} [DecidableEq κ] {rs : List (κ × α)} {k : κ} {p : κ × α} : p ∈ dropA rs k ↔ p ∈ rs ∧ p.1 ≠ k := by
  unfold dropA
  rw [List.mem_filter]
  simp
theorem getE_mem {s : HS} {l : Int} (h : l ∈ keysA s.ends) : (l, getE s.ends l) ∈ s.ends := by
  obtain ⟨r, hr⟩ := Option.isSome_iff_exists.mp (lookA_some.mpr h)
  unfold getE
  rw [hr]
  exact lookA_mem hr
theorem lw_grant {s : HS} (h : s.Lw) {t : Int} (h1 : 1 ≤ t) (h2 : t ≤ 99) : (s.grant t).Lw := by
  refine ⟨nodup_putA h.nd _ _, fun l hl => ?_, ?_, h.n0, fun e he => ?_, fun k r hk l hl => ?_⟩
  · have hg := h.g0
    rcases keysA_putA.mp hl with e | hl
    · rw [e]
      exact ⟨by omega, Int.le_refl _⟩
    · have := h.pos l hl
      exact ⟨this.1, by show l ≤ s.granted + 1; omega⟩
  · have hg := h.g0
    show 0 ≤ s.granted + 1
    omega
  · rcases mem_putA h.nd he with e | ⟨_, he⟩
    · rw [e]
      exact ⟨h1, h2, by show s.now < s.now + t; omega, Int.le_refl _⟩
    · exact h.trm e he
  · exact keysA_putA.mpr (.inr (h.recl k r hk l hl))
theorem lw_renew {s : HS} (h : s.Lw) {l : Int} (hl : l ∈ keysA s.ends) : (s.renew l).Lw := by
  have hm := h.trm _ (getE_mem hl)
  have hk : ∀ j, j ∈ keysA (s.renew l).ends ↔ j ∈ keysA s.ends := fun j => by
    show j ∈ keysA (putA s.ends l _) ↔ _
    rw [keysA_putA]
    exact ⟨fun z => z.elim (fun e => by rw [e]; exact hl) id, .inr⟩
  refine ⟨nodup_putA h.nd _ _, fun j hj => h.pos j ((hk j).mp hj), h.g0, h.n0, fun e he => ?_, fun k r hr j hj => (hk j).mpr (h.recl k r hr j hj)⟩
  rcases mem_putA h.nd he with e | ⟨_, he⟩
  · rw [e]
    exact ⟨hm.1, hm.2.1, (by have h9 : 1 ≤ (getE s.ends l).1 := hm.1; show s.now < s.now + (getE s.ends l).1; omega), Int.le_refl _⟩
  · exact h.trm e he
/-! ### the end of a lease -/
theorem nodup_sortS {xs : List Str} (h : xs.Nodup) : (sortS xs).Nodup := (sortS_perm xs).nodup_iff.mpr h
theorem keysOf_nodup {s : HS} (h : s.Wf) (l : Int) : (s.keysOf l).Nodup := (nodup_sortS h.nd).sublist List.filter_sublist
theorem drops_keys (ks : List Str) : (ks.map Deed.drop).map Deed.key = ks := by
  rw [List.map_map]
  exact List.map_id ks
theorem mem_keysOf {s : HS} {l : Int} {k : Str} : k ∈ s.keysOf l ↔ ∃ r, lookR s.recs k = some r ∧ r.lease = some l := by
  unfold HS.keysOf
  rw [List.mem_filter, mem_sortS]
  constructor
  · rintro ⟨h1, h2⟩
    obtain ⟨r, hr⟩ := Option.isSome_iff_exists.mp (lookA_some.mpr h1)
    refine ⟨r, hr, ?_⟩
    have := of_decide_eq_true h2
    unfold getR at this
    rw [show lookR s.recs k = some r from hr] at this
    exact this
  · rintro ⟨r, hr, hl⟩
    refine ⟨lookA_some.mp (by rw [show lookA s.recs k = some r from hr]; rfl), decide_eq_true ?_⟩
    unfold getR
    rw [hr]
    exact hl
theorem keysOf_has {s : HS} {l : Int} {k : Str} (h : k ∈ s.keysOf l) : hasR s.recs k = true := by
  obtain ⟨r, hr, _⟩ := mem_keysOf.mp h
  unfold hasR
  rw [hr]
  rfl
theorem real_keysOf (s : HS) (l : Int) : realD s.recs ((s.keysOf l).map Deed.drop) = (s.keysOf l).map Deed.drop := by
  unfold realD
  refine List.filter_eq_self.mpr fun d hd => ?_
  obtain ⟨k, hk, rfl⟩ := List.mem_map.mp hd
  show (false || hasR s.recs k) = true
  rw [keysOf_has hk]
  rfl
theorem fold_drops (n : Int) : ∀ (ks : List Str) (rs : Recs), (ks.map Deed.drop).foldl (fun rs d => changeR rs ⟨n, d⟩) rs = rs.filter fun p => !decide (p.1 ∈ ks)
  | [], rs => by
    show rs = _
    rw [List.filter_eq_self.mpr fun p _ => by simp]
  | k :: r, rs => by
    rw [List.map_cons, List.foldl_cons, fold_drops n r]
    show (dropA rs k).filter _ = _
    unfold dropA
    rw [List.filter_filter]
    refine List.filter_congr fun p _ => ?_
    by_cases e : p.1 = k
    · simp [e]
    · simp [e]
theorem endL_recs (s : HS) (l : Int) : (s.endL l).recs = s.recs.filter fun p => !decide (p.1 ∈ s.keysOf l) := by
  show (s.write _).recs = _
  rw [write_recs, real_keysOf, fold_drops]
theorem endL_log (s : HS) (l : Int) : (s.endL l).log = s.log ++ (s.keysOf l).map (fun k => ⟨s.last + 1, .drop k⟩) := by
  show (s.write _).log = _
  rw [write_log, real_keysOf, List.map_map]
  rfl
theorem wf_ends {s : HS} (h : s.Wf) (es : List (Int × (Int × Int))) (g n : Int) : ({ s with ends := es, granted := g, now := n } : HS).Wf := ⟨h.ndo, h.chain, h.eq, h.sorted, h.bnd, h.b0, h.bl⟩
theorem wf_endL {s : HS} (h : s.Wf) (l : Int) : (s.endL l).Wf := by
  have h1 := wf_write h (ds := (s.keysOf l).map Deed.drop) (by rw [drops_keys]; exact keysOf_nodup h l)
  exact ⟨h1.ndo, h1.chain, h1.eq, h1.sorted, h1.bnd, h1.b0, h1.bl⟩
theorem endL_same (s : HS) (l : Int) : (s.endL l).old = s.old ∧ (s.endL l).base = s.base ∧ (s.endL l).ends = dropA s.ends l ∧ (s.endL l).granted = s.granted ∧ (s.endL l).now = s.now ∧ (s.endL l).spans = s.spans ∧ (s.endL l).cut = s.cut := by
  obtain ⟨h1, h2, h3, h4, h5, h6, h7⟩ := write_same s ((s.keysOf l).map Deed.drop)
  exact ⟨h1, h2, rfl, h4, h5, h6, h7⟩
theorem look_filter (rs : Recs) (f : Str → Bool) (k : Str) : lookR (rs.filter fun p => f p.1) k = if f k = true then lookR rs k else none := by
  induction rs with
  | nil => simp [lookA_nil]
  | cons p t ih =>
    rw [List.filter_cons]
    by_cases hp : f p.1 = true
    · rw [if_pos hp]
      show lookA _ _ = if f k = true then lookA (p :: t) k else none
      rw [lookA_cons, lookA_cons]
      by_cases e : p.1 = k
      · rw [if_pos e, if_pos e, if_pos (by rw [← e]; exact hp)]
      · rw [if_neg e, if_neg e]
        exact ih
    · rw [if_neg hp]
      show lookR (List.filter _ t) k = _
      rw [ih]
      show _ = if f k = true then lookA (p :: t) k else none
      rw [lookA_cons]
      by_cases e : p.1 = k
      · rw [if_neg (by rw [← e]; exact hp), if_neg (by rw [← e]; exact hp)]
      · rw [if_neg e]
theorem endL_look (s : HS) (l : Int) (k : Str) : lookR (s.endL l).recs k = if k ∈ s.keysOf l then none else lookR s.recs k := by
  rw [endL_recs, look_filter s.recs (fun k => !decide (k ∈ s.keysOf l)) k]
  by_cases h : k ∈ s.keysOf l
  · simp [h]
  · simp [h]
theorem endL_lease {s : HS} {l : Int} {k : Str} {r : Rec} (h : lookR (s.endL l).recs k = some r) : lookR s.recs k = some r ∧ r.lease ≠ some l := by
  rw [endL_look] at h
  split at h
  · cases h
  · rename_i hn
    exact ⟨h, fun hl => hn (mem_keysOf.mpr ⟨r, h, hl⟩)⟩
theorem lw_endL {s : HS} (h : s.Lw) (l : Int) : (s.endL l).Lw := by
  obtain ⟨_, _, h3, h4, h5, _, _⟩ := endL_same s l
  refine ⟨by rw [h3]; exact nodup_dropA h.nd l, ?_, by rw [h4]; exact h.g0, by rw [h5]; exact h.n0, ?_, ?_⟩
  · rw [h3, h4]
    exact fun j hj => h.pos j (keysA_dropA.mp hj).2
  · rw [h3, h5]
    exact fun e he => h.trm e (mem_dropA.mp he).1
  · rw [h3]
    intro k r hk j hj
    obtain ⟨h6, h7⟩ := endL_lease hk
    exact keysA_dropA.mpr ⟨fun e => h7 (by rw [hj, e]), h.recl k r h6 j hj⟩
/-! ### sizes -/
def HS.mu (s : HS) : Nat := s.log.length + s.recs.length
theorem mu_write (s : HS) (ds : List Deed) : (s.write ds).mu ≤ s.mu + 2 * ds.length := by
  have h1 := write_log_len s ds
  have h2 := write_recs_len s ds
  unfold HS.mu
  omega
theorem filter_not_mem_len : ∀ (ks : List Str) (rs : Recs), (keysA rs).Nodup → ks.Nodup → (∀ k ∈ ks, k ∈ keysA rs) → ks.length + (rs.filter fun p => !decide (p.1 ∈ ks)).length ≤ rs.length
  | [], rs, _, _, _ => by
    rw [List.filter_eq_self.mpr fun p _ => by simp]
    simp
  | k :: r, rs, nd, hk, hm => by
    obtain ⟨n1, n2⟩ := List.nodup_cons.mp hk
    have e : (rs.filter fun p => !decide (p.1 ∈ k :: r)) = (dropA rs k).filter fun p => !decide (p.1 ∈ r) := by
      unfold dropA
      rw [List.filter_filter]
      refine List.filter_congr fun p _ => ?_
      by_cases e : p.1 = k
      · simp [e]
      · simp [e]
    have ih := filter_not_mem_len r (dropA rs k) (nodup_dropA nd k) n2 fun j hj => keysA_dropA.mpr ⟨fun z => n1 (by rw [← z]; exact hj), hm j (List.mem_cons_of_mem _ hj)⟩
    have hlt : (dropA rs k).length < rs.length := by
      unfold dropA
      refine List.length_filter_lt_length_iff_exists.mpr ?_
      obtain ⟨p, hp, e⟩ := List.mem_map.mp (hm k List.mem_cons_self)
      exact ⟨p, hp, by simp [e]⟩
    rw [e, List.length_cons]
    omega
theorem mu_endL {s : HS} (h : s.Wf) (l : Int) : (s.endL l).mu ≤ s.mu ∧ (s.endL l).recs.length ≤ s.recs.length := by
  have h1 := filter_not_mem_len (s.keysOf l) s.recs h.nd (keysOf_nodup h l) fun k hk => lookA_some.mp (keysOf_has hk)
  unfold HS.mu
  rw [endL_recs, endL_log, List.length_append, List.length_map]
  omega
/-! ### keys of a house are among -/
def HS.keysIn (s : HS) (keys : List Str) : Prop := ∀ k ∈ keysA s.recs, k ∈ keys
theorem keysIn_change {rs : Recs} {keys : List Str} (h : ∀ k ∈ keysA rs, k ∈ keys) (e : Evt) (he : e.deed.key ∈ keys) : ∀ k ∈ keysA (changeR rs e), k ∈ keys := by
  intro k hk
  obtain ⟨n, d⟩ := e
  cases d with
  | put j v l =>
    rcases keysA_putA.mp (show k ∈ keysA (putA rs j _) from hk) with e | hk
    · rw [e]
      exact he
    · exact h k hk
  | drop j => exact h k (keysA_dropA.mp (show k ∈ keysA (dropA rs j) from hk)).2
theorem keysIn_fold {keys : List Str} (n : Int) : ∀ (ds : List Deed) {rs : Recs}, (∀ k ∈ keysA rs, k ∈ keys) → (∀ d ∈ ds, d.key ∈ keys) → ∀ k ∈ keysA (ds.foldl (fun rs d => changeR rs ⟨n, d⟩) rs), k ∈ keys
  | [], _, h, _ => h
  | d :: r, rs, h, hd => keysIn_fold n r (keysIn_change h ⟨n, d⟩ (hd d List.mem_cons_self)) fun d' h' => hd d' (List.mem_cons_of_mem _ h')
theorem keysIn_write {s : HS} {keys : List Str} (h : s.keysIn keys) {ds : List Deed} (hd : ∀ d ∈ ds, d.key ∈ keys) : (s.write ds).keysIn keys := by
  unfold HS.keysIn
  rw [write_recs]
  exact keysIn_fold _ _ h fun d h' => hd d (List.mem_filter.mp h').1
theorem keysIn_endL {s : HS} {keys : List Str} (h : s.keysIn keys) (l : Int) : (s.endL l).keysIn keys := by
  unfold HS.keysIn
  rw [endL_recs]
  intro k hk
  obtain ⟨p, hp, e⟩ := List.mem_map.mp hk
  exact h k (List.mem_map.mpr ⟨p, (List.mem_filter.mp hp).1, e⟩)
theorem recs_le {s : HS} {keys : List Str} (w : s.Wf) (h : s.keysIn keys) : s.recs.length ≤ keys.length := by
  have h1 : (keysA s.recs).length ≤ keys.length := w.nd.length_le_of_subset h
  unfold keysA at h1
  rw [List.length_map] at h1
  exact h1
end KW

/-! the clock; what the laws' deeds do -/
namespace KW
open PySem PySem.Spec PyProof.Rows L2 Evl
theorem step_no {goal : Int} {s : HS} {p : Int × Int} (h : ¬ p.1 ≤ goal) : HS.step goal s p = s := if_neg h
theorem step_yes {goal : Int} {s : HS} {p : Int × Int} (h : p.1 ≤ goal) : HS.step goal s p = ({ s with now := p.1 } : HS).endL p.2 := if_pos h
theorem keysOf_now (s : HS) (n l : Int) : ({ s with now := n } : HS).keysOf l = s.keysOf l := rfl
theorem wf_now {s : HS} (h : s.Wf) (n : Int) : ({ s with now := n } : HS).Wf := ⟨h.ndo, h.chain, h.eq, h.sorted, h.bnd, h.b0, h.bl⟩
theorem endL_now_recs (s : HS) (n l : Int) : (({ s with now := n } : HS).endL l).recs = (s.endL l).recs := by rw [endL_recs, endL_recs]; rfl
/-- keys of the changes -/
def HS.logIn (s : HS) (keys : List Str) : Prop := ∀ e ∈ s.log, e.deed.key ∈ keys
theorem logIn_write {s : HS} {keys : List Str} (h : s.logIn keys) {ds : List Deed} (hd : ∀ d ∈ ds, d.key ∈ keys) : (s.write ds).logIn keys := by
  unfold HS.logIn
  rw [write_log]
  intro e he
  rcases List.mem_append.mp he with he | he
  · exact h e he
  · obtain ⟨d, hd', rfl⟩ := List.mem_map.mp he
    exact hd d (List.mem_filter.mp hd').1
theorem logIn_endL {s : HS} {keys : List Str} (h : s.logIn keys) (hk : s.keysIn keys) (l : Int) : (s.endL l).logIn keys := by
  unfold HS.logIn
  rw [endL_log]
  intro e he
  rcases List.mem_append.mp he with he | he
  · exact h e he
  · obtain ⟨k, hd', rfl⟩ := List.mem_map.mp he
    exact hk k (lookA_some.mp (keysOf_has hd'))
/-- no key is changed twice with one number -/
def HS.Strict (s : HS) : Prop := s.log.Pairwise fun a b => a.deed.key = b.deed.key → a.num < b.num
theorem strict_write {s : HS} (w : s.Wf) (h : s.Strict) {ds : List Deed} (hn : (ds.map Deed.key).Nodup) : (s.write ds).Strict := by
  unfold HS.Strict
  rw [write_log]
  refine List.pairwise_append.mpr ⟨h, ?_, fun a ha b hb _ => ?_⟩
  · refine List.pairwise_map.mpr ?_
    have hr := real_nodup (rs := s.recs) hn
    exact (List.pairwise_map.mp hr).imp fun h1 h2 => absurd h2 h1
  · obtain ⟨d, _, rfl⟩ := List.mem_map.mp hb
    have := (w.bnd a ha).2
    show a.num < s.last + 1
    omega
theorem strict_endL {s : HS} (w : s.Wf) (h : s.Strict) (l : Int) : (s.endL l).Strict := strict_write (ds := (s.keysOf l).map Deed.drop) w h (by rw [drops_keys]; exact keysOf_nodup w l)
/-- a number more has a change more -/
theorem cnt_write (s : HS) (ds : List Deed) : (s.write ds).last - s.last ≤ ((s.write ds).log.length : Int) - s.log.length := by
  rw [write_last, write_log, List.length_append, List.length_map]
  split
  · omega
  · rename_i h
    have := List.length_pos_iff.mpr h
    omega
theorem cnt_endL (s : HS) (l : Int) : (s.endL l).last - s.last ≤ ((s.endL l).log.length : Int) - s.log.length := cnt_write s _
/-- what the folding of a wait keeps -/
structure WaitKeeps (goal : Int) (ps : List (Int × Int)) (s s' : HS) : Prop where
  wf : s'.Wf
  mu : s'.mu ≤ s.mu
  len : s'.recs.length ≤ s.recs.length
  keys : ∀ ks, s.keysIn ks → s'.keysIn ks
  ends : s'.ends = s.ends.filter fun e => !(ps.any fun p => decide (p.1 ≤ goal) && decide (p.2 = e.1))
  granted : s'.granted = s.granted
  old : s'.old = s.old
  base : s'.base = s.base
  spans : s'.spans = s.spans
  cut : s'.cut = s.cut
  recl : leasesIn s.recs (· ∈ keysA s.ends) → leasesIn s'.recs (· ∈ keysA s'.ends)
  logk : ∀ ks, s.keysIn ks → s.logIn ks → s'.logIn ks
  st : s.Strict → s'.Strict
  cnt : s'.last - s.last ≤ (s'.log.length : Int) - s.log.length
theorem wait_fold (goal : Int) : ∀ (ps : List (Int × Int)) (s : HS), s.Wf → WaitKeeps goal ps s (ps.foldl (HS.step goal) s)
  | [], s, h => ⟨h, Nat.le_refl _, Nat.le_refl _, fun _ z => z, (List.filter_eq_self.mpr fun e _ => rfl).symm, rfl, rfl, rfl, rfl, rfl, fun z => z, fun _ _ z => z, fun z => z, (by show s.last - s.last ≤ (s.log.length : Int) - s.log.length; omega)⟩
  | p :: r, s, h => by
    rw [List.foldl_cons]
    by_cases hp : p.1 ≤ goal
    · rw [step_yes hp]
      have w1 := wf_now h p.1
      have w2 := wf_endL w1 p.2
      have m2 := mu_endL w1 p.2
      obtain ⟨e1, e2, e3, e4, e5, e6, e7⟩ := endL_same ({ s with now := p.1 } : HS) p.2
      have ih := wait_fold goal r _ w2
      refine ⟨ih.wf, Nat.le_trans ih.mu m2.1, Nat.le_trans ih.len m2.2, fun ks hk => ih.keys ks (keysIn_endL (s := ({ s with now := p.1 } : HS)) hk p.2), ?_, ih.granted.trans e4, ih.old.trans e1, ih.base.trans e2, ih.spans.trans e6, ih.cut.trans e7, fun hr => ih.recl ?_, fun ks hk hl => ih.logk ks (keysIn_endL (s := ({ s with now := p.1 } : HS)) hk p.2) (logIn_endL (s := ({ s with now := p.1 } : HS)) hl hk p.2), fun hst => ih.st (strict_endL (s := ({ s with now := p.1 } : HS)) w1 hst p.2), ?_⟩
      · rw [ih.ends, e3]
        unfold dropA
        rw [List.filter_filter]
        refine List.filter_congr fun e _ => ?_
        rw [List.any_cons]
        by_cases z : p.2 = e.1
        · simp [z, hp]
        · have z' : e.1 ≠ p.2 := fun q => z q.symm
          simp [z, z']
      · intro k q hk j hj
        obtain ⟨h6, h7⟩ := endL_lease hk
        rw [e3]
        exact keysA_dropA.mpr ⟨fun e => h7 (by rw [hj, e]), hr k q h6 j hj⟩
      · have h1 := ih.cnt
        have h2 := cnt_endL ({ s with now := p.1 } : HS) p.2
        have h3 : ({ s with now := p.1 } : HS).last = s.last := rfl
        have h4 : ({ s with now := p.1 } : HS).log.length = s.log.length := rfl
        rw [h3, h4] at h2
        omega
    · rw [step_no hp]
      have ih := wait_fold goal r s h
      refine ⟨ih.wf, ih.mu, ih.len, ih.keys, ?_, ih.granted, ih.old, ih.base, ih.spans, ih.cut, ih.recl, ih.logk, ih.st, ih.cnt⟩
      rw [ih.ends]
      refine List.filter_congr fun e _ => ?_
      rw [List.any_cons]
      simp [hp]
theorem due_any {s : HS} (nd : (keysA s.ends).Nodup) (goal : Int) {e : Int × (Int × Int)} (he : e ∈ s.ends) : (s.due.any fun p => decide (p.1 ≤ goal) && decide (p.2 = e.1)) = decide (e.2.2 ≤ goal) := by
  rw [Bool.eq_iff_iff, List.any_eq_true, decide_eq_true_iff]
  constructor
  · rintro ⟨p, hp, h⟩
    rw [Bool.and_eq_true, decide_eq_true_iff, decide_eq_true_iff] at h
    obtain ⟨e', he', rfl⟩ := mem_due.mp hp
    have h1 := lookA_of_mem nd (k := e.1) (r := e.2) he
    have h2 := lookA_of_mem nd (k := e'.1) (r := e'.2) he'
    have h3 : e'.1 = e.1 := h.2
    rw [h3, h1] at h2
    rw [Option.some.inj h2]
    exact h.1
  · intro h
    exact ⟨(e.2.2, e.1), mem_due.mpr ⟨e, he, rfl⟩, by simp [h]⟩
theorem wait_ends {s : HS} (w : s.Wf) (h : s.Lw) (n : Int) : (s.wait n).ends = s.ends.filter fun e => decide (s.now + n < e.2.2) := by
  show (s.due.foldl (HS.step (s.now + n)) s).ends = _
  rw [(wait_fold (s.now + n) s.due s w).ends]
  refine List.filter_congr fun e he => ?_
  rw [due_any h.nd _ he]
  by_cases z : e.2.2 ≤ s.now + n
  · simp [z]
  · simp [z]; omega
theorem wf_wait {s : HS} (w : s.Wf) (n : Int) : (s.wait n).Wf := wf_now (wait_fold (s.now + n) s.due s w).wf _
theorem lw_wait {s : HS} (w : s.Wf) (h : s.Lw) {n : Int} (hn : 1 ≤ n) : (s.wait n).Lw := by
  have f := wait_fold (s.now + n) s.due s w
  have he := wait_ends w h n
  have hs : ∀ l, l ∈ keysA (s.wait n).ends → l ∈ keysA s.ends := fun l hl => by
    rw [he] at hl
    obtain ⟨p, hp, e⟩ := List.mem_map.mp hl
    exact List.mem_map.mpr ⟨p, (List.mem_filter.mp hp).1, e⟩
  have hg : (s.wait n).granted = s.granted := f.granted
  refine ⟨?_, fun l hl => by rw [hg]; exact h.pos l (hs l hl), by rw [hg]; exact h.g0, ?_, fun e hm => ?_, f.recl h.recl⟩
  · rw [he]
    exact h.nd.sublist (List.Sublist.map _ List.filter_sublist)
  · have := h.n0
    show 0 ≤ s.now + n
    omega
  · rw [he] at hm
    obtain ⟨h1, h2⟩ := List.mem_filter.mp hm
    have h3 := h.trm e h1
    have h4 := of_decide_eq_true h2
    exact ⟨h3.1, h3.2.1, h4, by show e.2.2 ≤ s.now + n + e.2.1; omega⟩
/-! ### the laws' deeds -/
inductive LDeed where
  | one (d : Deed)
  | deal (cs : List Cond) (ts os : List Deed)
  | grant (t : Int)
  | wait (n : Int)
  | renew (l : Int)
  | give (l : Int)
  deriving DecidableEq
def HS.act (s : HS) : LDeed → HS
  | .one d => s.write [d]
  | .deal cs ts os => s.deal cs ts os
  | .grant t => s.grant t
  | .wait n => s.wait n
  | .renew l => s.renew l
  | .give l => s.endL l
def HS.told (s : HS) : LDeed → V
  | .one (.put _ _ _) => .int (s.last + 1)
  | .one (.drop k) => .bl (hasR s.recs k)
  | .deal cs _ _ => .bl (s.good cs)
  | .grant _ => .int (s.granted + 1)
  | _ => .non
def condsOk (cs : List Cond) : Prop := cs.length ≤ 4 ∧ ∀ c ∈ cs, c.ok ∧ c.depth ≤ 3
/-- a deed that a house takes -/
def LDeed.ok (s : HS) : LDeed → Prop
  | .one d => d.okD ∧ leaseOk s d.lease
  | .deal cs ts os => condsOk cs ∧ deedsOk ts ∧ deedsOk os ∧ s.alive ts ∧ s.alive os
  | .grant t => 1 ≤ t ∧ t ≤ 99
  | .wait n => 1 ≤ n ∧ n ≤ 99
  | .renew l => 1 ≤ l ∧ l ∈ keysA s.ends
  | .give l => 1 ≤ l ∧ l ∈ keysA s.ends
def LDeed.keysIn (keys : List Str) : LDeed → Prop
  | .one d => d.key ∈ keys
  | .deal _ ts os => (∀ d ∈ ts, d.key ∈ keys) ∧ ∀ d ∈ os, d.key ∈ keys
  | _ => True
theorem pick_deal (s : HS) (cs : List Cond) {ts os : List Deed} {P : List Deed → Prop} (h1 : P ts) (h2 : P os) : P (if s.good cs = true then ts else os) := by
  split
  · exact h1
  · exact h2
structure HS.All (s : HS) : Prop where
  wf : s.Wf
  lw : s.Lw
  st : s.Strict
theorem all_new : HS.new.All := ⟨wf_new, lw_new, List.Pairwise.nil⟩
theorem all_act {s : HS} (h : s.All) {d : LDeed} (hd : d.ok s) : (s.act d).All := by
  cases d with
  | one d => exact ⟨wf_write h.wf (by simp), lw_write h.lw fun x hx => by
      rw [List.mem_singleton] at hx
      rw [hx]
      exact hd.2, strict_write h.wf h.st (by simp)⟩
  | deal cs ts os =>
    obtain ⟨h1, h2, h3, h4, h5⟩ := hd
    exact ⟨wf_write h.wf (pick_deal s cs (P := fun ds => (ds.map Deed.key).Nodup) h2.2.2 h3.2.2), lw_write h.lw (pick_deal s cs (P := fun ds => s.alive ds) h4 h5), strict_write h.wf h.st (pick_deal s cs (P := fun ds => (ds.map Deed.key).Nodup) h2.2.2 h3.2.2)⟩
  | grant t => exact ⟨wf_ends h.wf _ _ _, lw_grant h.lw hd.1 hd.2, h.st⟩
  | wait n => exact ⟨wf_wait h.wf n, lw_wait h.wf h.lw hd.1, (wait_fold (s.now + n) s.due s h.wf).st h.st⟩
  | renew l => exact ⟨wf_ends h.wf _ _ _, lw_renew h.lw hd.2, h.st⟩
  | give l => exact ⟨wf_endL h.wf l, lw_endL h.lw l, strict_endL h.wf h.st l⟩
theorem keysIn_act {s : HS} (w : s.Wf) {keys : List Str} (h : s.keysIn keys) {d : LDeed} (hd : d.keysIn keys) : (s.act d).keysIn keys := by
  cases d with
  | one d =>
    refine keysIn_write h fun x hx => ?_
    rw [List.mem_singleton] at hx
    rw [hx]
    exact hd
  | deal cs ts os => exact keysIn_write h (pick_deal s cs (P := fun ds => ∀ d ∈ ds, d.key ∈ keys) hd.1 hd.2)
  | grant t => exact h
  | wait n => exact (wait_fold (s.now + n) s.due s w).keys keys h
  | renew l => exact h
  | give l => exact keysIn_endL h l
theorem logIn_act {s : HS} (w : s.Wf) {keys : List Str} (h : s.logIn keys) (hk : s.keysIn keys) {d : LDeed} (hd : d.keysIn keys) : (s.act d).logIn keys := by
  cases d with
  | one d =>
    refine logIn_write h fun x hx => ?_
    rw [List.mem_singleton] at hx
    rw [hx]
    exact hd
  | deal cs ts os => exact logIn_write h (pick_deal s cs (P := fun ds => ∀ d ∈ ds, d.key ∈ keys) hd.1 hd.2)
  | grant t => exact h
  | wait n => exact (wait_fold (s.now + n) s.due s w).logk keys hk h
  | renew l => exact h
  | give l => exact logIn_endL h hk l
theorem mu_act {s : HS} (w : s.Wf) {d : LDeed} (hd : d.ok s) : (s.act d).mu ≤ s.mu + 8 := by
  cases d with
  | one d =>
    have := mu_write s [d]
    simp only [List.length_cons, List.length_nil] at this
    show (s.write [d]).mu ≤ _
    omega
  | deal cs ts os =>
    have h1 := mu_write s (if s.good cs = true then ts else os)
    have h2 := pick_deal s cs (P := fun ds => ds.length ≤ 4) hd.2.1.1 hd.2.2.1.1
    show (s.write _).mu ≤ _
    omega
  | grant t => exact Nat.le_add_right _ _
  | wait n => exact Nat.le_trans (wait_fold (s.now + n) s.due s w).mu (Nat.le_add_right _ _)
  | renew l => exact Nat.le_add_right _ _
  | give l => exact Nat.le_trans (mu_endL w l).1 (Nat.le_add_right _ _)
theorem cnt_act {s : HS} (w : s.Wf) (d : LDeed) : (s.act d).last - s.last ≤ ((s.act d).log.length : Int) - s.log.length := by
  cases d with
  | one d => exact cnt_write s [d]
  | deal cs ts os => exact cnt_write s _
  | grant t =>
    show s.last - s.last ≤ (s.log.length : Int) - s.log.length
    omega
  | wait n => exact (wait_fold (s.now + n) s.due s w).cnt
  | renew l =>
    show s.last - s.last ≤ (s.log.length : Int) - s.log.length
    omega
  | give l => exact cnt_endL s l
theorem putA_len {κ α : Type} [DecidableEq κ] (rs : List (κ × α)) (k : κ) (r : α) : (putA rs k r).length ≤ rs.length + 1 := by
  unfold putA
  split
  · rw [List.length_map]
    exact Nat.le_succ _
  · rw [List.length_append]
    exact Nat.le_refl _
theorem ends_act {s : HS} (w : s.Wf) (d : LDeed) : (s.act d).ends.length ≤ s.ends.length + 1 := by
  cases d with
  | one d =>
    show (s.write [d]).ends.length ≤ _
    rw [(write_same s _).2.2.1]
    exact Nat.le_succ _
  | deal cs ts os =>
    show (s.write _).ends.length ≤ _
    rw [(write_same s _).2.2.1]
    exact Nat.le_succ _
  | grant t => exact putA_len _ _ _
  | wait n =>
    show (s.due.foldl _ s).ends.length ≤ _
    rw [(wait_fold (s.now + n) s.due s w).ends]
    exact Nat.le_trans (List.length_filter_le _ _) (Nat.le_succ _)
  | renew l => exact putA_len _ _ _
  | give l =>
    show (dropA s.ends l).length ≤ _
    unfold dropA
    exact Nat.le_trans (List.length_filter_le _ _) (Nat.le_succ _)
/-- what deeds leave as it is -/
theorem act_same {s : HS} (w : s.Wf) (d : LDeed) : (s.act d).old = s.old ∧ (s.act d).base = s.base ∧ (s.act d).spans = s.spans ∧ (s.act d).cut = s.cut := by
  cases d with
  | one d =>
    obtain ⟨h1, h2, _, _, _, h6, h7⟩ := write_same s [d]
    exact ⟨h1, h2, h6, h7⟩
  | deal cs ts os =>
    obtain ⟨h1, h2, _, _, _, h6, h7⟩ := write_same s (if s.good cs = true then ts else os)
    exact ⟨h1, h2, h6, h7⟩
  | grant t => exact ⟨rfl, rfl, rfl, rfl⟩
  | wait n =>
    have f := wait_fold (s.now + n) s.due s w
    exact ⟨f.old, f.base, f.spans, f.cut⟩
  | renew l => exact ⟨rfl, rfl, rfl, rfl⟩
  | give l =>
    obtain ⟨h1, h2, _, _, _, h6, h7⟩ := endL_same s l
    exact ⟨h1, h2, h6, h7⟩
/-! ### what the laws draw -/
def lawLease (ns : List Int) (at_ : Int) (ls : List Int) : Option Int :=
  if ls = [] ∨ mixed ns at_ 2 = 0 then none else some (ls.getD (mixed ns (at_ + 1) (ls.length : Int)).toNat 0)
def lawDeed1 (ns : List Int) (at_ : Int) (key : Str) (ls : List Int) : Deed :=
  if mixed ns at_ 3 = 0 then .drop key
  else .put key (if mixed ns (at_ + 2) 2 = 0 then mixed ns (at_ + 1) 10000 else mixed ns (at_ + 1) 3) (lawLease ns (at_ + 3) ls)
def lawCond (ns : List Int) (at_ : Int) (keys : List Str) (number : Int) : Cond :=
  let key := pick keys (mixed ns (at_ + 1) (keys.length : Int))
  let kind := mixed ns at_ 6
  if kind = 0 then .value key (mixed ns (at_ + 2) 3)
  else if kind = 1 then .version key (mixed ns (at_ + 2) 3)
  else if kind = 2 then .changed key (mixed ns (at_ + 2) (number + 2))
  else if kind = 3 then .less key (mixed ns (at_ + 2) (number + 2))
  else if kind = 4 then .neg (.changed key 0)
  else .neg (.neg (.value key (mixed ns (at_ + 2) 3)))
/-- each once, in the order of the first places -/
def onceS (xs : List Str) : List Str := keysA (xs.foldl (fun acc x => putA acc x ()) [])
def turned (keys : List Str) (t : Int) : List Str := keys.drop t.toNat ++ keys.take t.toNat
def lawDeeds (ns : List Int) (at_ : Int) (keys : List Str) (ls : List Int) : List Deed :=
  let names := onceS (turned keys (mixed ns at_ (keys.length : Int)))
  (names.take (mixed ns (at_ + 1) 5).toNat).zipIdx.map fun q => lawDeed1 ns (at_ + 2 + 8 * (q.2 : Int)) q.1 ls
def lawConds (ns : List Int) (at_ : Int) (keys : List Str) (number : Int) (n : Nat) : List Cond := (List.range n).map fun k : Nat => lawCond ns (at_ + 5 * (k : Int)) keys number
def lawDeed (ns : List Int) (at_ : Int) (keys : List Str) (ls : List Int) (number : Int) : LDeed :=
  let kind := mixed ns at_ 20
  if kind < 8 ∧ 0 < mixed ns (at_ + 1) 3 then .one (lawDeed1 ns (at_ + 2) (pick keys (mixed ns (at_ + 10) (keys.length : Int))) ls)
  else if kind < 13 then .deal (lawConds ns (at_ + 60) keys number (mixed ns (at_ + 11) 3).toNat) (lawDeeds ns (at_ + 12) keys ls) (lawDeeds ns (at_ + 80) keys ls)
  else if kind < 15 then .grant (1 + if mixed ns (at_ + 2) 2 = 0 then mixed ns (at_ + 1) 5 else mixed ns (at_ + 1) 99)
  else if kind < 17 ∨ ls = [] then .wait (1 + if mixed ns (at_ + 2) 4 / 3 = 0 then mixed ns (at_ + 1) 4 else mixed ns (at_ + 1) 99)
  else
    let l := ls.getD (mixed ns (at_ + 1) (ls.length : Int)).toNat 0
    if kind = 18 then .give l else .renew l

/-! ### what is drawn is in order -/
theorem getD_mem {xs : List Int} {i : Int} (h0 : 0 ≤ i) (h1 : i < (xs.length : Int)) : xs.getD i.toNat 0 ∈ xs := by
  have hl : i.toNat < xs.length := by omega
  rw [List.getD_eq_getElem?_getD, List.getElem?_eq_getElem hl]
  exact List.getElem_mem hl
theorem len_pos {α : Type} {xs : List α} (h : xs ≠ []) : 0 < (xs.length : Int) := by
  have := List.length_pos_iff.mpr h
  omega
theorem lawLease_mem (ns : List Int) (at_ : Int) (ls : List Int) : ∀ i, lawLease ns at_ ls = some i → i ∈ ls := by
  intro i h
  unfold lawLease at h
  split at h
  · cases h
  · rename_i hn
    have hp := len_pos (fun z => hn (.inl z))
    rw [← Option.some.inj h]
    exact getD_mem (mixed_nn _ _ hp) (mixed_lt _ _ hp)
theorem lawDeed1_key (ns : List Int) (at_ : Int) (key : Str) (ls : List Int) : (lawDeed1 ns at_ key ls).key = key := by
  unfold lawDeed1
  split <;> rfl
theorem lawDeed1_lease (ns : List Int) (at_ : Int) (key : Str) (ls : List Int) : ∀ i, (lawDeed1 ns at_ key ls).lease = some i → i ∈ ls := by
  intro i h
  unfold lawDeed1 at h
  split at h
  · cases h
  · exact lawLease_mem _ _ _ i h
theorem lawDeed1_ok (ns : List Int) (at_ : Int) {key : Str} {ls : List Int} (hk : isKey key = true) (hl : ∀ i ∈ ls, 1 ≤ i) : (lawDeed1 ns at_ key ls).okD := by
  unfold lawDeed1
  split
  · exact hk
  · refine ⟨hk, ?_, ?_, fun i hi => hl i (lawLease_mem _ _ _ i hi)⟩
    · split
      · exact mixed_nn _ _ (by decide)
      · exact mixed_nn _ _ (by decide)
    · split
      · have := mixed_lt ns (at_ + 1) (m := 10000) (by decide)
        omega
      · have := mixed_lt ns (at_ + 1) (m := 3) (by decide)
        omega
theorem lawCond_ok (ns : List Int) (at_ : Int) {keys : List Str} {number : Int} (hk : ∀ x ∈ keys, isKey x = true) (h0 : 0 < keys.length) (hn : 0 ≤ number) : (lawCond ns at_ keys number).ok ∧ (lawCond ns at_ keys number).depth ≤ 3 := by
  have hp : 0 < (keys.length : Int) := by omega
  have hkey := hk _ (pick_mem (mixed_nn ns (at_ + 1) hp) (mixed_lt ns (at_ + 1) hp))
  have a1 := mixed_nn ns (at_ + 2) (m := 3) (by decide)
  have a2 := mixed_lt ns (at_ + 2) (m := 3) (by decide)
  have a3 := mixed_nn ns (at_ + 2) (m := number + 2) (by omega)
  unfold lawCond
  dsimp only
  split
  · exact ⟨⟨hkey, a1, by omega⟩, show 1 ≤ 3 by decide⟩
  · split
    · exact ⟨⟨hkey, a1⟩, show 1 ≤ 3 by decide⟩
    · split
      · exact ⟨⟨hkey, a3⟩, show 1 ≤ 3 by decide⟩
      · split
        · exact ⟨⟨hkey, a3⟩, show 1 ≤ 3 by decide⟩
        · split
          · exact ⟨⟨hkey, Int.le_refl _⟩, show 2 ≤ 3 by decide⟩
          · exact ⟨⟨hkey, a1, by omega⟩, show 3 ≤ 3 by decide⟩
theorem fold_put_nodup : ∀ (xs : List Str) (acc : List (Str × Unit)), (keysA acc).Nodup → (keysA (xs.foldl (fun acc x => putA acc x ()) acc)).Nodup
  | [], _, h => h
  | x :: r, acc, h => fold_put_nodup r _ (nodup_putA h x ())
theorem fold_put_mem : ∀ (xs : List Str) (acc : List (Str × Unit)) (k : Str), k ∈ keysA (xs.foldl (fun acc x => putA acc x ()) acc) ↔ k ∈ keysA acc ∨ k ∈ xs
  | [], acc, k => by simp
  | x :: r, acc, k => by
    rw [List.foldl_cons, fold_put_mem r, keysA_putA, List.mem_cons]
    constructor
    · rintro ((h | h) | h)
      · exact .inr (.inl h)
      · exact .inl h
      · exact .inr (.inr h)
    · rintro (h | h | h)
      · exact .inl (.inr h)
      · exact .inl (.inl h)
      · exact .inr h
theorem onceS_nodup (xs : List Str) : (onceS xs).Nodup := fold_put_nodup xs [] List.nodup_nil
theorem mem_onceS {xs : List Str} {k : Str} : k ∈ onceS xs ↔ k ∈ xs := by
  unfold onceS
  rw [fold_put_mem]
  simp [keysA]
theorem mem_turned {keys : List Str} {t : Int} {k : Str} : k ∈ turned keys t ↔ k ∈ keys := by
  unfold turned
  rw [List.mem_append]
  constructor
  · rintro (h | h)
    · exact List.mem_of_mem_drop h
    · exact List.mem_of_mem_take h
  · intro h
    rw [← List.take_append_drop t.toNat keys, List.mem_append] at h
    exact h.symm
theorem zip_keys (ns : List Int) (at_ : Int) (ls : List Int) : ∀ (xs : List Str) (i : Nat), ((xs.zipIdx i).map fun q => lawDeed1 ns (at_ + 2 + 8 * (q.2 : Int)) q.1 ls).map Deed.key = xs
  | [], _ => rfl
  | x :: r, i => by
    rw [List.zipIdx_cons, List.map_cons, List.map_cons, zip_keys ns at_ ls r (i + 1), lawDeed1_key]
theorem lawDeeds_ok (ns : List Int) (at_ : Int) {keys : List Str} {ls : List Int} (hk : ∀ x ∈ keys, isKey x = true) (hl : ∀ i ∈ ls, 1 ≤ i) : deedsOk (lawDeeds ns at_ keys ls) := by
  have a1 := mixed_lt ns (at_ + 1) (m := 5) (by decide)
  refine ⟨?_, fun d hd => ?_, ?_⟩
  · unfold lawDeeds
    dsimp only
    rw [List.length_map, List.length_zipIdx, List.length_take]
    omega
  · obtain ⟨q, hq, rfl⟩ := List.mem_map.mp hd
    refine lawDeed1_ok _ _ (hk _ ?_) hl
    have h1 := (List.mem_zipIdx hq).2.2
    have h2 : q.1 ∈ List.take (mixed ns (at_ + 1) 5).toNat (onceS (turned keys (mixed ns at_ (keys.length : Int)))) := by
      rw [h1]
      exact List.getElem_mem _
    exact mem_turned.mp (mem_onceS.mp (List.mem_of_mem_take h2))
  · unfold lawDeeds
    dsimp only
    rw [zip_keys]
    exact (onceS_nodup _).sublist (List.take_sublist _ _)
theorem lawDeeds_in (ns : List Int) (at_ : Int) (keys : List Str) (ls : List Int) : ∀ d ∈ lawDeeds ns at_ keys ls, d.key ∈ keys ∧ ∀ i, d.lease = some i → i ∈ ls := by
  intro d hd
  obtain ⟨q, hq, rfl⟩ := List.mem_map.mp hd
  refine ⟨?_, lawDeed1_lease _ _ _ _⟩
  rw [lawDeed1_key]
  have h1 := (List.mem_zipIdx hq).2.2
  have h2 : q.1 ∈ List.take (mixed ns (at_ + 1) 5).toNat (onceS (turned keys (mixed ns at_ (keys.length : Int)))) := by
    rw [h1]
    exact List.getElem_mem _
  exact mem_turned.mp (mem_onceS.mp (List.mem_of_mem_take h2))
theorem lawConds_ok (ns : List Int) (at_ : Int) {keys : List Str} {number : Int} {n : Nat} (hk : ∀ x ∈ keys, isKey x = true) (h0 : 0 < keys.length) (hn : 0 ≤ number) (h4 : n ≤ 4) : condsOk (lawConds ns at_ keys number n) := by
  refine ⟨?_, fun c hc => ?_⟩
  · unfold lawConds
    rw [List.length_map, List.length_range]
    exact h4
  · obtain ⟨k, _, rfl⟩ := List.mem_map.mp hc
    exact lawCond_ok _ _ hk h0 hn
theorem mem_leases {s : HS} {i : Int} : i ∈ s.leases ↔ i ∈ keysA s.ends := mem_sortI
theorem lawDeeds_alive {s : HS} (h : s.Lw) (ns : List Int) (at_ : Int) (keys : List Str) : s.alive (lawDeeds ns at_ keys s.leases) := fun d hd i hi => by
  have h1 := mem_leases.mp ((lawDeeds_in _ _ _ _ d hd).2 i hi)
  exact ⟨(h.pos i h1).1, h1⟩
theorem leases_pos {s : HS} (h : s.Lw) : ∀ i ∈ s.leases, 1 ≤ i := fun i hi => (h.pos i (mem_leases.mp hi)).1
theorem lawDeed_ok {s : HS} (h : s.All) (ns : List Int) (at_ : Int) {keys : List Str} (hk : ∀ x ∈ keys, isKey x = true) (h0 : 0 < keys.length) : (lawDeed ns at_ keys s.leases s.last).ok s ∧ (lawDeed ns at_ keys s.leases s.last).keysIn keys := by
  have hp : 0 < (keys.length : Int) := by omega
  have hpos := leases_pos h.lw
  have hn : 0 ≤ s.last := by
    have h1 := h.wf.b0
    have h2 := h.wf.bl
    omega
  have a1 := mixed_lt ns (at_ + 11) (m := 3) (by decide)
  unfold lawDeed
  dsimp only
  split
  · have hm := pick_mem (xs := keys) (mixed_nn ns (at_ + 10) hp) (mixed_lt ns (at_ + 10) hp)
    refine ⟨⟨lawDeed1_ok _ _ (hk _ hm) hpos, fun i hi => ?_⟩, ?_⟩
    · have h1 := mem_leases.mp (lawDeed1_lease _ _ _ _ i hi)
      exact ⟨(h.lw.pos i h1).1, h1⟩
    · show (lawDeed1 _ _ _ _).key ∈ keys
      rw [lawDeed1_key]
      exact hm
  · split
    · exact ⟨⟨lawConds_ok _ _ hk h0 hn (by omega), lawDeeds_ok _ _ hk hpos, lawDeeds_ok _ _ hk hpos, lawDeeds_alive h.lw _ _ _, lawDeeds_alive h.lw _ _ _⟩, fun d hd => (lawDeeds_in _ _ _ _ d hd).1, fun d hd => (lawDeeds_in _ _ _ _ d hd).1⟩
    · split
      · refine ⟨?_, trivial⟩
        have b1 := mixed_nn ns (at_ + 1) (m := 5) (by decide)
        have b2 := mixed_lt ns (at_ + 1) (m := 5) (by decide)
        have b3 := mixed_nn ns (at_ + 1) (m := 99) (by decide)
        have b4 := mixed_lt ns (at_ + 1) (m := 99) (by decide)
        show 1 ≤ 1 + _ ∧ 1 + _ ≤ 99
        split <;> omega
      · split
        · refine ⟨?_, trivial⟩
          have b1 := mixed_nn ns (at_ + 1) (m := 4) (by decide)
          have b2 := mixed_lt ns (at_ + 1) (m := 4) (by decide)
          have b3 := mixed_nn ns (at_ + 1) (m := 99) (by decide)
          have b4 := mixed_lt ns (at_ + 1) (m := 99) (by decide)
          show 1 ≤ 1 + _ ∧ 1 + _ ≤ 99
          split <;> omega
        · rename_i hne
          have hlp := len_pos (fun z => hne (.inr z))
          have hm := getD_mem (xs := s.leases) (mixed_nn ns (at_ + 1) hlp) (mixed_lt ns (at_ + 1) hlp)
          split
          · exact ⟨⟨hpos _ hm, mem_leases.mp hm⟩, trivial⟩
          · exact ⟨⟨hpos _ hm, mem_leases.mp hm⟩, trivial⟩
/-! ### a house that is driven -/
def HS.next (ns : List Int) (at_ : Int) (keys : List Str) (s : HS) (k : Nat) : HS := s.act (lawDeed ns (at_ + 130 * (k : Int)) keys s.leases s.last)
def driven (ns : List Int) (at_ : Int) (keys : List Str) (s : HS) : Nat → HS
  | 0 => s
  | n + 1 => (driven ns at_ keys s n).next ns at_ keys n
def drivenD (ns : List Int) (at_ : Int) (keys : List Str) (s : HS) (k : Nat) : LDeed := lawDeed ns (at_ + 130 * (k : Int)) keys (driven ns at_ keys s k).leases (driven ns at_ keys s k).last
def drivenR (ns : List Int) (at_ : Int) (keys : List Str) (s : HS) (n : Nat) : List (LDeed × V) := (List.range n).map fun k => (drivenD ns at_ keys s k, (driven ns at_ keys s k).told (drivenD ns at_ keys s k))
structure HS.Fit (s : HS) (ks : List Str) (n : Nat) : Prop where
  all : s.All
  keys : s.keysIn ks
  mu : s.mu ≤ 8 * n
  ends : s.ends.length ≤ n
  logk : s.logIn ks
  cnt : s.last ≤ ((8 + ks.length) * n : Nat)
theorem fit_new (keys : List Str) : HS.new.Fit keys 0 := ⟨all_new, (fun k h => nomatch h), Nat.le_refl _, Nat.le_refl _, (fun e h => nomatch h), by simp [HS.new]⟩
theorem fit_act {s : HS} {keys : List Str} {n : Nat} (h : s.Fit keys n) {d : LDeed} (hd : d.ok s) (hk : d.keysIn keys) : (s.act d).Fit keys (n + 1) := by
  have h1 := mu_act h.all.wf hd
  have h2 := ends_act h.all.wf d
  have h3 := h.mu
  have h4 := h.ends
  have h9 : (s.act d).last ≤ ((8 + keys.length) * (n + 1) : Nat) := by
    have c1 := cnt_act h.all.wf d
    have c2 := h.cnt
    have c3 := recs_le h.all.wf h.keys
    unfold HS.mu at h1
    rw [Nat.mul_succ]
    omega
  exact ⟨all_act h.all hd, keysIn_act h.all.wf h.keys hk, by omega, by omega, logIn_act h.all.wf h.logk h.keys hk, h9⟩
theorem fit_more {s : HS} {keys : List Str} {n m : Nat} (h : s.Fit keys n) (hm : n ≤ m) : s.Fit keys m := by
  have h3 := h.mu
  have h4 := h.ends
  have h5 := h.cnt
  have h6 : (8 + keys.length) * n ≤ (8 + keys.length) * m := Nat.mul_le_mul_left _ hm
  exact ⟨h.all, h.keys, by omega, by omega, h.logk, by omega⟩
theorem fit_next {s : HS} {keys : List Str} {n : Nat} (h : s.Fit keys n) (hk : ∀ x ∈ keys, isKey x = true) (h0 : 0 < keys.length) (ns : List Int) (at_ : Int) (k : Nat) : (s.next ns at_ keys k).Fit keys (n + 1) := by
  obtain ⟨h1, h2⟩ := lawDeed_ok h.all ns (at_ + 130 * (k : Int)) hk h0
  exact fit_act h h1 h2
theorem fit_driven {s : HS} {keys : List Str} {n : Nat} (h : s.Fit keys n) (hk : ∀ x ∈ keys, isKey x = true) (h0 : 0 < keys.length) (ns : List Int) (at_ : Int) : ∀ k, (driven ns at_ keys s k).Fit keys (n + k)
  | 0 => h
  | k + 1 => fit_next (fit_driven h hk h0 ns at_ k) hk h0 ns at_ k
theorem driven_same {s : HS} {keys : List Str} {n : Nat} (h : s.Fit keys n) (hk : ∀ x ∈ keys, isKey x = true) (h0 : 0 < keys.length) (ns : List Int) (at_ : Int) : ∀ k, (driven ns at_ keys s k).old = s.old ∧ (driven ns at_ keys s k).base = s.base ∧ (driven ns at_ keys s k).spans = s.spans ∧ (driven ns at_ keys s k).cut = s.cut
  | 0 => ⟨rfl, rfl, rfl, rfl⟩
  | k + 1 => by
    obtain ⟨a1, a2, a3, a4⟩ := driven_same h hk h0 ns at_ k
    obtain ⟨b1, b2, b3, b4⟩ := act_same (fit_driven h hk h0 ns at_ k).all.wf (lawDeed ns (at_ + 130 * (k : Int)) keys (driven ns at_ keys s k).leases (driven ns at_ keys s k).last)
    exact ⟨b1.trans a1, b2.trans a2, b3.trans a3, b4.trans a4⟩
end KW

/-! House.write, the walk -/
namespace KW
open PySem PySem.Spec PyProof.Rows L2 Evl
theorem fm_ite {α : Type} (c : α → Bool) : ∀ xs : List α, xs.filterMap (fun d => if c d = true then some d else none) = xs.filter c
  | [] => rfl
  | x :: r => by
    rw [List.filterMap_cons, List.filter_cons, fm_ite c r]
    by_cases h : c x = true
    · rw [if_pos h, if_pos h]
    · rw [if_neg h, if_neg h]
theorem seq_lcP {α : Type} {σ : L2.St} {H : Hp} {te : TE} {P : Hp → V → α → Prop} {ys : List α} {i : Nat} {tw : TS} {D : Ends} (h : EvLP te σ H P ys) (k : ∀ p H2, H p = none → Ex H H2 → LsAt P H2 p ys → tw D (σ.set i (some (.ref p))) H2) : tSeq (tAsg te (gName i)) tw D σ H :=
  h H (Ex.refl H) _ k
theorem seq_app {K : PySem.W.Frag} {σ : L2.St} {H : Hp} {ta te : TE} {v : V} {tw : TS} {D : Ends} {l : Addr} {xs : List V} (hl : H l = some (.lst xs)) (ha : Ev ta σ H (.ref l)) (h : Ev te σ H v) (hz : xs.length < 100000) (k : ∀ H1, Ex H H1 → tw D σ (upd H1 l (.lst (xs ++ [v])))) :
    tSeq (tDrop (tBM K "list" rAppend ta (tCons te tNil))) tw D σ H := s_app (D := { D with nx := tw D }) hl ha h hz k
theorem drop_call {σ : L2.St} {H : Hp} {ta : TA} {sp : Sp} {dvs vs : List V} {E : XK} {D : Ends} (h : EvA ta σ H vs) (k : ∀ H1, Ex H H1 → sp (vs ++ dvs) H1 (fun _ H2 => D.nx σ H2) E) : tDrop (tCall sp dvs E ta) D σ H :=
  h H (Ex.refl H) _ fun H1 e => k H1 e
/-- data of a thing -/
def optD : Option Int → PyData
  | none => .none
  | some i => .int i
theorem dp_opt {K : PySem.W.Frag} {H : Hp} (o : Option Int) : Dp K H (optV o) (optD o) := by
  cases o with
  | none => exact .non
  | some i => exact .int i
/-- what is known of a list's items as data: flat tuples -/
def FlatV : V → PyData → Prop
  | .non, d => d = .none
  | .bl b, d => d = .bool b
  | .int i, d => d = .int i
  | .str x, d => d = .str x
  | _, _ => False
def flatD : V → PyData
  | .bl b => .bool b
  | .int i => .int i
  | .str x => .str x
  | _ => .none
def isFlat : V → Bool
  | .non => true
  | .bl _ => true
  | .int _ => true
  | .str _ => true
  | _ => false
theorem dp_flat {K : PySem.W.Frag} {H : Hp} {v : V} (h : isFlat v = true) : Dp K H v (flatD v) := by
  cases v with
  | non => exact .non
  | bl b => exact .bl b
  | int i => exact .int i
  | str x => exact .str x
  | _ => cases h
theorem dp_flats {K : PySem.W.Frag} {H : Hp} : ∀ {vs : List V}, vs.all isFlat = true → DpAll K H vs (vs.map flatD)
  | [], _ => .nil
  | v :: r, h => by
    rw [List.all_cons, Bool.and_eq_true] at h
    exact .cons (dp_flat h.1) (dp_flats h.2)
theorem plain_flat (v : V) : (flatD v).plain = true := by cases v <;> rfl
theorem depth_flat (v : V) : (flatD v).depth = 0 := by cases v <;> rfl
theorem plain_flats : ∀ vs : List V, PyData.plainAll (vs.map flatD) = true
  | [] => rfl
  | v :: r => by
    rw [List.map_cons, PyData.plainAll, plain_flat, plain_flats r]
    rfl
theorem depth_flats : ∀ vs : List V, PyData.depthAll (vs.map flatD) = 0
  | [] => rfl
  | v :: r => by
    rw [List.map_cons, PyData.depthAll, depth_flat, depth_flats r]
    rfl
theorem deed_flat (d : Deed) : (deedVs d).all isFlat = true := by
  cases d with
  | put k v l => cases l <;> rfl
  | drop k => rfl
def deedD (d : Deed) : PyData := .tuple ((deedVs d).map flatD)
theorem dp_deed {K : PySem.W.Frag} {H : Hp} {v : V} {d : Deed} (h : DeedV H v d) : Dp K H v (deedD d) := by
  obtain ⟨a, rfl, h⟩ := h
  exact .tup (st_of h) (dp_flats (deed_flat d))
theorem dp_deeds {K : PySem.W.Frag} {H : Hp} : ∀ {vs : List V} {ds : List Deed}, Paired (DeedV H) vs ds → DpAll K H vs (ds.map deedD)
  | _, _, .nil => .nil
  | _, _, .cons r t => .cons (dp_deed r) (dp_deeds t)
theorem plain_deeds : ∀ ds : List Deed, PyData.plainAll (ds.map deedD) = true
  | [] => rfl
  | d :: r => by
    rw [List.map_cons, PyData.plainAll, plain_deeds r]
    show (PyData.plainAll ((deedVs d).map flatD) && true) = true
    rw [plain_flats]
    rfl
theorem depth_deeds : ∀ ds : List Deed, PyData.depthAll (ds.map deedD) ≤ 1
  | [] => Nat.zero_le _
  | d :: r => by
    rw [List.map_cons, PyData.depthAll]
    refine Nat.max_le.mpr ⟨?_, depth_deeds r⟩
    show PyData.depthAll ((deedVs d).map flatD) + 1 ≤ 1
    rw [depth_flats]
    exact Nat.le_refl _
section
variable {K : PySem.W.Frag} {σ : L2.St} {H H' : Hp} {ta tb te tx td ty : TE} {p : Addr} {s : HS} {z : HCell}
theorem ev_neNil {l : Addr} {ds : List Deed} (ha : Ev ta σ H (.ref l)) (h : LsAt DeedV H l ds) : Ev (tOp (rNeP K) ta (tLst tNil)) σ H (.bl (!decide (ds = []))) := by
  refine ev_opL ha (el_lst ea_nil (by decide)) fun p H1 hp e => rv_val fun H2 e2 Q q => ?_
  obtain ⟨vs, h1, h2⟩ := h
  have h2' : Paired (DeedV H2) vs ds := pr_mono h2 fun a b q => DeedV.kt (Ex.kt (e.trans e2)) q
  refine ⟨.list (ds.map deedD), .list [], .lst (sq_of ((e.trans e2) l _ h1)) (dp_deeds h2'), .lst (sq_of (e2 p _ hp)) .nil, plain_deeds ds, rfl, ?_, ?_⟩
  · show PyData.depthAll _ + 1 ≤ 60
    have := depth_deeds ds
    omega
  · rw [eqv_nil]
    have : decide (ds.map deedD = []) = decide (ds = []) := by simp
    rw [this]
    exact q
theorem deed_0 (d : Deed) : atI (deedVs d) 0 = some (.str (if d.isPut then "put" else "drop")) := by
  cases d <;> rfl
theorem deed_1 (d : Deed) : atI (deedVs d) 1 = some (.str d.key) := by
  cases d <;> rfl
/-- the event's tuple -/
theorem evVs_eq (n : Int) (d : Deed) : evVs ⟨n, d⟩ = [.int n] ++ deedVs d ++ (if d.isPut then [] else [.non, .non]) := by
  cases d <;> rfl
end
section
variable {K : PySem.W.Frag} {vs : List V} {H : Hp} {Q : VK} {E : XK}
/-- (self.last,) + deed + (None, None) * int(deed[0] == 'drop') -/
theorem evp_event {σ : L2.St} {te tl : TE} {v : V} {n : Int} {d : Deed} (hl : Ev tl σ H (.int n)) (hv : Ev te σ H v) (hd : DeedV H v d) :
    EvP (tOp (rCatA K) (tOp (rCatA K) (tTup (tCons tl tNil)) te) (tOp (rRep01 K) (tTup (tCons (tC .non) (tCons (tC .non) tNil))) (tCB rInt1 (tCons (tOp rEq (tOp (rIxT K) te (tC (.int 0))) (tC (.str "drop"))) tNil)))) σ H (fun H v => EvV H v ⟨n, d⟩) := by
  intro H1 e1 Q q
  obtain ⟨a, rfl, ha⟩ := hd
  refine hl H1 e1 _ fun H2 e2 => ⟨(show 1 ≤ sizeLine by decide), fun p1 hp1 => ?_⟩
  refine hv _ ((e1.trans e2).trans (Ex.new hp1)) _ fun H3 e3 => ?_
  have a3 : H3 a = some (.tup (deedVs d)) := (((e1.trans e2).trans (Ex.new hp1)).trans e3) a _ ha
  have p13 : H3 p1 = some (.tup [.int n]) := e3 p1 _ upd_same
  have hne : deedVs d ≠ [] := by cases d <;> (intro q; cases q)
  have hsz : (deedVs d).length ≤ 4 := by cases d <;> simp [deedVs]
  refine ⟨p1, a, _, _, rfl, rfl, st_of p13, st_of a3, ?_, (fun q => absurd q (by simp)), (fun _ q => absurd q hne), fun _ _ p2 hp2 => ?_⟩
  · have : ([V.int n] : List V).length = 1 := rfl
    have h3 : sizeLine = 16777216 := sizeLine_eq
    omega
  refine ⟨(show 2 ≤ sizeLine by decide), fun p3 hp3 => ?_⟩
  have e4 : Ex H1 (upd (upd H3 p2 (.tup ([V.int n] ++ deedVs d))) p3 (.tup [.non, .non])) := ((e2.trans (Ex.new hp1)).trans e3).trans ((Ex.new hp2).trans (Ex.new hp3))
  refine hv _ (e1.trans e4) _ fun H5 e5 => ?_
  have a5 : H5 a = some (.tup (deedVs d)) := ((e1.trans e4).trans e5) a _ ha
  have p25 : H5 p2 = some (.tup ([V.int n] ++ deedVs d)) := e5 p2 _ (by rw [upd_ne (ne_of_none (H := upd H3 p2 (.tup ([V.int n] ++ deedVs d))) upd_same hp3), upd_same])
  have p35 : H5 p3 = some (.tup [.non, .non]) := e5 p3 _ upd_same
  refine ⟨a, _, 0, _, rfl, rfl, st_of a5, deed_0 d, rfl, ?_⟩
  refine .inr ⟨_, rfl, ?_⟩
  have lsz : ([V.int n] ++ deedVs d).length ≤ 5 := by rw [List.length_append]; show 1 + _ ≤ 5; omega
  have h3 : sizeLine = 16777216 := sizeLine_eq
  cases hp : d.isPut with
  | true =>
    refine ⟨p3, 0, _, rfl, ?_, st_of p35, by simp, .inr ⟨rfl, fun p4 hp4 => ?_⟩⟩
    · show V.int (if decide (V.str "put" = V.str "drop") = true then 1 else 0) = .int 0
      rw [if_neg (by decide +kernel)]
    · refine ⟨p2, p4, _, [], rfl, rfl, st_of (by rw [upd_ne (ne_of_none p25 hp4)]; exact p25), st_of upd_same, by simp only [List.length_nil]; omega, fun q => absurd q (by simp), fun _ _ => ?_, fun _ q => absurd rfl q⟩
      refine q _ _ ((e4.trans e5).trans (Ex.new hp4)) ⟨p2, rfl, ?_⟩
      rw [upd_ne (ne_of_none p25 hp4), p25, evVs_eq, hp]
      simp
  | false =>
    refine ⟨p3, 1, _, rfl, ?_, st_of p35, by simp, .inl ⟨rfl, ?_⟩⟩
    · show V.int (if decide (V.str "drop" = V.str "drop") = true then 1 else 0) = .int 1
      rw [if_pos (by decide +kernel)]
    · refine ⟨p2, p3, _, _, rfl, rfl, st_of p25, st_of p35, by simp only [List.length_cons, List.length_nil]; omega, fun q => absurd q (by simp), fun _ q => absurd q (by simp), fun _ _ p4 hp4 => ?_⟩
      refine q _ _ ((e4.trans e5).trans (Ex.new hp4)) ⟨p4, rfl, ?_⟩
      rw [upd_same, evVs_eq, hp]
      simp
theorem house_keep {p : Addr} {s : HS} {z : HCell} {H H' : Hp} (h : HouseAt (clsHouse K) H p s z) (k : ∀ b o, H b = some o → b ∉ z.fp p → H' b = some o) (kt : Kt H H') : Keep (z.fp p) (z.fp p) H H' := ⟨k, fun b hb => .inl hb, kt⟩
theorem pure_h_write (HC : HCls K) (h : sp_h_write K vs H Q E) : t_h_write K { nx := fun _ H' => Q .non H', rt := Q } (start N_h_write vs) H := by
  obtain ⟨p, s, z, a, ds, rfl, hh, hds, hna, hsm, hnd, q⟩ := h
  obtain ⟨ws, ha, hws⟩ := hds
  generalize hreal : realD s.recs ds = real at q
  have hrn : (real.map Deed.key).Nodup := by rw [← hreal]; exact real_nodup hnd
  have hrl : real.length ≤ ds.length := by rw [← hreal]; exact List.length_filter_le _ _
  have hlen := pr_len hws
  -- real = [..]
  have hcomp : EvLP (tLc (iSeq K (tVar 1)) (gName 3) (tOr (tTest (tOp rEq (tOp (rIxT K) (tVar 3) (tC (.int 0))) (tC (.str "put")))) (tB (tDIn (tOp (rIxT K) (tVar 3) (tC (.int 1))) (tFld K (tVar 0) "records")))) (tVar 3) [3]) (start N_h_write [.ref p, .ref a]) H DeedV real := by
    have hi : EvI (iSeq K (tVar 1)) (start N_h_write [.ref p, .ref a]) H ws := by
      rcases ha with ha | ha
      · exact ei_seqL (ev_var rfl) (sq_of ha)
      · exact ei_seqT (ev_var rfl) (st_of ha)
    have h1 := lc_typed (α := Deed) (J := Itr 0 0) (P := DeedV) (tt := tOr (tTest (tOp rEq (tOp (rIxT K) (tVar 3) (tC (.int 0))) (tC (.str "put")))) (tB (tDIn (tOp (rIxT K) (tVar 3) (tC (.int 1))) (tFld K (tVar 0) "records")))) (te := tVar 3) (j := 3) (vs := [3]) hi hws
      (fun d => if (d.isPut || hasR s.recs d.key) = true then some d else none) (fun _ _ _ _ k z => DeedV.kt k z) (fun _ => rfl)
      (fun x d hx => by
        have e : (if (d.isPut || hasR s.recs d.key) = true then some d else none).isSome = (d.isPut || hasR s.recs d.key) := by
          cases (d.isPut || hasR s.recs d.key) <;> rfl
        rw [e]
        refine et_or (a := d.isPut) (et_is (et_test (ev_eqS (ev_ixA (ev_var rfl) hx ev_c (deed_0 d)) ev_c)) ?_) fun _ => et_B (ev_inD (ev_ixA (ev_var rfl) hx ev_c (deed_1 d)) (ev_records HC (ev_var rfl) hh) hh.recs)
        cases d.isPut with
        | true => decide +kernel
        | false => decide +kernel)
      (fun x d y hx hy => by
        split at hy
        · cases hy
          exact Ev.p (ev_var rfl) fun H1 e => DeedV.kt (Ex.kt e) hx
        · cases hy) (by have := hsm.2; omega)
    have e : List.filterMap (fun d : Deed => if (d.isPut || hasR s.recs d.key) = true then some d else none) ds = real := by
      rw [← hreal]
      exact fm_ite _ ds
    rw [e] at h1
    exact h1
  refine seq_lcP hcomp fun l H1 hl0 e1 hl1 => ?_
  have hh1 := hh.ex e1
  have hlfp : l ∉ z.fp p := fun hm => by
    obtain ⟨o, ho⟩ := hh.some hm
    rw [hl0] at ho
    cases ho
  obtain ⟨rs, hlr, hlp⟩ := hl1
  -- the number
  have hNr : writeN s ds = if real = [] then s.last else s.last + 1 := by unfold writeN; rw [hreal]
  have step2 : ∀ H2 : Hp, HouseAt (clsHouse K) H2 p (writeTo s ds 0) z → Keep (z.fp p) (z.fp p) H H2 → H2 l = some (.lst rs) → Kt H1 H2 →
      tSeq (tFor (iList K (tVar 2)) (gName 3)
        (tSeq (tAsg (tOp (rCatA K) (tOp (rCatA K) (tTup (tCons (tFld K (tVar 0) "last") tNil)) (tVar 3)) (tOp (rRep01 K) (tTup (tCons (tC .non) (tCons (tC .non) tNil))) (tCB rInt1 (tCons (tOp rEq (tOp (rIxT K) (tVar 3) (tC (.int 0))) (tC (.str "drop"))) tNil)))) (gName 4))
        (tSeq (tDrop (tBM K "list" rAppend (tFld K (tVar 0) "log") (tCons (tVar 4) tNil)))
        (tDrop (tCall (sp_change K) [] E0 (tCons (tFld K (tVar 0) "records") (tCons (tVar 4) tNil)))))))
        (tRet (tOp (rNeP K) (tVar 2) (tLst tNil))) { nx := fun _ H' => Q .non H', rt := Q } ((start N_h_write [.ref p, .ref a]).set 2 (some (.ref l))) H2 := fun H2 hh2 hk2 hl2 kt2 => by
    have hit : ∀ {H' : Hp}, Kt H1 H' → Paired (DeedV H') rs real := fun k => pr_mono hlp fun a b q => DeedV.kt k q
    refine ⟨_, rfl, l, rfl, ⟨rs, sq_of hl2⟩, for_list (K := K) (a := l) (xs := rs) (fun i σ' H' => ∃ v3 v4, σ' = [some (.ref p), some (.ref a), some (.ref l), v3, v4] ∧ HouseAt (clsHouse K) H' p (writeTo s ds i) z ∧ Keep (z.fp p) (z.fp p) H H' ∧ H' l = some (.lst rs) ∧ Kt H1 H') ?_ ?_ ?_ ?_⟩
    · exact ⟨none, none, rfl, hh2, hk2, hl2, kt2⟩
    · rintro i σ' H' _ ⟨v3, v4, _, _, _, h5, _⟩
      exact sq_of h5
    · rintro i x σ' H3 hx ⟨v3, v4, rfl, hh3, hk3, hl3, kt3⟩
      obtain ⟨d, hd, hdv⟩ := pr_get (hit kt3) hx
      have hi : i < real.length := (List.getElem?_eq_some_iff.mp hd).1
      have hd' : (realD s.recs ds)[i]? = some d := by rw [hreal]; exact hd
      have hdrop : ∀ k, d = .drop k → hasR (writeTo s ds i).recs k = true := fun k e => by
        unfold writeTo
        show hasR (((realD s.recs ds).take i).foldl (fun rs d => changeR rs ⟨writeN s ds, d⟩) s.recs) k = true
        rw [foldC_has _ _ _ (fun x hx => by
          have := take_ne (real_nodup hnd) hd' x hx
          rw [e] at this
          exact this)]
        exact real_drop (by rw [← e]; exact List.mem_of_getElem? hd')
      have hsz := hsm
      have hll : (writeTo s ds i).log.length ≤ 50000 := by
        unfold writeTo
        simp only [List.length_append, List.length_map, List.length_take]
        have := hsm.2
        omega
      have hrr : (writeTo s ds i).recs.length ≤ 50000 := by
        have h1 := foldC_len (writeN s ds) ((realD s.recs ds).take i) s.recs
        have h2 : ((realD s.recs ds).take i).length ≤ ds.length := by rw [hreal, List.length_take]; omega
        have := hsm.1
        show (((realD s.recs ds).take i).foldl (fun rs d => changeR rs ⟨writeN s ds, d⟩) s.recs).length ≤ 50000
        omega
      refine alw_here (al_setP (evp_event (ev_last HC (ev_var rfl) hh3) (ev_var rfl) hdv) fun v H4 e4 hv => ?_)
      intro H4' e4'
      have hh4 := hh3.ex (e4.trans e4')
      have hv4 := EvV.kt (Ex.kt e4') hv
      obtain ⟨lv, hlog, hlogp⟩ := hh4.log
      have hlen4 := pr_len hlogp
      refine seq_app hlog (ev_log HC (ev_var rfl) hh4) (ev_var rfl) (by omega) fun H5 e5 => ?_
      have hh5 := house_log (hh4.ex e5) (e5 _ _ hlog) (EvV.kt (Ex.kt e5) hv4)
      have kt6 : Kt H5 (upd H5 z.l (.lst (lv ++ [v]))) := (Kt.refl H5).upd ((hh4.ex e5).notup (mem_fp p z).2.2.2.1)
      refine drop_call (ea_cons (ev_records HC (ev_var rfl) hh5) (ea_cons (ev_var rfl) ea_nil)) fun H6 e6 => ?_
      have hv6 : EvV H6 v ⟨writeN s ds, d⟩ := EvV.kt (Ex.kt e6) (EvV.kt kt6 (EvV.kt (Ex.kt e5) hv4))
      refine ⟨z.r, v, (writeTo s ds i).recs, ⟨writeN s ds, d⟩, rfl, hh5.recs.ex e6, hv6, hdrop, by omega, fun H7 hr7 k7 kt7 => ?_⟩
      have hh7 := house_recs (hh5.ex e6) hr7 k7 kt7
      have kt37 : Kt H3 H7 := (Ex.kt ((e4.trans e4').trans e5)).trans (kt6.trans ((Ex.kt e6).trans kt7))
      have kp37 : ∀ b o, H3 b = some o → b ∉ z.fp p → H7 b = some o := fun b o hb hn => k7 b o (fun q => hn (by rw [q]; exact (mem_fp p z).2.1)) (e6 b o (by
        rw [upd_ne (fun q => hn (by rw [q]; exact (mem_fp p z).2.2.2.1))]
        exact e5 b o (e4' b o (e4 b o hb))))
      refine ⟨_, _, rfl, ?_, hk3.trans (house_keep hh3 kp37 kt37), kp37 l _ hl3 hlfp, kt3.trans kt37⟩
      rw [writeTo_succ s ds hd']
      exact hh7
    · rintro σ' H3 ⟨v3, v4, rfl, hh3, hk3, hl3, kt3⟩
      have hrl2 : rs.length = real.length := pr_len hlp
      refine alw_here (alw_ret (ev_neNil (ev_var rfl) ⟨rs, hl3, hit kt3⟩) fun H4 e4 => ?_)
      refine q H4 z ?_ (hk3.trans (Keep.ex e4))
      have e : writeTo s ds rs.length = s.write ds := by rw [hrl2, ← hreal]; exact writeTo_end s ds
      rw [← e]
      exact hh3.ex e4
  refine alw_here (al_if (B := H1) (et_test (ev_neNil (ev_var rfl) ⟨rs, hlr, hlp⟩)) (fun hb H2 e2 => ?_) fun hb => al_skip fun H2 e2 => ?_)
  · have hne : real ≠ [] := of_decide_eq_false (by simpa using hb)
    have hh2 := hh1.ex e2
    refine (show Ev (tOp rAddI (tFld K (tVar 0) "last") (tC (.int 1))) ((start N_h_write [.ref p, .ref a]).set 2 (some (.ref l))) H2 (.int (s.last + 1)) from ev_add (ev_last HC (ev_var rfl) hh2) ev_c) H2 (Ex.refl _) _ fun H3 e3 => ?_
    have hh3 := hh2.ex e3
    obtain ⟨dx, ho⟩ := hh3.ob
    refine ⟨_, rfl, p, _, dx, _, rfl, ho, HC.Housecl, HC.na _ (by decide +kernel), hf_len .., ?_⟩
    rw [hp_last]
    have kt3 : Kt H3 (upd H3 p (.ins (clsHouse K) dx (hFlds z.r z.o z.l (s.last + 1) s.base z.e s.granted s.now z.s z.c))) := (Kt.refl H3).upd (hh3.notup (mem_fp p z).1)
    refine step2 _ ?_ ?_ ?_ ?_
    · have e : writeTo s ds 0 = { s with last := s.last + 1 } := by
        unfold writeTo
        rw [hNr, if_neg hne]
        simp
      rw [e]
      exact house_ob (s' := { s with last := s.last + 1 }) (dx := dx) hh3 rfl rfl rfl rfl rfl rfl
    · refine (Keep.ex ((e1.trans e2).trans e3)).trans (house_keep hh3 (fun b o hb hn => ?_) kt3)
      rw [upd_ne (fun q => hn (by rw [q]; exact (mem_fp p z).1))]
      exact hb
    · rw [upd_ne (fun q => hlfp (by rw [q]; exact (mem_fp p z).1))]
      exact e3 l _ (e2 l _ hlr)
    · exact (Ex.kt (e2.trans e3)).trans kt3
  · have he : real = [] := of_decide_eq_true (by simpa using hb)
    refine step2 H2 ?_ (Keep.ex (e1.trans e2)) (e2 l _ hlr) (Ex.kt e2)
    have e : writeTo s ds 0 = s := by
      unfold writeTo
      rw [hNr, if_pos he]
      simp
    rw [e]
    exact hh1.ex e2
end
end KW

/-! put, drop, number, look, rows -/
namespace KW
open PySem PySem.Spec PyProof.Rows L2 Evl
theorem drop_callN {σ : L2.St} {H : Hp} {ta : TA} {sp : Sp} {dvs vs : List V} {E : XK} {D : Ends} {tw : TS} (h : EvA ta σ H vs) (k : ∀ H1, Ex H H1 → sp (vs ++ dvs) H1 (fun _ H2 => tw D σ H2) E) : tSeq (tDrop (tCall sp dvs E ta)) tw D σ H :=
  h H (Ex.refl H) _ fun H1 e => k H1 e
theorem al_need {σ : L2.St} {B : Hp} {ta : TE} {sp : Sp} {v : V} {E : XK} {D : Ends} {tw : TS} (h : Ev ta σ B v) (k : ∀ H1, Ex B H1 → ∀ Q : VK, (∀ H2, Ex H1 H2 → Q .non H2) → sp [v] H1 Q E) (c : Alw tw D σ B) : Alw (tSeq (tDrop (tCall sp [] E (tCons ta tNil))) tw) D σ B := fun H e =>
  h H e _ fun H1 e1 => k H1 (e.trans e1) _ fun H2 e2 => c H2 ((e.trans e1).trans e2)
theorem seq_forL {K : PySem.W.Frag} {σ : L2.St} {H : Hp} {a : Addr} {xs : List V} {tl : TE} {g : TG} {tu tw : TS} {D : Ends} (h : Ev tl σ H (.ref a)) (hx : SqL K H a xs) (Pv : Nat → L2.St → Hp → Prop) (h0 : ∀ H1, Ex H H1 → Pv 0 σ H1) (hl : ∀ i σ' H', i ≤ xs.length → Pv i σ' H' → SqL K H' a xs)
    (hs : ∀ i x σ' H', xs[i]? = some x → Pv i σ' H' → g x σ' H' fun σ2 H2 => tu { D with nx := Pv (i + 1), ct := Pv (i + 1), bk := tw D } σ2 H2) (hd : ∀ σ' H', Pv xs.length σ' H' → tw D σ' H') : tSeq (tFor (iList K tl) g tu) tw D σ H :=
  s_forL (D := { D with nx := tw D }) h hx Pv h0 hl hs hd
section
variable {K : PySem.W.Frag} {vs : List V} {H : Hp} {Q : VK} {E : XK}
theorem use_key {x : Str} {H1 : Hp} {Q : VK} {E : XK} (h : isKey x = true) (q : ∀ H2, Ex H1 H2 → Q .non H2) : sp_need_key K [.str x] H1 Q E :=
  ⟨_, rfl, thing_key h, fun H2 e2 => ⟨fun _ => q H2 e2, fun z => by rw [show isKeyV (.str x) = isKey x from rfl, h] at z; cases z⟩⟩
theorem use_value {i : Int} {H1 : Hp} {Q : VK} {E : XK} (h0 : 0 ≤ i) (h1 : i ≤ 9999) (q : ∀ H2, Ex H1 H2 → Q .non H2) : sp_need_value K [.int i] H1 Q E := by
  refine ⟨_, rfl, .int i, fun H2 e2 => ⟨fun _ => q H2 e2, fun z => ?_⟩⟩
  have : isValueV (.int i) = true := by
    show (decide (0 ≤ i) && decide (i ≤ 9999)) = true
    rw [decide_eq_true h0, decide_eq_true h1]
    rfl
  rw [this] at z
  cases z
theorem pure_h_number (HC : HCls K) (h : sp_h_number K vs H Q E) : t_h_number K { nx := fun _ H' => Q .non H', rt := Q } (start N_h_number vs) H := by
  obtain ⟨p, s, z, rfl, hh, q⟩ := h
  obtain ⟨dx, ho⟩ := hh.ob
  exact ⟨_, rfl, p, _, dx, _, _, rfl, ho, HC.Housecl, HC.na _ (by decide +kernel), hf_last .., q⟩
/-- a method's call -/
theorem meth_call {σ : L2.St} {H : Hp} {te : TE} {ta : TA} {sp : Sp} {dvs vs : List V} {m : Str} {E : XK} {Q : VK} {p : Addr} {s : HS} {z : HCell} (he : Ev te σ H (.ref p)) (hh : HouseAt (clsHouse K) H p s z) (hm : m ∈ houseMeths)
    (h : EvA ta σ H vs) (k : ∀ H1, Ex H H1 → sp (.ref p :: (vs ++ dvs)) H1 Q E) : tMeth (clsHouse K) m sp dvs E te ta σ H Q :=
  he H (Ex.refl H) _ fun H1 e1 => by
    obtain ⟨dx, ho⟩ := (hh.ex e1).ob
    exact ⟨p, dx, _, rfl, ho, hf_meth _ _ _ _ _ _ _ _ _ _ hm, h H1 e1 _ fun H2 e2 => k H2 (e1.trans e2)⟩
theorem write_put (s : HS) (k : Str) (v : Int) (l : Option Int) : realD s.recs [.put k v l] = [.put k v l] := rfl
theorem write_put_last (s : HS) (k : Str) (v : Int) (l : Option Int) : (s.write [.put k v l]).last = s.last + 1 := by
  unfold HS.write
  rw [write_put]
  rfl
theorem write_drop (s : HS) (k : Str) : decide (realD s.recs [.drop k] = []) = !hasR s.recs k := by
  unfold realD
  rw [List.filter_cons]
  show decide ((if (false || hasR s.recs k) = true then _ else _) = []) = _
  rw [Bool.false_or]
  cases hasR s.recs k <;> simp
/-- a list of one deed, made on the way -/
theorem evp_one {σ : L2.St} {ta : TA} {d : Deed} (h : EvA ta σ H (deedVs d)) : EvLP (tLst (tCons (tTup ta) tNil)) σ H DeedV [d] := fun H1 e Q q =>
  h H1 e _ fun H2 e2 => ⟨(by have : (deedVs d).length ≤ 4 := by cases d <;> simp [deedVs]
                             have h3 : sizeLine = 16777216 := sizeLine_eq
                             omega), fun t ht => ⟨(show 1 ≤ sizeLine by decide), fun p hp =>
    q p _ (fresh_back (e2.trans (Ex.new ht)) hp) ((e2.trans (Ex.new ht)).trans (Ex.new hp)) ⟨_, upd_same, .cons ⟨t, rfl, by rw [upd_ne (ne_of_none (H := upd H2 t (.tup (deedVs d))) upd_same hp), upd_same]⟩ .nil⟩⟩⟩
/-- self.write([one deed]) -/
theorem write_one (HC : HCls K) {σ : L2.St} {te : TE} {ta : TA} {d : Deed} {p : Addr} {s : HS} {z : HCell} {E : XK} {Q : VK} (he : Ev te σ H (.ref p)) (hh : HouseAt (clsHouse K) H p s z) (h : EvA ta σ H (deedVs d)) (hs : s.small 1)
    (q : ∀ H' z', HouseAt (clsHouse K) H' p (s.write [d]) z' → Keep (z.fp p) (z'.fp p) H H' → Q (.bl (!decide (realD s.recs [d] = []))) H') : tMeth (clsHouse K) "write" (sp_h_write K) [] E te (tCons (tLst (tCons (tTup ta) tNil)) tNil) σ H Q :=
  he H (Ex.refl H) _ fun H1 e1 => by
    obtain ⟨dx, ho⟩ := (hh.ex e1).ob
    refine ⟨p, dx, _, rfl, ho, hf_meth _ _ _ _ _ _ _ _ _ _ (by decide +kernel), evp_one h H1 e1 _ fun l H2 hl e2 hls => ?_⟩
    obtain ⟨ws, h1, h2⟩ := hls
    refine ⟨p, s, z, l, [d], rfl, hh.ex (e1.trans e2), ⟨ws, .inl h1, h2⟩, fun hm => ?_, hs, by simp, fun H3 z' hh3 k3 => q H3 z' hh3 ((Keep.ex (e1.trans e2)).trans k3)⟩
    obtain ⟨o, ho⟩ := (hh.ex e1).some hm
    rw [hl] at ho
    cases ho
theorem pure_h_put (HC : HCls K) (h : sp_h_put K vs H Q E) : t_h_put K E { nx := fun _ H' => Q .non H', rt := Q } (start N_h_put vs) H := by
  obtain ⟨p, s, z, k, v, l, rfl, hh, hk, h0, h1, hl, hs, q⟩ := h
  refine alw_here (al_need (ev_var rfl) (fun H1 e1 Q q => use_key hk q) (al_need (ev_var rfl) (fun H1 e1 Q q => use_value h0 h1 q) ?_))
  have fin : Alw (tSeq (tDrop (tMeth (clsHouse K) "write" (sp_h_write K) [] E0 (tVar 0) (tCons (tLst (tCons (tTup (tCons (tC (.str "put")) (tCons (tVar 1) (tCons (tVar 2) (tCons (tVar 3) tNil))))) tNil)) tNil)))
      (tRet (tFld K (tVar 0) "last"))) { nx := fun _ H' => Q .non H', rt := Q } (start N_h_put [.ref p, .str k, .int v, optV l]) H := fun H2 e2 => by
    refine write_one (d := Deed.put k v l) HC (ev_var rfl) (hh.ex e2) (ea_cons ev_c (ea_cons (ev_var rfl) (ea_cons (ev_var rfl) (ea_cons (ev_var rfl) ea_nil)))) hs fun H3 z' hh3 k3 => ?_
    refine alw_here (alw_ret (ev_last HC (ev_var rfl) hh3) fun H4 e4 => ?_)
    rw [write_put_last]
    exact q H4 z' (hh3.ex e4) ((Keep.ex e2).trans (k3.trans (Keep.ex e4)))
  cases l with
  | none =>
    refine al_if (et_test (ev_notN (ev_var rfl))) (fun hb => by cases hb) fun _ => al_skip fin
  | some i =>
    obtain ⟨hi1, hi2⟩ := hl i rfl
    refine al_if (et_test (ev_notN (ev_var rfl))) (fun _ H2 e2 => ?_) fun hb => by cases hb
    refine meth_call (ev_var rfl) (hh.ex e2) (by decide +kernel) (ea_cons (ev_var rfl) ea_nil) fun H3 e3 => ?_
    exact ⟨p, s, z, _, rfl, hh.ex (e2.trans e3), .int i, fun H4 e4 => ⟨fun j hj _ _ => fin H4 ((e2.trans e3).trans e4), fun hn => absurd hi2 (hn i rfl hi1)⟩⟩
theorem pure_h_drop (HC : HCls K) (h : sp_h_drop K vs H Q E) : t_h_drop K E { nx := fun _ H' => Q .non H', rt := Q } (start N_h_drop vs) H := by
  obtain ⟨p, s, z, k, rfl, hh, hk, hs, q⟩ := h
  refine alw_here (al_need (ev_var rfl) (fun H1 e1 Q q => use_key hk q) fun H2 e2 => ?_)
  refine write_one (d := Deed.drop k) HC (ev_var rfl) (hh.ex e2) (ea_cons ev_c (ea_cons (ev_var rfl) ea_nil)) hs fun H3 z' hh3 k3 => ?_
  rw [write_drop, Bool.not_not]
  exact q H3 z' hh3 ((Keep.ex e2).trans k3)
theorem EndsAt.ex {H H' : Hp} {d : Addr} {rs : List (Int × (Int × Int))} (e : Ex H H') (h : EndsAt H d rs) : EndsAt H' d rs := h.move (fun v x q => TAt.kt (Ex.kt e) q) fun o q => e _ _ q
theorem ev_notInE {σ : L2.St} {td ty : TE} {d : Addr} {rs : List (Int × (Int × Int))} {k : Int} (ha : Ev ty σ H (.int k)) (hd : Ev td σ H (.ref d)) (h : EndsAt H d rs) : Ev (tDNotIn ty td) σ H (.bl (!decide (k ∈ keysA rs))) := fun H1 e Q q =>
  ha H1 e _ fun H2 e2 => hd H2 (e.trans e2) _ fun H3 e3 => by
    obtain ⟨es, h1, h2⟩ := EndsAt.ex ((e.trans e2).trans e3) h
    have hg := DGet.k (k := Sum.inl k) h1
    rcases val_of inl_inj h2 k with ⟨v, r, g, l, _⟩ | ⟨g, l⟩
    · have hm : k ∈ keysA rs := lookA_some.mp (by rw [l]; rfl)
      rw [g] at hg
      rw [decide_eq_true hm] at q
      exact ⟨d, some v, rfl, hg, q H3 (e2.trans e3)⟩
    · have hm : k ∉ keysA rs := lookA_none.mp l
      rw [g] at hg
      rw [decide_eq_false hm] at q
      exact ⟨d, none, rfl, hg, q H3 (e2.trans e3)⟩
theorem pure_h_need_lease (HC : HCls K) (h : sp_h_need_lease K vs H Q E) : t_h_need_lease K E { nx := fun _ H' => Q .non H', rt := Q } (start N_h_need_lease vs) H := by
  obtain ⟨p, s, z, v, rfl, hh, ht, q⟩ := h
  have bad : isWholeV v 1 = false → t_h_need_lease K E { nx := fun _ H' => Q .non H', rt := Q } (start N_h_need_lease [.ref p, v]) H := fun hf => by
    have h1 := ev_isWhole (K := K) (σ := start N_h_need_lease [.ref p, v]) (E := E0) (ev_var (i := 1) rfl) (ev_c (v := .int 1)) ht
    rw [hf] at h1
    refine alw_here (alw_if (et_or (b := true) (et_not (et_B h1)) fun z => by cases z) (fun _ H1 e1 => ?_) fun z => by cases z)
    refine (q H1 e1).2 fun i hi h1 => ?_
    rw [hi] at hf
    have : ¬ (1 : Int) ≤ i := of_decide_eq_false hf
    exact absurd h1 this
  cases hw : isWholeV v 1 with
  | false => exact bad hw
  | true =>
    obtain ⟨i, rfl⟩ : ∃ i, v = .int i := by
      cases v with
      | int i => exact ⟨i, rfl⟩
      | _ => cases hw
    have h1i : 1 ≤ i := of_decide_eq_true hw
    have h1 := ev_isWhole (K := K) (σ := start N_h_need_lease [.ref p, .int i]) (E := E0) (ev_var (i := 1) rfl) (ev_c (v := .int 1)) ht
    rw [hw] at h1
    refine alw_here (alw_if (et_or (et_not (et_B h1)) fun _ => et_B (ev_notInE (ev_var rfl) (ev_ends HC (ev_var rfl) hh) hh.ends)) (fun hb H1 e1 => ?_) fun hb H1 e1 => ?_)
    · have hb2 : i ∉ keysA s.ends := by simpa using hb
      exact (q H1 e1).2 fun j hj _ => by cases hj; exact hb2
    · have hb2 : i ∈ keysA s.ends := by simpa using hb
      exact (q H1 e1).1 i rfl h1i hb2
/-- records_at -/
theorem foldC_take (n : Int) {evs : List Evt} {i : Nat} {e : Evt} (h : evs[i]? = some e) (o : Recs) :
    ((evs.take (i + 1)).filter fun e => decide (e.num ≤ n)).foldl changeR o = if e.num ≤ n then changeR (((evs.take i).filter fun e => decide (e.num ≤ n)).foldl changeR o) e else ((evs.take i).filter fun e => decide (e.num ≤ n)).foldl changeR o := by
  rw [List.take_succ, h]
  simp only [Option.toList_some, List.filter_append, List.foldl_append]
  by_cases hn : e.num ≤ n
  · rw [if_pos hn]
    simp [hn]
  · rw [if_neg hn]
    simp [hn]
theorem foldR_len : ∀ (es : List Evt) (rs : Recs), (es.foldl changeR rs).length ≤ rs.length + es.length
  | [], rs => Nat.le_refl _
  | d :: r, rs => by
    rw [List.foldl_cons, List.length_cons]
    have h1 := foldR_len r (changeR rs d)
    have h2 := changeR_len rs d
    omega
theorem ev_0 (e : Evt) : atI (evVs e) 0 = some (.int e.num) := by
  obtain ⟨n, d⟩ := e
  cases d <;> rfl
theorem ev_2 (e : Evt) : atI (evVs e) 2 = some (.str e.deed.key) := by
  obtain ⟨n, d⟩ := e
  cases d <;> rfl
theorem pure_h_records_at (HC : HCls K) (h : sp_h_records_at K vs H Q E) : t_h_records_at K { nx := fun _ H' => Q .non H', rt := Q } (start N_h_records_at vs) H := by
  obtain ⟨p, s, z, n, rfl, hh, hok, hsz, q⟩ := h
  refine alw_here (al_if (et_test (ev_eqI (ev_var rfl) (ev_last HC (ev_var rfl) hh))) (fun hb => ?_) fun hb => al_skip ?_)
  · have hb := of_decide_eq_true hb
    refine alw_ret (ev_records HC (ev_var rfl) hh) fun H1 e1 => q H1 z.r e1 ?_
    unfold HS.at
    rw [if_pos hb]
    exact hh.recs.ex e1
  · have hb := of_decide_eq_false hb
    refine al_setP (P := fun H' v => ∃ d, v = .ref d ∧ H d = none ∧ RecsAt H' d s.old) ?_ fun v H1 e1 hv => ?_
    · intro H1 e1 Q1 q1
      refine ev_old HC (ev_var rfl) hh H1 e1 _ fun H2 e2 => ?_
      obtain ⟨es, h1, h2⟩ := hh.old.ex (e1.trans e2)
      refine ⟨z.o, es, rfl, .inl h1, fun d hd => q1 _ _ (e2.trans (Ex.new hd)) ⟨d, rfl, fresh_back (e1.trans e2) hd, es, upd_same, pr_mono h2 fun a b q => ⟨q.1, RecV.kt (Ex.kt (Ex.new hd)) q.2⟩⟩⟩
    · obtain ⟨d, rfl, hd0, hdr⟩ := hv
      intro H2 e2
      have hh2 := hh.ex (e1.trans e2)
      obtain ⟨lv, hl, hlp⟩ := hh2.log
      have dn : ∀ {b : Addr} {o : HO}, H b = some o → b ≠ d := fun hb => ne_of_none hb hd0
      refine seq_forL (ev_log HC (ev_var rfl) hh2) (sq_of hl) (fun i σ' H' => ∃ v3, σ' = [some (.ref p), some (.int n), some (.ref d), v3] ∧ Ex H H' ∧ H' z.l = some (.lst lv) ∧ RecsAt H' d (((s.log.take i).filter fun e => decide (e.num ≤ n)).foldl changeR s.old)) (fun H3 e3 => ?_) ?_ ?_ ?_
      · exact ⟨none, rfl, (e1.trans e2).trans e3, e3 _ _ hl, hdr.ex (e2.trans e3)⟩
      · rintro i σ' H' _ ⟨v3, _, _, h5, _⟩
        exact sq_of h5
      · rintro i x σ' H4 hx ⟨v3, rfl, e4, hl4, hr4⟩
        obtain ⟨e, he, hev⟩ := pr_get hlp hx
        have hev4 : EvV H4 x e := by
          obtain ⟨vs0, hl0, hlp0⟩ := hh.log
          have : vs0 = lv := by
            have h5 := e4 _ _ hl0
            rw [hl4] at h5
            cases h5
            rfl
          subst this
          obtain ⟨e', he', hev'⟩ := pr_get hlp0 hx
          rw [he] at he'
          cases he'
          exact EvV.kt (Ex.kt e4) hev'
        have hlen := pr_len hlp
        refine alw_here (alw_if (et_test (ev_le (ev_ixA (ev_var rfl) hev4 ev_c (ev_0 e)) (ev_var rfl))) (fun hc H5 e5 => ?_) fun hc H5 e5 => ?_)
        · have hc := of_decide_eq_true hc
          refine drop_call (ea_cons (ev_var rfl) (ea_cons (ev_var rfl) ea_nil)) fun H6 e6 => ?_
          refine ⟨d, x, _, e, rfl, hr4.ex (e5.trans e6), EvV.kt (Ex.kt (e5.trans e6)) hev4, ?_, ?_, fun H7 hr7 k7 kt7 => ⟨_, rfl, ?_, ?_, ?_⟩⟩
          · have hsplit : (s.log.filter fun e => decide (e.num ≤ n)) = ((s.log.take i).filter fun e => decide (e.num ≤ n)) ++ e :: ((s.log.drop (i + 1)).filter fun e => decide (e.num ≤ n)) := by
              have h6 : s.log = s.log.take i ++ e :: s.log.drop (i + 1) := by
                obtain ⟨hi, hi2⟩ := List.getElem?_eq_some_iff.mp he
                rw [← hi2, List.getElem_cons_drop, List.take_append_drop]
              conv => lhs; rw [h6]
              rw [List.filter_append, List.filter_cons, if_pos (by simpa using hc)]
            exact hok n _ e _ hsplit
          · have h6 := foldR_len ((s.log.take i).filter fun e => decide (e.num ≤ n)) s.old
            have h7 : ((s.log.take i).filter fun e => decide (e.num ≤ n)).length ≤ (s.log.take i).length := List.length_filter_le _ _
            rw [List.length_take] at h7
            omega
          · intro b o hb
            exact k7 b o (dn hb) ((e4.trans (e5.trans e6)) b o hb)
          · obtain ⟨vs0, hl0, _⟩ := hh.log
            exact k7 _ _ (dn hl0) ((e5.trans e6) _ _ hl4)
          · rw [foldC_take n he, if_pos hc]
            exact hr7
        · have hc := of_decide_eq_false hc
          refine ⟨_, rfl, e4.trans e5, e5 _ _ hl4, ?_⟩
          rw [foldC_take n he, if_neg hc]
          exact hr4.ex e5
      · rintro σ' H4 ⟨v3, rfl, e4, hl4, hr4⟩
        refine alw_here (alw_ret (ev_var rfl) fun H5 e5 => q H5 d (e4.trans e5) ?_)
        have hlen := pr_len hlp
        unfold HS.at
        rw [if_neg hb]
        rw [hlen, List.take_length] at hr4
        exact hr4.ex e5
end
end KW

/-! look, rows -/
namespace KW
open PySem PySem.Spec PyProof.Rows L2 Evl
section
variable {K : PySem.W.Frag} {vs : List V} {H : Hp} {Q : VK} {E : XK}
theorem ret_meth {σ : L2.St} {H : Hp} {te : TE} {ta : TA} {sp : Sp} {dvs vs : List V} {m : Str} {E : XK} {D : Ends} {p : Addr} {s : HS} {z : HCell} (he : Ev te σ H (.ref p)) (hh : HouseAt (clsHouse K) H p s z) (hm : m ∈ houseMeths)
    (h : EvA ta σ H vs) (k : ∀ H1, Ex H H1 → sp (.ref p :: (vs ++ dvs)) H1 D.rt E) : tRet (tMeth (clsHouse K) m sp dvs E te ta) D σ H := meth_call he hh hm h k
theorem pure_h_records_when (HC : HCls K) (h : sp_h_records_when K vs H Q E) : t_h_records_when K E { nx := fun _ H' => Q .non H', rt := Q } (start N_h_records_when vs) H := by
  obtain ⟨p, s, z, n, rfl, hh, hok, hsz, q⟩ := h
  cases n with
  | none =>
    refine alw_here (al_if (et_test (ev_isN (ev_var rfl))) (fun _ => ?_) fun hb => by cases hb)
    refine alw_ret (ev_records HC (ev_var rfl) hh) fun H1 e1 => ?_
    refine (q H1 e1).2.2 (fun i hi => by cases hi) z.r ?_
    unfold HS.at
    rw [if_pos (show numV s none = s.last from rfl)]
    exact hh.recs.ex e1
  | some i =>
    refine alw_here (al_if (et_test (ev_isN (ev_var rfl))) (fun hb => by cases hb) fun _ => al_skip ?_)
    refine al_if (et_or (et_not (et_B (ev_isWhole (ev_var rfl) ev_c (.int i)))) fun _ => et_test (ev_gt (ev_var rfl) (ev_last HC (ev_var rfl) hh))) (fun hb H1 e1 => ?_) fun hb => al_skip ?_
    · refine (q H1 e1).1 ⟨i, rfl, ?_⟩
      have hb2 : (!decide (0 ≤ i) || decide (s.last < i)) = true := hb
      simp at hb2
      exact hb2
    · have hb2 : (!decide (0 ≤ i) || decide (s.last < i)) = false := hb
      simp at hb2
      refine al_if (et_test (ev_lt (ev_var rfl) (ev_base HC (ev_var rfl) hh))) (fun hc H1 e1 => ?_) fun hc => al_skip fun H1 e1 => ?_
      · have hc := of_decide_eq_true hc
        exact (q H1 e1).2.1 ⟨i, rfl, hb2.1, hb2.2, hc⟩
      · have hc := of_decide_eq_false hc
        refine ret_meth (ev_var rfl) (hh.ex e1) (by decide +kernel) (ea_cons (ev_var rfl) ea_nil) fun H2 e2 => ?_
        exact ⟨p, s, z, i, rfl, hh.ex (e1.trans e2), hok, hsz, fun H3 d e3 hr => (q H3 ((e1.trans e2).trans e3)).2.2 (fun j hj => by cases hj; exact ⟨hb2.1, hb2.2, Int.not_lt.mp hc⟩) d hr⟩
theorem pure_h_look (HC : HCls K) (h : sp_h_look K vs H Q E) : t_h_look K E { nx := fun _ H' => Q .non H', rt := Q } (start N_h_look vs) H := by
  obtain ⟨p, s, z, k, n, rfl, hh, hk, hok, hsz, q⟩ := h
  refine alw_here (al_need (ev_var rfl) (fun H1 e1 Q q => use_key hk q) fun H2 e2 => ?_)
  refine meth_call (ev_var rfl) (hh.ex e2) (by decide +kernel) (ea_cons (ev_var rfl) ea_nil) fun H3 e3 => ?_
  refine ⟨p, s, z, n, rfl, hh.ex (e2.trans e3), hok, hsz, fun H4 e4 => ⟨(q H4 ((e2.trans e3).trans e4)).1, (q H4 ((e2.trans e3).trans e4)).2.1, fun hn d hr => ?_⟩⟩
  · have hr0 := hr
    obtain ⟨es, g1, g2⟩ := hr0
    refine ⟨d, rfl, .inl ⟨es, .inl g1⟩, _, rfl, ?_⟩
    rcases dget_recs hr k with ⟨v, r, g, l, hv⟩ | ⟨g, l⟩
    · refine ⟨some v, g, (q H4 ((e2.trans e3).trans e4)).2.2 hn v ?_⟩
      rw [l]
      exact hv
    · refine ⟨none, g, (q H4 ((e2.trans e3).trans e4)).2.2 hn .non ?_⟩
      rw [l]
      exact rfl
theorem row_0 {H : Hp} {v : V} {p : Str × Rec} (h : RowV H v p) : ∃ w, TAt H v [.str p.1, w] := by
  obtain ⟨w, h1, _⟩ := h
  exact ⟨w, h1⟩
theorem ev_within {σ : L2.St} {ta tb tc : TE} {k a b : Str} {E : XK} (h1 : Ev ta σ H (.str k)) (h2 : Ev tb σ H (.str a)) (h3 : Ev tc σ H (.str b)) : Ev (tCall (sp_is_within K) [] E (tCons ta (tCons tb (tCons tc tNil)))) σ H (.bl (within k a b)) :=
  ev_call (ea_cons h1 (ea_cons h2 (ea_cons h3 ea_nil))) fun H1 e Q q E => ⟨k, a, b, rfl, q H1 (Ex.refl H1)⟩
theorem pure_h_rows (HC : HCls K) (h : sp_h_rows K vs H Q E) : t_h_rows K E { nx := fun _ H' => Q .non H', rt := Q } (start N_h_rows vs) H := by
  obtain ⟨p, s, z, a, b, n, rfl, hh, ha, hb, hok, hsz, hnd, hlt, q⟩ := h
  have hsrc : ∀ {H2 : Hp}, Ex H H2 → ∀ R : VK, (numOk s n → ∀ l H3, H2 l = none → Ex H2 H3 → RowsAt H3 l (inRows (s.at (numV s n))) → R (.ref l) H3) →
      (tCall (sp_in_rows K) [] E0 (tCons (tMeth (clsHouse K) "records_when" (sp_h_records_when K) [] E (tVar 0) (tCons (tVar 3) tNil)) tNil)) (start N_h_rows [.ref p, .str a, .str b, optV n]) H2 R := fun {H2} e2 R r => by
    refine meth_call (ev_var rfl) (hh.ex e2) (by decide +kernel) (ea_cons (ev_var rfl) ea_nil) fun H3 e3 => ?_
    refine ⟨p, s, z, n, rfl, hh.ex (e2.trans e3), hok, hsz, fun H4 e4 => ⟨(q H4 ((e2.trans e3).trans e4)).1, (q H4 ((e2.trans e3).trans e4)).2.1, fun hn d hr => ?_⟩⟩
    exact ⟨d, _, rfl, hr, hnd, hlt, fun H5 l e5 hl hrows => r hn l H5 (fresh_back (e3.trans e4) hl) ((e3.trans e4).trans e5) hrows⟩
  refine alw_here (al_need (ev_var rfl) (fun H1 e1 Q q => use_key ha q) (al_need (ev_var rfl) (fun H1 e1 Q q => use_key hb q) fun H2 e2 => ?_))
  refine hsrc e2 _ fun hn l H4 hl e4 hrows => ?_
  obtain ⟨ws, w1, w2⟩ := hrows
  have hwl : ws.length ≤ 100000 := by
    have := pr_len w2
    rw [inRows_len] at this
    omega
  have h5 := lc_typed (α := Str × Rec) (J := Itr 0 0) (P := RowV) (wi := iList K (tC (.ref l))) (tt := tB (tCall (sp_is_within K) [] E0 (tCons (tOp (rIxT K) (tVar 4) (tC (.int 0))) (tCons (tVar 1) (tCons (tVar 2) tNil))))) (te := tVar 4) (j := 4) (vs := [4]) (σ := start N_h_rows [.ref p, .str a, .str b, optV n]) (B := H4)
    (ei_list ev_c (sq_of w1)) w2 (fun r => if within r.1 a b = true then some r else none) (fun _ _ _ _ k z => RowV.kt k z) (fun _ => rfl)
    (fun x r hx => by
      have e : (if within r.1 a b = true then some r else none).isSome = within r.1 a b := by
        cases within r.1 a b <;> rfl
      rw [e]
      obtain ⟨w, hw⟩ := row_0 hx
      exact et_B (ev_within (ev_ixA (ev_var rfl) hw ev_c rfl) (ev_var rfl) (ev_var rfl)))
    (fun x r y hx hy => by
      split at hy
      · cases hy
        exact Ev.p (ev_var rfl) fun H1 e => RowV.kt (Ex.kt e) hx
      · cases hy) hwl
  rw [fm_ite] at h5
  obtain ⟨a', ea, hex, hR⟩ := h5 H4 (Ex.refl _) Q fun p' H5 hp5 e5 hl5 => (q H5 ((e2.trans e4).trans e5)).2.2 hn p' (fresh_back (e2.trans e4) hp5) hl5
  cases ea
  exact ⟨l, rfl, hex, hR⟩
end
end KW

/-! what stands apart from a house; calls in a row -/
namespace KW
open PySem PySem.Spec PyProof.Rows L2 Evl
theorem Keep.out {F F' : List Addr} {H H' : Hp} {b : Addr} {o : HO} (k : Keep F F' H H') (h : H b = some o) (n : b ∉ F) : b ∉ F' := fun z => (k.fr b z).elim n fun q => by rw [h] at q; cases q
def ScrO (K : PySem.W.Frag) (F : List Addr) (H : Hp) (a : Addr) (ns : List Int) : Prop := ((∃ o, Out F H a (.frz o (.lst (ns.map V.int)))) ∨ SqL K (fun _ => none) a (ns.map V.int)) ∧ ns.length ≤ 63
theorem ScrO.scr {K : PySem.W.Frag} {F : List Addr} {H : Hp} {a : Addr} {ns : List Int} (h : ScrO K F H a ns) : Scr K H a ns := by
  refine ⟨?_, h.2⟩
  rcases h.1 with ⟨o, h⟩ | h
  · exact .inl ⟨o, h.1⟩
  · exact .inr h
theorem ScrO.keep {K : PySem.W.Frag} {F F' : List Addr} {H H' : Hp} {a : Addr} {ns : List Int} (h : ScrO K F H a ns) (k : Keep F F' H H') : ScrO K F' H' a ns := by
  refine ⟨?_, h.2⟩
  rcases h.1 with ⟨o, h⟩ | h
  · exact .inl ⟨o, h.keep k⟩
  · exact .inr h
theorem Scr.out {K : PySem.W.Frag} {F : List Addr} {H : Hp} {a : Addr} {ns : List Int} (h : Scr K H a ns) (n : ∀ o, H a = some o → a ∉ F) : ScrO K F H a ns := by
  refine ⟨?_, h.2⟩
  rcases h.1 with ⟨o, h⟩ | h
  · exact .inl ⟨o, h, n _ h⟩
  · exact .inr h
/-- records that stand apart -/
structure RecsO (F : List Addr) (H : Hp) (d : Addr) (rs : Recs) : Prop where
  at_ : RecsAt H d rs
  out : d ∉ F
theorem RecsO.keep {F F' : List Addr} {H H' : Hp} {d : Addr} {rs : Recs} (h : RecsO F H d rs) (k : Keep F F' H H') : RecsO F' H' d rs := by
  obtain ⟨es, h1, h2⟩ := h.at_
  exact ⟨⟨es, k.kp _ _ h1 h.out, pr_mono h2 fun a b q => ⟨q.1, RecV.kt k.kt q.2⟩⟩, k.out h1 h.out⟩
section
variable {K : PySem.W.Frag} {σ : L2.St} {H : Hp} {te : TE} {ta : TA} {sp : Sp} {dvs vs : List V} {m : Str} {E : XK} {D : Ends} {tw : TS} {p : Addr} {s : HS} {z : HCell} {i : Nat}
theorem seq_meth (he : Ev te σ H (.ref p)) (hh : HouseAt (clsHouse K) H p s z) (hm : m ∈ houseMeths)
    (h : EvA ta σ H vs) (k : ∀ H1, Ex H H1 → sp (.ref p :: (vs ++ dvs)) H1 (fun v H2 => tw D (σ.set i (some v)) H2) E) : tSeq (tAsg (tMeth (clsHouse K) m sp dvs E te ta) (gName i)) tw D σ H := meth_call he hh hm h k
/-- a house is made -/
theorem seq_new (k : ∀ p z H', HouseAt (clsHouse K) H' p HS.new z → Keep [] (z.fp p) H H' → tw D (σ.set i (some (.ref p))) H') : tSeq (tAsg (tMake (clsHouse K) (sp_h_init K) [] E tNil) (gName i)) tw D σ H := by
  intro x dx nx ndx ne
  refine ⟨x, dx, rfl, upd_same, fun H' z hh kk => ⟨rfl, k x z H' hh ⟨fun b o hb _ => ?_, fun b hb => ?_, fun b xs hb => ?_⟩⟩⟩
  · refine kk.kp b o ?_ fun q => ne_of_none hb nx (by simpa using q)
    rw [upd_ne (ne_of_none hb nx), upd_ne (ne_of_none hb ndx)]
    exact hb
  · refine .inr ?_
    rcases kk.fr b hb with q | q
    · rw [show b = x by simpa using q]
      exact nx
    · by_cases e1 : b = x
      · rw [e1]
        exact nx
      · rw [upd_ne e1] at q
        by_cases e2 : b = dx
        · rw [e2]
          exact ndx
        · rw [upd_ne e2] at q
          exact q
  · refine kk.kt b xs ?_
    rw [upd_ne (ne_of_none hb nx), upd_ne (ne_of_none hb ndx)]
    exact hb
end
/-! ### records and rows as data -/
def recD (r : Rec) : PyData := .tuple ((recVs r).map flatD)
def recOD : Option Rec → PyData
  | none => .none
  | some r => recD r
theorem rec_flat (r : Rec) : (recVs r).all isFlat = true := by
  obtain ⟨a, b, c, d, l⟩ := r
  cases l <;> rfl
theorem dp_rec {K : PySem.W.Frag} {H : Hp} {v : V} {r : Rec} (h : RecV H v r) : Dp K H v (recD r) := by
  obtain ⟨a, rfl, h⟩ := h
  exact .tup (st_of h) (dp_flats (rec_flat r))
theorem dp_recO {K : PySem.W.Frag} {H : Hp} {v : V} {r : Option Rec} (h : recOV H v r) : Dp K H v (recOD r) := by
  cases r with
  | none =>
    rw [show v = .non from h]
    exact .non
  | some r => exact dp_rec h
theorem plain_rec (r : Rec) : (recD r).plain = true := plain_flats _
theorem depth_rec (r : Rec) : (recD r).depth = 1 := by
  show PyData.depthAll _ + 1 = 1
  rw [depth_flats]
theorem plain_recO (r : Option Rec) : (recOD r).plain = true := by
  cases r with
  | none => rfl
  | some r => exact plain_rec r
theorem depth_recO (r : Option Rec) : (recOD r).depth ≤ 60 := by
  cases r with
  | none => exact Nat.zero_le _
  | some r =>
    show (recD r).depth ≤ 60
    rw [depth_rec]
    decide
def rowD (p : Str × Rec) : PyData := .tuple [.str p.1, recD p.2]
theorem dp_row {K : PySem.W.Frag} {H : Hp} {v : V} {p : Str × Rec} (h : RowV H v p) : Dp K H v (rowD p) := by
  obtain ⟨w, ⟨a, rfl, h1⟩, h2⟩ := h
  exact .tup (st_of h1) (.cons (.str _) (.cons (dp_rec h2) .nil))
theorem dp_rows {K : PySem.W.Frag} {H : Hp} : ∀ {vs : List V} {ps : Recs}, Paired (RowV H) vs ps → DpAll K H vs (ps.map rowD)
  | _, _, .nil => .nil
  | _, _, .cons r t => .cons (dp_row r) (dp_rows t)
theorem plain_rows : ∀ ps : Recs, PyData.plainAll (ps.map rowD) = true
  | [] => rfl
  | p :: r => by
    rw [List.map_cons, PyData.plainAll, plain_rows r]
    show ((true && ((recD p.2).plain && true)) && true) = true
    rw [plain_rec]
    rfl
theorem depth_rows : ∀ ps : Recs, PyData.depthAll (ps.map rowD) ≤ 2
  | [] => Nat.zero_le _
  | p :: r => by
    rw [List.map_cons, PyData.depthAll]
    refine Nat.max_le.mpr ⟨?_, depth_rows r⟩
    show max 0 (max (recD p.2).depth 0) + 1 ≤ 2
    rw [depth_rec]
    decide
theorem dp_rowsAt {K : PySem.W.Frag} {H : Hp} {l : Addr} {ps : Recs} (h : RowsAt H l ps) : Dp K H (.ref l) (.list (ps.map rowD)) := by
  obtain ⟨vs, h1, h2⟩ := h
  exact .lst (sq_of h1) (dp_rows h2)
mutual
theorem dp_ex {K : PySem.W.Frag} {H H' : Hp} (e : Ex H H') : ∀ {v : V} {d : PyData}, Dp K H v d → Dp K H' v d
  | _, _, .non => .non
  | _, _, .bl b => .bl b
  | _, _, .int i => .int i
  | _, _, .str x => .str x
  | _, _, .lst h t => .lst (ex_l e h) (dpAll_ex e t)
  | _, _, .tup h t => .tup (ex_t e h) (dpAll_ex e t)
theorem dpAll_ex {K : PySem.W.Frag} {H H' : Hp} (e : Ex H H') : ∀ {v : List V} {d : List PyData}, DpAll K H v d → DpAll K H' v d
  | _, _, .nil => .nil
  | _, _, .cons h t => .cons (dp_ex e h) (dpAll_ex e t)
end
section
variable {K : PySem.W.Frag} {σ : L2.St} {H : Hp} {ta tb te td ty : TE} {p : Addr} {s : HS} {z : HCell} {E : XK} {k : Str}
theorem ev_eqPP {d e : PyData} (ha : EvP ta σ H (fun H v => Dp K H v d)) (hb : EvP tb σ H (fun H v => Dp K H v e)) (pd : d.plain = true) (pe : e.plain = true) (dd : d.depth ≤ 60) : Ev (tOp (rEqP K) ta tb) σ H (.bl (PyData.eqv d e)) := fun H1 e1 Q q =>
  ha H1 e1 _ fun x H2 e2 hx => hb H2 (e1.trans e2) _ fun y H3 e3 hy => ⟨d, e, dp_ex e3 hx, hy, pd, pe, dd, q H3 (e2.trans e3)⟩
theorem ev_nePP {d e : PyData} (ha : EvP ta σ H (fun H v => Dp K H v d)) (hb : EvP tb σ H (fun H v => Dp K H v e)) (pd : d.plain = true) (pe : e.plain = true) (dd : d.depth ≤ 60) : Ev (tOp (rNeP K) ta tb) σ H (.bl (!PyData.eqv d e)) := fun H1 e1 Q q =>
  ha H1 e1 _ fun x H2 e2 hx => hb H2 (e1.trans e2) _ fun y H3 e3 hy => ⟨d, e, dp_ex e3 hx, hy, pd, pe, dd, q H3 (e2.trans e3)⟩
theorem EvP.imp {P R : Hp → V → Prop} (h : EvP te σ H P) (f : ∀ H v, P H v → R H v) : EvP te σ H R := fun H1 e Q q => h H1 e Q fun v H2 e2 hp => q v H2 e2 (f H2 v hp)
theorem ev_number (he : Ev te σ H (.ref p)) (hh : HouseAt (clsHouse K) H p s z) : Ev (tMeth (clsHouse K) "number" (sp_h_number K) [] E te tNil) σ H (.int s.last) := fun H1 e1 Q q =>
  meth_call (he.mono e1) (hh.ex e1) (by decide +kernel) ea_nil fun H2 e2 => ⟨p, s, z, rfl, hh.ex (e1.trans e2), q H2 e2⟩
theorem at_last (s : HS) : s.at s.last = s.recs := by
  unfold HS.at
  rw [if_pos rfl]
theorem evp_look (he : Ev te σ H (.ref p)) (hh : HouseAt (clsHouse K) H p s z) (hk : Ev ta σ H (.str k)) (hkey : isKey k = true) (wf : s.Wf) (hs : s.log.length + s.old.length ≤ 50000) : EvP (tMeth (clsHouse K) "look" (sp_h_look K) [.non] E te (tCons ta tNil)) σ H (fun H v => recOV H v (lookR s.recs k)) := fun H1 e1 Q q =>
  meth_call (he.mono e1) (hh.ex e1) (by decide +kernel) (ea_cons (hk.mono e1) ea_nil) fun H2 e2 => ⟨p, s, z, k, none, rfl, hh.ex (e1.trans e2), hkey, wf.ok, hs, fun H3 e3 => ⟨(fun ⟨j, hj, _⟩ => nomatch hj), (fun ⟨j, hj, _⟩ => nomatch hj), fun _ v hv => by
    rw [show s.at (numV s none) = s.recs from at_last s] at hv
    exact q v H3 (e2.trans e3) hv⟩⟩
theorem evp_get1 {d : Addr} {rs : Recs} (hd : Ev td σ H (.ref d)) (ha : Ev ty σ H (.str k)) (h : RecsAt H d rs) : EvP (tDGet1 td ty) σ H (fun H v => recOV H v (lookR rs k)) := fun H1 e Q q =>
  hd H1 e _ fun H2 e2 => by
    have h2 := h.ex (e.trans e2)
    have h0 := h2
    obtain ⟨es, g1, g2⟩ := h0
    refine ⟨d, rfl, .inl ⟨es, .inl g1⟩, ha H2 (e.trans e2) _ fun H3 e3 => ?_⟩
    rcases dget_recs (h2.ex e3) k with ⟨v, r, g, l, hr⟩ | ⟨g, l⟩
    · exact ⟨some v, g, q v H3 (e2.trans e3) (by rw [l]; exact hr)⟩
    · exact ⟨none, g, q .non H3 (e2.trans e3) (by rw [l]; exact rfl)⟩
theorem evp_rows {a b : Str} (he : Ev te σ H (.ref p)) (hh : HouseAt (clsHouse K) H p s z) (h1 : Ev ta σ H (.str a)) (h2 : Ev tb σ H (.str b)) (ka : isKey a = true) (kb : isKey b = true) (wf : s.Wf) (hs : s.log.length + s.old.length ≤ 50000) (hr : s.recs.length < 64) :
    EvLP (tMeth (clsHouse K) "rows" (sp_h_rows K) [.non] E te (tCons ta (tCons tb tNil))) σ H RowV (spanRows s.recs a b) := fun H1 e1 Q q =>
  meth_call (he.mono e1) (hh.ex e1) (by decide +kernel) (ea_cons (h1.mono e1) (ea_cons (h2.mono e1) ea_nil)) fun H2 e2 => ⟨p, s, z, a, b, none, rfl, hh.ex (e1.trans e2), ka, kb, wf.ok, hs,
    by rw [show s.at (numV s none) = s.recs from at_last s]; exact wf.nd, by rw [show s.at (numV s none) = s.recs from at_last s]; exact hr, fun H3 e3 => ⟨(fun ⟨j, hj, _⟩ => nomatch hj), (fun ⟨j, hj, _⟩ => nomatch hj), fun _ l hl hv => by
      rw [show s.at (numV s none) = s.recs from at_last s] at hv
      exact q l H3 (fresh_back e2 hl) (e2.trans e3) hv⟩⟩
theorem evp_lrows {d : Addr} {rs : Recs} {a b : Str} (hd : Ev td σ H (.ref d)) (h1 : Ev ta σ H (.str a)) (h2 : Ev tb σ H (.str b)) (h : RecsAt H d rs) (hn : (keysA rs).Nodup) (hl : rs.length < 64) : EvLP (tCall (sp_l_rows K) [] E (tCons td (tCons ta (tCons tb tNil)))) σ H RowV (spanRows rs a b) := fun H1 e1 Q q =>
  (ea_cons hd (ea_cons h1 (ea_cons h2 ea_nil))) H1 e1 _ fun H2 e2 => ⟨d, rs, a, b, rfl, h.ex (e1.trans e2), hn, hl, fun H3 l e3 hl hr => q l H3 (fresh_back e2 hl) (e2.trans e3) hr⟩
end
end KW

/-! len(set(texts)): how many unlike texts there are in a list -/
namespace KW
open PySem PySem.Spec PyProof.Rows L2
/-- how many of the rest are new -/
def news : List Str → List Str → Nat
  | _, [] => 0
  | pre, x :: r => (if x ∈ pre then 0 else 1) + news (pre ++ [x]) r
def unlike (xs : List Str) : Nat := news [] xs
theorem news_le : ∀ (rest pre : List Str), news pre rest ≤ rest.length
  | [], _ => Nat.le_refl _
  | x :: r, pre => by
    have h := news_le r (pre ++ [x])
    show (if x ∈ pre then 0 else 1) + news (pre ++ [x]) r ≤ r.length + 1
    split <;> omega
theorem news_nodup : ∀ (rest pre : List Str), pre.Nodup → (news pre rest = rest.length ↔ (pre ++ rest).Nodup)
  | [], pre, hp => by simp [news, hp]
  | x :: r, pre, hp => by
    have hle := news_le r (pre ++ [x])
    show (if x ∈ pre then 0 else 1) + news (pre ++ [x]) r = r.length + 1 ↔ _
    by_cases hx : x ∈ pre
    · rw [if_pos hx]
      constructor
      · intro h; omega
      · intro h
        exact absurd (List.nodup_append.mp h).2.2 fun z => z x hx x List.mem_cons_self rfl
    · rw [if_neg hx]
      have hp2 : (pre ++ [x]).Nodup := List.nodup_append.mpr ⟨hp, by simp, fun a ha b hb e => hx (by
        rw [List.mem_singleton] at hb
        rw [← hb, ← e]
        exact ha)⟩
      have ih := news_nodup r (pre ++ [x]) hp2
      rw [List.append_assoc] at ih
      constructor
      · intro h; exact ih.mp (by omega)
      · intro h; have := ih.mpr h; omega
theorem unlike_len (xs : List Str) : unlike xs = xs.length ↔ xs.Nodup := news_nodup xs [] List.nodup_nil
section
variable {prog : Program} {w : World} {A : Around} {R : Result → Shared → Prop} {I : Addr} {fp wr : List Addr} {G : Array GenState → Array GenState → Prop} {n : Nat} {P : Nat → Value → Prop} {St : Nat → Shared → Prop}
theorem setOf_move {h h' : Heap} {S : Addr} {f : Str → Bool} {c : Nat} (hS : h.SetOf (strKind prog w) S f c) (k : ∀ o, h.get? S = some o → h'.get? S = some o) : h'.SetOf (strKind prog w) S f c :=
  match hS with
  | ⟨o, es, ep, t, ho, r⟩ => ⟨o, es, ep, t, k o ho, r⟩
/-- the loop that puts texts into a set -/
theorem texts_in (W : WalksS prog w A.in1 I fp wr G n P St) {S : Addr} (off : S ∉ fp) {xs : List Str} (en : n = xs.length) (small : xs.length < 1000) (val : ∀ i v, P i v → ∃ t, v = .str (xs.getD i Str.empty) t) :
    ∀ (rest pre : List Str) (c : Nat) (s : Shared), xs = pre ++ rest → c ≤ pre.length → St pre.length s → s.heap.SetOf (strKind prog w) S (fun k => decide (k ∈ pre)) c →
      (∀ s', Moved (S :: wr) G s s' → s'.heap.SetOf (strKind prog w) S (fun k => decide (k ∈ xs)) (c + news pre rest) → R (.ok (.ret .none)) s') →
      codeAny (model prog w) A (.builtin "set.update.loop" ⟨[.ref S, .ref I], []⟩) R s := by
  have offw : S ∉ wr := fun z => off (W.sub S z)
  have wide : ∀ b ∈ wr, b ∈ S :: wr := fun b z => List.mem_cons_of_mem _ z
  intro rest
  induction rest with
  | nil =>
    intro pre c s ex _ st hS k
    have hp : pre.length = n := by rw [en, ex, List.append_nil]
    refine codeAny_builtin F.entry_set_update_loop ?_
    rw [Around.under_plainId F.plain_set_update_loop _]
    refine wpAny_bind (W.done s _ _ (by rw [← hp]; exact st) fun s' mv => wpAny_pure (k s' (mv.mono wide) ?_))
    rw [ex, List.append_nil]
    exact setOf_move hS fun o e => mv.heap S o offw e
  | cons x r ih =>
    intro pre c s ex hc st hS k
    have hx : xs.getD pre.length Str.empty = x := by rw [ex]; simp
    have hlt : pre.length < n := by rw [en, ex]; simp
    have hlen : pre.length < 1000 := by rw [en] at hlt; omega
    refine codeAny_builtin F.entry_set_update_loop ?_
    rw [Around.under_plainId F.plain_set_update_loop _]
    refine wpAny_bind (W.item pre.length s _ _ hlt st fun v s1 hv st1 mv => ?_)
    obtain ⟨t, rfl⟩ := val _ v hv
    rw [hx]
    refine wpAny_bind (wpAny_holding (wpAny_holding (wpAny_bind ((strKind prog w).pyHash (k := x) (strKind_is _ _ _ _) ?_))))
    have hS1 : s1.heap.SetOf (strKind prog w) S (fun k => decide (k ∈ pre)) c := setOf_move hS fun o e => mv.heap S o offw e
    refine wpAny_setAddHashed_of (knd := strKind prog w) (s := { s1 with toks := s1.toks + 1 }) (strKind_is _ _ _ _) rfl hS1 (by unfold scanBound; omega) fun h2 sb hS2 => ?_
    have hk : ∀ b o, b ≠ S → s1.heap.get? b = some o → h2.get? b = some o := fun b o n e => (sb.2 b n).trans e
    have hS3 : h2.SetOf (strKind prog w) S (fun k => decide (k ∈ pre ++ [x])) (c + if x ∈ pre then 0 else 1) := by
      refine SetOf_congr hS2 (fun k => ?_) ?_
      · simp [List.mem_append]
      · by_cases hm : x ∈ pre <;> simp [hm]
    refine wpAny_pure ⟨plainId_quiet F.plain_set_update_loop _, ih (pre ++ [x]) _ _ (by rw [ex]; simp) ?_ ?_ hS3 fun s3 mv3 hS4 => ?_⟩
    · rw [List.length_append]
      show c + _ ≤ pre.length + 1
      split <;> omega
    · rw [List.length_append]
      exact W.frame _ s1 _ _ st1 (Nat.le_succ _) fun b hb o e => hk b o (fun z => off (by rw [← z]; exact hb)) e
    · refine k s3 (Moved.trans W.gtrans ((mv.mono wide).then_heap (Nat.le_succ _) fun b o hb e => hk b o (fun z => hb (by rw [z]; exact List.mem_cons_self)) e) mv3) ?_
      rw [show c + news pre (x :: r) = (c + if x ∈ pre then 0 else 1) + news (pre ++ [x]) r from (Nat.add_assoc _ _ _).symm]
      exact hS4
end

/-- a new set, empty -/
abbrev set0 (led : Bool) : Obj := { cls := .type "set", dict := none, data := .set #[] 0 (.fresh 0 0 led) }
abbrev itOf (l : Addr) : Obj := { cls := .type "list_iterator", data := .fields #[.ref l, .int 0 0] }
section
variable {prog : Program} {w : World} {A : Around} {E : Value → Shared → Prop} {s : Shared}
/-- what stands behind set(l) -/
def Made (prog : Program) (w : World) (s : Shared) (xs : List Str) (s2 : Shared) : Prop :=
  ∃ h tk, s2 = { s with heap := h, toks := tk } ∧ h.SetOf (strKind prog w) s.heap.objs.size (fun k => decide (k ∈ xs)) (unlike xs) ∧ ∀ b o, s.heap.get? b = some o → h.get? b = some o
theorem set_filled {l : Addr} {items : Array Value} {xs : List Str} (calm : A.handled = none) (hl : s.heap.IsList l items) (hi : StrsAre items.toList xs) (small : xs.length < 1000) (led : Bool) :
    wpAny (model prog w) A (Builtin.«set.__init__» ⟨[.ref s.heap.objs.size, .ref l], []⟩) (fun r s2 => r = .done (.ret .none) ∧ Made prog w s xs s2) E { s with heap := s.heap.push (set0 led) } := by
  obtain ⟨⟨ocls, odict, odata, oslots⟩, hol, hcl, nl, hdl⟩ := hl
  simp only at hcl hdl
  subst hcl hdl
  have here : (s.heap.push (set0 led)).get? s.heap.objs.size = some (set0 led) := Heap.get?_push_size _ rfl
  have old : (s.heap.push (set0 led)).get? l = some { cls := .type "list", dict := odict, data := .seq items nl, slots := oslots } := Heap.get?_push_of_some _ hol
  have f1 := F.sub_list_set
  have f2 := F.sub_list_frozenset
  have f3 : (Value.type "list" == Value.type "dict") = false := by decide
  have isl : (s.heap.push (set0 led)).IsList l items := ⟨_, old, rfl, nl, rfl⟩
  unfold Builtin.«set.__init__» noKeywords Builtin.Frozenset.updateFrom
  generalize eq : pyIter = it
  wp_walk
  subst eq
  have lo : l < s.heap.objs.size := Heap.lt_size hol
  refine wpAny_pyIter_list isl (wpAny_bind (wpAny_runValue ?_))
  have far : s.heap.objs.size ≠ (s.heap.push (set0 led)).objs.size := by rw [Heap.size_push]; exact Nat.ne_of_lt (Nat.lt_succ_self _)
  have fl : l ≠ (s.heap.push (set0 led)).objs.size := by rw [Heap.size_push]; exact Nat.ne_of_lt (Nat.lt_succ_of_lt lo)
  have len : items.size = xs.length := by rw [← StrsAre.len_eq hi, Array.length_toList]
  have c3 : A.in1.handled = none := by simp [calm]
  refine texts_in (A := A) ((Walks.list c3 _ l fl items).toS) (S := s.heap.objs.size) (fun z => ?_) len small (fun i v hv => SS.strs_at hi i v (by rw [Array.getElem?_toList]; exact hv)) xs [] 0 _ rfl (Nat.le_refl _) ⟨⟨_, Heap.get?_push_size _ rfl, rfl, rfl⟩, isl.push _⟩ ?_ fun s2 mv hS => ?_
  · rcases List.mem_cons.mp z with z | z
    · exact far z
    · rcases List.mem_cons.mp z with z | z
      · exact absurd lo (by rw [z]; exact Nat.lt_irrefl _)
      · cases z
  · exact SetOf_congr ((setObjOf_fresh (knd := strKind prog w) led).setOf (Heap.get?_push_of_some _ here) (by unfold scanBound; omega)) (fun _ => rfl) rfl
  · obtain ⟨h2, g2, d2, t2, o2⟩ := s2
    have eg : g2 = s.gens := mv.gens
    have ed : d2 = s.drawn := mv.drawn
    have eo : o2 = s.os := mv.os
    subst eg ed eo
    refine wpAny_pure (wpAny_pure ⟨rfl, h2, t2, rfl, by rw [Nat.zero_add] at hS; exact hS, fun b o e => ?_⟩)
    have lb := Heap.lt_size e
    refine mv.heap b o (fun z => ?_) (Heap.get?_push_of_some _ (Heap.get?_push_of_some _ e))
    rcases List.mem_cons.mp z with z | z
    · exact Nat.lt_irrefl _ (by rw [z] at lb; exact lb)
    · have z2 : b = (s.heap.push (set0 led)).objs.size := by simpa using z
      rw [Heap.size_push] at z2
      rw [z2] at lb
      exact Nat.lt_irrefl _ (Nat.lt_of_succ_lt lb)
/-- set(l), a list of texts -/
theorem set_texts {l : Addr} {items : Array Value} {xs : List Str} {Q : Value → Shared → Prop} (calm : A.handled = none) (hl : s.heap.IsList l items) (hi : StrsAre items.toList xs) (small : xs.length < 1000)
    (k : ∀ s2, Made prog w s xs s2 → Q (.ref s.heap.objs.size) s2) : wpAny (model prog w) A (call (.type "set") [.ref l]) Q E s := by
  have m1 := F.called_set.made
  have m2 := F.called_set.sub
  have m3 := F.called_set.notType
  have m4 := F.called_set.canCreate
  have m5 := F.typeCall_set_1 (.ref l)
  obtain ⟨c, tl, m6⟩ := F.called_set.mro
  refine wpAny_call (codeAny_of_tree (wpAny_pure ⟨Code.quiet_builtin _ (by decide +kernel), codeAny_builtin F.entry_type_call ?_⟩))
  rw [Around.under_plain (weight_type_call_type "set" [.ref l] []) rfl]
  repeat (any_goals (first | assumption | wp_step))
  refine codeAny_mono (code_set_new_1 (.ref l) (E := E) (Q₁ := fun v s1 => ∃ led, v = .ref s.heap.objs.size ∧ s1 = { s with heap := s.heap.push (set0 led) }) fun led => ⟨led, rfl, rfl⟩) fun r s1 hr => ?_
  match r, hr with
  | .error e, hr => exact hr
  | .ok (.ret v), ⟨led, e1, e2⟩ =>
    subst e1 e2
    have ty : Shared.TypeIs { s with heap := s.heap.push (set0 led) } (.ref s.heap.objs.size) "set" := ⟨_, Heap.get?_push_size _ rfl, rfl⟩
    have m7 := F.called_set.init.lookup
    have m8 := F.called_set.init.bind (.ref s.heap.objs.size)
    repeat (any_goals (first | assumption | wp_step))
    refine codeAny_mono (codeAny_call_builtin (R := wants (fun r s2 => r = .none ∧ Made prog w s xs s2) E) F.called_set.init.plain F.entry_set_init (check_set_init_1 ty ?_)) fun r2 s2 hr2 => ?_
    · exact wpAny_mono (set_filled (by simp [calm]) hl hi small led) (fun fin s2 ⟨e, m⟩ => by subst e; exact ⟨rfl, m⟩) fun _ _ z => z
    · match r2, hr2 with
      | .error e, hr2 => exact hr2
      | .ok (.ret v), ⟨e1, m⟩ =>
        subst e1
        have hm := m
        obtain ⟨h2, t2, e2, q1, q2⟩ := m
        subst e2
        repeat (any_goals (first | assumption | wp_step))
        exact k _ hm
end
/-- len(set(xs)), xs a list of texts -/
def tUnlike (K : PySem.W.Frag) (ta : TE) : TE := fun σ H Q => ta σ H fun x H1 => ∃ (l : Addr) (xs : List Str), x = .ref l ∧ SqL K H1 l (xs.map V.str) ∧ xs.length < 1000 ∧ Q (.int (unlike xs : Nat)) H1
theorem pe_unlike {X : Cx} {a : Expr} {ta : TE} {p p2 q pos : Pos} (hc : X.calm = true) (g1 : Gl X "len") (m1 : X.mg "len" = none) (g2 : Gl X "set") (m2 : X.mg "set" = none) (ha : PE X a ta)
    (na : starEach [a] X.env = (false, eval a X.env) :: starEach [] X.env := by rfl) : PE X (.Call (.Name "len" p) [.Call (.Name "set" p2) [a] [] q] [] pos) (tUnlike X.K ta) :=
  ⟨fun pins s σ H Q I h => Call_ (ld_blt I g1 m1 boot_len (callWith_builtin1 (args_cons (Call_ (ld_blt I g2 m2 boot_set
    (callWith_type1 (args_cons (thn (ha.run pins s σ H _ I h) fun v s1 ⟨x, H1, I1, r1, l, xs, ex, hq, small, q1⟩ => args_nil (by
      subst ex
      cases r1
      obtain ⟨its, rv, pl, _⟩ := I1.list hq
      refine set_texts (I1.ok.hd hc) pl.isList (xs := xs) (by simpa using strsAre_of rv) small fun s2 ⟨h2, t2, e2, hS, hk⟩ => ?_
      subst e2
      obtain ⟨o, es, ep, t, ho, hex, hd, _, _, _, hf, hn⟩ := hS
      have I2 : Inv X pins σ H1 { s1 with heap := h2, toks := t2 } := I1.kept hk
      have lt := news_le xs []
      exact args_nil (call_len_set ho hex hd hf (by rw [hn]; unfold unlike; omega) ⟨.int (unlike xs : Nat), H1, I2.tok _, ⟨_, by rw [hn]⟩, q1⟩))) na) na rfl))) rfl) rfl rfl))⟩
end KW

/-! rules under a name -/
namespace KW
open PySem PySem.Spec PyProof.Rows L2
def rDictP (K : PySem.W.Frag) : List V → Hp → VK → Prop := fun xs H Q => ∃ (a : Addr) (ps : List Addr) (kvs : List (Key × V)), xs = [.ref a] ∧ SqL K H a (ps.map V.ref) ∧ Paired (fun p kv => SqT K H p [kV kv.1, kv.2]) ps kvs ∧
    ∀ p, H p = none → Q (.ref p) (upd H p (.dK (mergeK [] kvs)))
theorem call_dictP1 {X : Cx} (hc : X.calm = true) : CallR X (.type "dict") (rDictP X.K) := call_dictP hc
end KW

/-! comprehensions of any target, over dicts and enumerations too -/
namespace KW
open PySem PySem.Spec PyProof.Rows L2 Evl
/-- what is walked over: each turn gives a thing that answers the next one of ds -/
structure Walk2 {β : Type} (J : It) (B : Hp) (R : Hp → V → β → Prop) (ds : List β) : Prop where
  go : ∀ i d H, Ex B H → ds[i]? = some d → J.go i H
  stop : ∀ H, Ex B H → J.stop ds.length H
  yld : ∀ i d H v H', Ex B H → ds[i]? = some d → J.yld i H v H' → Ex H H' ∧ R H' v d
theorem Walk1.to2 {β : Type} {J : It} {B : Hp} {xs : List V} {R : Hp → V → β → Prop} {ds : List β} (h : Walk1 J B xs) (p : Paired (R B) xs ds) (st : ∀ H v d, Ex B H → R B v d → R H v d) : Walk2 J B R ds where
  go := fun i d H e hd => by
    obtain ⟨x, hx, _⟩ := pr_get' p hd
    exact h.go i x H e hx
  stop := fun H e => by
    rw [← pr_len p]
    exact h.stop H e
  yld := fun i d H v H' e hd hy => by
    obtain ⟨x, hx, hr⟩ := pr_get' p hd
    obtain ⟨rfl, rfl⟩ := h.yld i x H v H' e hx hy
    exact ⟨Ex.refl _, st _ _ _ e hr⟩
theorem walk_keys {κ α : Type} {f : κ → Key} {R : V → α → Prop} {B : Hp} {d : Addr} {o : Obj} {es : List (Key × V)} {rs : List (κ × α)} (h : B d = some (.frz o (.dK es))) (p : Paired (fun (e : Key × V) (q : κ × α) => e.1 = f q.1 ∧ R e.2 q.2) es rs) :
    Walk2 (Itk d o es) B (fun _ v k => v = kV (f k)) (keysA rs) where
  go := fun i k H e hk => by
    have hl : i < (keysA rs).length := (List.getElem?_eq_some_iff.mp hk).1
    unfold keysA at hl
    rw [List.length_map, ← pr_len p] at hl
    exact ⟨e _ _ h, hl⟩
  stop := fun H e => by
    refine ⟨e _ _ h, ?_⟩
    unfold keysA
    rw [List.length_map, ← pr_len p]
    exact Nat.le_refl _
  yld := fun i k H v H' e hk hy => by
    obtain ⟨rfl, k', v', h1, h2⟩ := hy
    refine ⟨Ex.refl _, ?_⟩
    obtain ⟨q, h3, h4, _⟩ := pr_get p h1
    unfold keysA at hk
    rw [List.getElem?_map, h3] at hk
    rw [h2, show k' = f q.1 from h4, ← Option.some.inj hk]
theorem walk_enum {β : Type} {K : PySem.W.Frag} {B : Hp} {a : Addr} {xs : List V} {R : V → β → Prop} {ds : List β} (h : SqL K B a xs) (p : Paired R xs ds) :
    Walk2 (Ite K a) B (fun H v (q : Nat × β) => ∃ x, R x q.2 ∧ TAt H v [.int (q.1 : Nat), x]) (ds.zipIdx.map fun q => (q.2, q.1)) where
  go := fun i d H e hd => by
    rw [List.getElem?_map, List.getElem?_zipIdx] at hd
    obtain ⟨q, hq, _⟩ := Option.map_eq_some_iff.mp hd
    obtain ⟨y, hy, _⟩ := Option.map_eq_some_iff.mp hq
    obtain ⟨x, hx, _⟩ := pr_get' p hy
    exact ⟨xs, x, ex_l e h, hx⟩
  stop := fun H e => ⟨xs, ex_l e h, by rw [List.length_map, List.length_zipIdx, pr_len p]; exact Nat.le_refl _⟩
  yld := fun i d H v H' e hd hy => by
    obtain ⟨T, x, rfl, hT, rfl, hx⟩ := hy
    have hx := hx xs (ex_l e h)
    rw [List.getElem?_map, List.getElem?_zipIdx] at hd
    obtain ⟨q, hq, e2⟩ := Option.map_eq_some_iff.mp hd
    obtain ⟨y, hy, e1⟩ := Option.map_eq_some_iff.mp hq
    obtain ⟨y', hy', hr⟩ := pr_get p hx
    rw [hy] at hy'
    cases hy'
    subst e1
    subst e2
    refine ⟨Ex.new hT, x, hr, T, rfl, ?_⟩
    rw [Nat.zero_add]
    exact upd_same
def EvI2 {β : Type} (wi : TI) (σ : L2.St) (B : Hp) (R : Hp → V → β → Prop) (ds : List β) : Prop := ∀ H1, Ex B H1 → ∀ Q : It → Hp → Prop, (∀ J H2, Ex H1 H2 → Walk2 J H2 R ds → Q J H2) → wi σ H1 Q
section
variable {α β : Type} {K : PySem.W.Frag} {σ : L2.St} {B : Hp} {tl te : TE} {xs : List V} {a : Addr} {R : Hp → V → β → Prop} {ds : List β}
theorem EvI.to2 {wi : TI} (h : EvI wi σ B xs) (p : Paired (R B) xs ds) (st : ∀ H H' v d, Ex H H' → R H v d → R H' v d) : EvI2 wi σ B R ds := fun H1 e Q q => h H1 e Q fun J H2 e2 w => q J H2 e2 (w.to2 (pr_mono p fun a b z => st _ _ _ _ (e.trans e2) z) fun H v d e3 z => st _ _ _ _ e3 z)
theorem ei_listP {P : Hp → V → β → Prop} (h : EvLP tl σ B P ds) (st : ∀ H H' v d, Kt H H' → P H v d → P H' v d) : EvI2 (iList K tl) σ B P ds := fun H1 e Q q => h H1 e _ fun p H2 hp e2 hl => by
  obtain ⟨vs, h1, h2⟩ := hl
  exact ⟨p, rfl, ⟨vs, sq_of h1⟩, q _ H2 e2 ((walk_list (sq_of h1)).to2 h2 fun H v d e3 z => st _ _ _ _ (Ex.kt e3) z)⟩
theorem ei_keys {κ γ : Type} {f : κ → Key} {P : V → γ → Prop} {d : Addr} {o : Obj} {es : List (Key × V)} {rs : List (κ × γ)} (h : Ev tl σ B (.ref d)) (hd : B d = some (.frz o (.dK es))) (p : Paired (fun (e : Key × V) (q : κ × γ) => e.1 = f q.1 ∧ P e.2 q.2) es rs) :
    EvI2 (iKeys tl) σ B (fun _ v k => v = kV (f k)) (keysA rs) := fun H1 e Q q => h H1 e _ fun H2 e2 => ⟨d, o, rfl, .inl ⟨es, (e.trans e2) _ _ hd, q _ H2 e2 (walk_keys ((e.trans e2) _ _ hd) p)⟩⟩
theorem ei_enum {P : V → β → Prop} (h : Ev tl σ B (.ref a)) (hx : SqL K B a xs) (p : Paired P xs ds) : EvI2 (iEnum K (tCons tl tNil)) σ B (fun H v (q : Nat × β) => ∃ x, P x q.2 ∧ TAt H v [.int (q.1 : Nat), x]) (ds.zipIdx.map fun q => (q.2, q.1)) := fun H1 e Q q =>
  h H1 e _ fun H2 e2 => ⟨a, xs, rfl, ex_l (e.trans e2) hx, q _ H2 e2 (walk_enum (ex_l (e.trans e2) hx) p)⟩
/-- any comprehension whose turns change nothing -/
theorem lc_gen {P : Hp → V → α → Prop} {wi : TI} {tt : TT} {g : TG} {vs : List Nat} (hi : EvI2 wi σ B R ds) (f : β → Option α) (st : ∀ H H' v y, Kt H H' → P H v y → P H' v y)
    (turn : ∀ x d H1, Ex B H1 → R H1 x d → d ∈ ds → ∃ σ', (∀ Q, Q σ' H1 → g x (wipe σ vs) H1 Q) ∧ wipe σ' vs = wipe σ vs ∧ EvT tt σ' H1 (f d).isSome ∧ ∀ y, f d = some y → EvP te σ' H1 (fun H v => P H v y)) (hl : ds.length ≤ 100000) :
    EvLP (tLc wi g tt te vs) σ B P (ds.filterMap f) := fun H1 e Q q => by
  refine hi H1 e _ fun J H2 e2 W => ?_
  intro D hD
  refine ⟨fun i m H => m = ds.length - i ∧ i ≤ ds.length ∧ Ex H2 H ∧ ∃ acc, H D = some (.lst acc) ∧ Paired (P H) acc ((ds.take i).filterMap f), ⟨ds.length, by simp, Nat.zero_le _, Ex.new hD, [], upd_same, .nil⟩, ?_⟩
  rintro i m H ⟨rfl, hi2, eH, acc, hacc, pacc⟩
  by_cases hlt : i < ds.length
  · refine .inr ?_
    obtain ⟨d, hd⟩ : ∃ d, ds[i]? = some d := ⟨_, List.getElem?_eq_getElem hlt⟩
    have htake : ds.take (i + 1) = ds.take i ++ [d] := by
      rw [List.take_succ, hd]
      rfl
    refine ⟨W.go i d H eH hd, fun H' => i + 1 ≤ ds.length ∧ Ex H2 H' ∧ ∃ acc, H' D = some (.lst acc) ∧ Paired (P H') acc ((ds.take (i + 1)).filterMap f), fun H' h' => ⟨ds.length - (i + 1), by omega, rfl, h'⟩, ?_⟩
    intro v H' hy
    obtain ⟨ey, hR⟩ := W.yld i d H v H' eH hd hy
    have eB : Ex B H' := ((e.trans e2).trans eH).trans ey
    obtain ⟨σ', g1, g2, g3, g4⟩ := turn v d H' eB hR (List.mem_of_getElem? hd)
    refine g1 _ ⟨g2, ?_⟩
    have hflen : acc.length ≤ i := by
      have h1 := pr_len pacc
      have h2 : ((ds.take i).filterMap f).length ≤ (ds.take i).length := List.length_filterMap_le _ _
      rw [List.length_take] at h2
      omega
    refine g3 H' (Ex.refl _) _ fun H3 e3 => ?_
    cases hf : f d with
    | none =>
      show (if false = true then _ else _)
      rw [if_neg Bool.false_ne_true]
      refine ⟨hlt, (eH.trans ey).trans e3, acc, e3 D _ (ey D _ hacc), ?_⟩
      rw [htake, List.filterMap_append]
      have : List.filterMap f [d] = [] := by simp [hf]
      rw [this, List.append_nil]
      exact pr_mono pacc fun a b z => st _ _ _ _ (Ex.kt (ey.trans e3)) z
    | some y =>
      show (if true = true then _ else _)
      rw [if_pos rfl]
      refine g4 y hf H3 e3 _ fun u H4 e4 hu => ?_
      have hD4 : H4 D = some (.lst acc) := e4 D _ (e3 D _ (ey D _ hacc))
      have kt5 : Kt H4 (upd H4 D (.lst (acc ++ [u]))) := (Kt.refl H4).upd (ne_tup_of hD4 fun xs z => by cases z)
      refine ⟨acc, hD4, Nat.lt_of_le_of_lt hflen (Nat.lt_of_lt_of_le hlt (sz_of hl)), hlt, ?_, acc ++ [u], upd_same, ?_⟩
      · exact Ex.mut (((eH.trans ey).trans e3).trans e4) hD
      · rw [htake, List.filterMap_append]
        have : List.filterMap f [d] = [y] := by simp [hf]
        rw [this]
        exact pr_append (pr_mono pacc fun a b z => st _ _ _ _ (Ex.kt ((ey.trans e3).trans e4)) (z) |> fun z => st _ _ _ _ kt5 z) (.cons (st _ _ _ _ kt5 hu) .nil)
  · have hi3 : i = ds.length := by omega
    subst hi3
    refine .inl ⟨W.stop H eH, q D H (fresh_back e2 hD) (e2.trans eH) ⟨acc, hacc, ?_⟩⟩
    rw [List.take_length] at pacc
    exact pacc
/-- a target of one name -/
theorem g_name {j : Nat} {x : V} {vs : List Nat} {H1 : Hp} : ∀ Q : L2.St → Hp → Prop, Q ((wipe σ vs).set j (some x)) H1 → gName j x (wipe σ vs) H1 Q := fun Q q => q
/-- a target of two names -/
theorem g_two {i j : Nat} {x u v : V} {τ : L2.St} {H1 : Hp} (h : TAt H1 x [u, v]) : ∀ Q : L2.St → Hp → Prop, Q ((τ.set i (some u)).set j (some v)) H1 → gTup K 2 (gCons (gName i) (gCons (gName j) gNil)) x τ H1 Q := fun Q q => by
  obtain ⟨a, rfl, h⟩ := h
  exact ⟨a, _, rfl, st_of h, rfl, _, _, rfl, _, _, rfl, rfl, q⟩
theorem g_three {i j k : Nat} {x u v w : V} {τ : L2.St} {H1 : Hp} (h : TAt H1 x [u, v, w]) : ∀ Q : L2.St → Hp → Prop, Q (((τ.set i (some u)).set j (some v)).set k (some w)) H1 → gTup K 3 (gCons (gName i) (gCons (gName j) (gCons (gName k) gNil))) x τ H1 Q := fun Q q => by
  obtain ⟨a, rfl, h⟩ := h
  exact ⟨a, _, rfl, st_of h, rfl, _, _, rfl, _, _, rfl, _, _, rfl, rfl, q⟩
end
theorem et_yes {σ : L2.St} {H : Hp} : EvT tYes σ H true := fun H1 e Q q => q H1 (Ex.refl H1)
/-! ### a dict is locked while it is walked over -/
theorem ex_lock {H H' : Hp} {d : Addr} {u : HO} {o : Obj} (hd : H d = some u) (e : Ex (upd H d (.frz o u)) H') : Ex H (upd H' d u) := fun b w hb => by
  by_cases n : b = d
  · subst n
    rw [upd_same, ← hd]
    exact hb
  · rw [upd_ne n]
    exact e b w (by rw [upd_ne n]; exact hb)
theorem fresh_lock {H : Hp} {d p : Addr} {u : HO} (h : upd H d u p = none) : H p = none := by
  by_cases n : p = d
  · subst n
    rw [upd_same] at h
    cases h
  · rw [upd_ne n] at h
    exact h
theorem kt_lock {H : Hp} {d : Addr} {o : Obj} {u : HO} (hd : H d = some (.frz o u)) : Kt H (upd H d u) := (Kt.refl H).upd (ne_tup_of hd fun xs z => by cases z)
theorem kt_lock' {H : Hp} {d : Addr} {o : Obj} {es : List (Key × V)} (hd : H d = some (.dK es)) : Kt H (upd H d (.frz o (.dK es))) := (Kt.refl H).upd (ne_tup_of hd fun xs z => by cases z)
theorem EvLP.lock {α : Type} {te : TE} {σ : L2.St} {B : Hp} {P : Hp → V → α → Prop} {ys : List α} {d : Addr} {es : List (Key × V)} (hd : B d = some (.dK es)) (st : ∀ H H' v y, Kt H H' → P H v y → P H' v y)
    (h : ∀ o H1, Ex B H1 → EvLP te σ (upd H1 d (.frz o (.dK es))) P ys) : EvLP (tLockE te) σ B P ys := fun H1 e Q q => by
  have h1 := e _ _ hd
  refine ⟨d, _, h1, trivial, fun od => h od H1 e _ (Ex.refl _) _ fun p H2 hp e2 hl => ?_⟩
  have h2 := e2 d _ upd_same
  refine ⟨h2, q p _ (fresh_lock hp) (ex_lock h1 e2) ?_⟩
  obtain ⟨vs, l1, l2⟩ := hl
  refine ⟨vs, ?_, pr_mono l2 fun a b z => st _ _ _ _ (kt_lock h2) z⟩
  rw [upd_ne]
  · exact l1
  · intro z
    rw [z, upd_same] at hp
    cases hp
end KW

/-! the promises: conditions, dealings, leases, the laws' deeds -/
namespace KW
open PySem PySem.Spec PyProof.Rows L2 Evl
def CondA (H : Hp) : Cond → V → Prop
  | .value k n, v => TAt H v [.str "value", .str k, .int n]
  | .changed k n, v => TAt H v [.str "changed", .str k, .int n]
  | .version k n, v => TAt H v [.str "version", .str k, .int n]
  | .less k n, v => TAt H v [.str "below", .str k, .int n]
  | .neg c, v => ∃ w, TAt H v [.str "not", w] ∧ CondA H c w
def CondV (H : Hp) (v : V) (c : Cond) : Prop := CondA H c v
theorem CondV.kt {H H' : Hp} (k : Kt H H') : ∀ {c : Cond} {v : V}, CondV H v c → CondV H' v c
  | .value _ _, _, h => TAt.kt k h
  | .changed _ _, _, h => TAt.kt k h
  | .version _ _, _, h => TAt.kt k h
  | .less _ _, _, h => TAt.kt k h
  | .neg c, _, ⟨w, h1, h2⟩ => ⟨w, h1.kt k, CondV.kt (c := c) k h2⟩
/-- a tuple of things -/
def TupOf {α : Type} (P : Hp → V → α → Prop) (H : Hp) (v : V) (xs : List α) : Prop := ∃ vs, TAt H v vs ∧ Paired (P H) vs xs
theorem TupOf.kt {α : Type} {P : Hp → V → α → Prop} {H H' : Hp} {v : V} {xs : List α} (k : Kt H H') (st : ∀ v x, P H v x → P H' v x) (h : TupOf P H v xs) : TupOf P H' v xs := by
  obtain ⟨vs, h1, h2⟩ := h
  exact ⟨vs, h1.kt k, pr_mono h2 st⟩
abbrev DeedsV : Hp → V → List Deed → Prop := TupOf DeedV
abbrev CondsV : Hp → V → List Cond → Prop := TupOf CondV
theorem DeedsV.kt {H H' : Hp} {v : V} {ds : List Deed} (k : Kt H H') (h : DeedsV H v ds) : DeedsV H' v ds := TupOf.kt k (fun _ _ z => DeedV.kt k z) h
theorem CondsV.kt {H H' : Hp} {v : V} {ds : List Cond} (k : Kt H H') (h : CondsV H v ds) : CondsV H' v ds := TupOf.kt k (fun _ _ z => CondV.kt k z) h
def LDeedV (H : Hp) (v : V) : LDeed → Prop
  | .one d => DeedV H v d
  | .deal cs ts os => ∃ a b c, TAt H v [.str "deal", a, b, c] ∧ CondsV H a cs ∧ DeedsV H b ts ∧ DeedsV H c os
  | .grant t => TAt H v [.str "grant", .int t]
  | .wait n => TAt H v [.str "wait", .int n]
  | .renew l => TAt H v [.str "renew", .int l]
  | .give l => TAt H v [.str "give", .int l]
theorem LDeedV.kt {H H' : Hp} {v : V} {d : LDeed} (k : Kt H H') (h : LDeedV H v d) : LDeedV H' v d := by
  cases d with
  | one d => exact DeedV.kt k h
  | deal cs ts os =>
    obtain ⟨a, b, c, h1, h2, h3, h4⟩ := h
    exact ⟨a, b, c, h1.kt k, h2.kt k, h3.kt k, h4.kt k⟩
  | grant t => exact TAt.kt k h
  | wait t => exact TAt.kt k h
  | renew t => exact TAt.kt k h
  | give t => exact TAt.kt k h
/-- a deed and what it told -/
def RowDV (H : Hp) (v : V) (q : LDeed × V) : Prop := ∃ w, TAt H v [w, q.2] ∧ LDeedV H w q.1
theorem RowDV.kt {H H' : Hp} {v : V} {q : LDeed × V} (k : Kt H H') (h : RowDV H v q) : RowDV H' v q := by
  obtain ⟨w, h1, h2⟩ := h
  exact ⟨w, h1.kt k, h2.kt k⟩
def isLeaseV (v : V) : Bool := decide (v = .non) || isWholeV v 1
def isTermV (v : V) : Bool := match v with
  | .int i => decide (1 ≤ i) && decide (i ≤ 99)
  | _ => false
section
variable (K : PySem.W.Frag)
def sp_is_lease : Sp := fun vs H Q _ => ∃ v, vs = [v] ∧ Thing K H v ∧ ∀ H', Ex H H' → Q (.bl (isLeaseV v)) H'
def spr_is_condition (_ : PySem.W.Frag) (n : Nat) : Sp := fun vs H Q _ => ∃ v d c, vs = [v, .int d] ∧ CondV H v c ∧ c.ok ∧ c.depth ≤ n ∧ (c.depth : Int) ≤ d ∧ ∀ H', Ex H H' → Q (.bl true) H'
def sp_is_condition : Sp := spr_is_condition K 3
def sp_are_conditions (_ : PySem.W.Frag) : Sp := fun vs H Q _ => ∃ v cs, vs = [v] ∧ CondsV H v cs ∧ condsOk cs ∧ ∀ H', Ex H H' → Q (.bl true) H'
def spr_holds (_ : PySem.W.Frag) (n : Nat) : Sp := fun vs H Q _ => ∃ v d c rs, vs = [v, .ref d] ∧ CondV H v c ∧ c.depth ≤ n ∧ RecsAt H d rs ∧ ∀ H', Ex H H' → Q (.bl (holdsC rs c)) H'
def sp_holds : Sp := spr_holds K 3
def sp_is_deed (_ : PySem.W.Frag) : Sp := fun vs H Q _ => ∃ v d, vs = [v] ∧ DeedV H v d ∧ d.okD ∧ ∀ H', Ex H H' → Q (.bl true) H'
def sp_are_deeds (_ : PySem.W.Frag) : Sp := fun vs H Q _ => ∃ v ds, vs = [v] ∧ DeedsV H v ds ∧ deedsOk ds ∧ ∀ H', Ex H H' → Q (.bl true) H'
def sp_h_deal : Sp := fun vs H Q E => ∃ p s z cv tv ov cs ts os, vs = [.ref p, cv, tv, ov] ∧ HouseAt (clsHouse K) H p s z ∧ CondsV H cv cs ∧ DeedsV H tv ts ∧ DeedsV H ov os ∧ condsOk cs ∧ deedsOk ts ∧ deedsOk os ∧ s.alive ts ∧ s.alive os ∧ s.small 4 ∧
  ∀ H' z', HouseAt (clsHouse K) H' p (s.deal cs ts os) z' → Keep (z.fp p) (z'.fp p) H H' → Q (.bl (s.good cs)) H'
def sp_h_folded : Sp := fun vs H Q _ => ∃ p s z, vs = [.ref p] ∧ HouseAt (clsHouse K) H p s z ∧ Q (.int s.base) H
def sp_h_clock : Sp := fun vs H Q _ => ∃ p s z, vs = [.ref p] ∧ HouseAt (clsHouse K) H p s z ∧ Q (.int s.now) H
def sp_h_need_term : Sp := fun vs H Q E => ∃ p v, vs = [.ref p, v] ∧ Thing K H v ∧ ∀ H', Ex H H' → (isTermV v = true → Q .non H') ∧ (isTermV v = false → E (.ref (He.ga K "NoNumber")) none H')
def sp_h_grant : Sp := fun vs H Q E => ∃ p s z t, vs = [.ref p, .int t] ∧ HouseAt (clsHouse K) H p s z ∧ 1 ≤ t ∧ t ≤ 99 ∧ s.ends.length ≤ 50000 ∧
  ∀ H' z', HouseAt (clsHouse K) H' p (s.grant t) z' → Keep (z.fp p) (z'.fp p) H H' → Q (.int (s.granted + 1)) H'
def sp_h_renew : Sp := fun vs H Q E => ∃ p s z l, vs = [.ref p, .int l] ∧ HouseAt (clsHouse K) H p s z ∧ 1 ≤ l ∧ l ∈ keysA s.ends ∧ s.ends.length ≤ 50000 ∧
  ∀ H' z', HouseAt (clsHouse K) H' p (s.renew l) z' → Keep (z.fp p) (z'.fp p) H H' → Q .non H'
def sp_h_left : Sp := fun vs H Q E => ∃ p s z l, vs = [.ref p, .int l] ∧ HouseAt (clsHouse K) H p s z ∧ 1 ≤ l ∧ l ∈ keysA s.ends ∧ ∀ H', Ex H H' → Q (.int (s.left l)) H'
def sp_h_keys_of : Sp := fun vs H Q E => ∃ p s z l, vs = [.ref p, .int l] ∧ HouseAt (clsHouse K) H p s z ∧ 1 ≤ l ∧ l ∈ keysA s.ends ∧ s.recs.length < 64 ∧
  ∀ H' r, Ex H H' → H r = none → H' r = some (.lst ((s.keysOf l).map V.str)) → Q (.ref r) H'
def sp_h_end : Sp := fun vs H Q E => ∃ p s z l, vs = [.ref p, .int l] ∧ HouseAt (clsHouse K) H p s z ∧ 1 ≤ l ∧ l ∈ keysA s.ends ∧ s.recs.length < 64 ∧ s.Wf ∧ s.mu ≤ 40000 ∧
  ∀ H' z', HouseAt (clsHouse K) H' p (s.endL l) z' → Keep (z.fp p) (z'.fp p) H H' → Q .non H'
def sp_h_give_back : Sp := sp_h_end K
def sp_h_wait : Sp := fun vs H Q E => ∃ p s z n, vs = [.ref p, .int n] ∧ HouseAt (clsHouse K) H p s z ∧ 1 ≤ n ∧ n ≤ 99 ∧ s.recs.length < 64 ∧ s.Wf ∧ s.Lw ∧ s.mu ≤ 40000 ∧ s.ends.length ≤ 40000 ∧
  ∀ H' z', HouseAt (clsHouse K) H' p (s.wait n) z' → Keep (z.fp p) (z'.fp p) H H' → Q .non H'
def sp_h_leases : Sp := fun vs H Q _ => ∃ p s z, vs = [.ref p] ∧ HouseAt (clsHouse K) H p s z ∧ ∀ H' r, Ex H H' → H r = none → H' r = some (.lst (s.leases.map V.int)) → Q (.ref r) H'
def sp_h_since : Sp := fun vs H Q _ => ∃ p s z a b n, vs = [.ref p, .str a, .str b, .int n] ∧ HouseAt (clsHouse K) H p s z ∧ s.log.length ≤ 50000 ∧ ∀ H' r, Ex H H' → H r = none → LogAt H' r (s.since a b n) → Q (.ref r) H'
def sp_h_changes : Sp := fun vs H Q E => ∃ p s z a b n, vs = [.ref p, .str a, .str b, .int n] ∧ HouseAt (clsHouse K) H p s z ∧ isKey a = true ∧ isKey b = true ∧ s.log.length ≤ 50000 ∧
  ∀ H', Ex H H' → (n < 1 → E (.ref (He.ga K "NoNumber")) none H') ∧ (1 ≤ n → n ≤ s.base → E (.ref (He.ga K "Folded")) none H') ∧ (1 ≤ n → s.base < n → ∀ r, H r = none → LogAt H' r (s.since a b n) → Q (.ref r) H')
/-! the laws' defs -/
def sp_l_lease : Sp := fun vs H Q _ => ∃ a ns k l ls, vs = [.ref a, .int k, .ref l] ∧ Scr K H a ns ∧ 0 ≤ k ∧ H l = some (.lst (ls.map V.int)) ∧ ∀ H', Ex H H' → Q (optV (lawLease ns k ls)) H'
def sp_l_one_deed : Sp := fun vs H Q _ => ∃ a ns k key l ls, vs = [.ref a, .int k, .str key, .ref l] ∧ Scr K H a ns ∧ 0 ≤ k ∧ H l = some (.lst (ls.map V.int)) ∧ ∀ H' v, Ex H H' → DeedV H' v (lawDeed1 ns k key ls) → Q v H'
def sp_l_condition : Sp := fun vs H Q _ => ∃ a ns k l keys n, vs = [.ref a, .int k, .ref l, .int n] ∧ Scr K H a ns ∧ 0 ≤ k ∧ H l = some (.lst (keys.map V.str)) ∧ 0 < keys.length ∧ 0 ≤ n ∧ ∀ H' v, Ex H H' → CondV H' v (lawCond ns k keys n) → Q v H'
def sp_l_deal_deeds : Sp := fun vs H Q _ => ∃ a ns k l keys m ls, vs = [.ref a, .int k, .ref l, .ref m] ∧ Scr K H a ns ∧ 0 ≤ k ∧ H l = some (.lst (keys.map V.str)) ∧ 0 < keys.length ∧ keys.length ≤ 100 ∧ H m = some (.lst (ls.map V.int)) ∧ ∀ H' v, Ex H H' → DeedsV H' v (lawDeeds ns k keys ls) → Q v H'
def sp_l_deed : Sp := fun vs H Q _ => ∃ a ns k l keys m ls n, vs = [.ref a, .int k, .ref l, .ref m, .int n] ∧ Scr K H a ns ∧ 0 ≤ k ∧ H l = some (.lst (keys.map V.str)) ∧ 0 < keys.length ∧ keys.length ≤ 100 ∧ H m = some (.lst (ls.map V.int)) ∧ 0 ≤ n ∧ ∀ H' v, Ex H H' → LDeedV H' v (lawDeed ns k keys ls n) → Q v H'
def sp_l_do : Sp := fun vs H Q _ => ∃ p s z v d, vs = [.ref p, v] ∧ HouseAt (clsHouse K) H p s z ∧ LDeedV H v d ∧ d.ok s ∧ s.All ∧ s.recs.length < 64 ∧ s.mu ≤ 40000 ∧ s.ends.length ≤ 40000 ∧
  ∀ H' z', HouseAt (clsHouse K) H' p (s.act d) z' → Keep (z.fp p) (z'.fp p) H H' → Q (s.told d) H'
def sp_l_drive : Sp := fun vs H Q _ => ∃ a ns k p s z l keys m n, vs = [.ref a, .int k, .ref p, .ref l, .int (m : Nat)] ∧ HouseAt (clsHouse K) H p s z ∧ ScrO K (z.fp p) H a ns ∧ 0 ≤ k ∧ Out (z.fp p) H l (.lst (keys.map V.str)) ∧ 0 < keys.length ∧ keys.length < 64 ∧ (∀ x ∈ keys, isKey x = true) ∧
  s.Fit keys n ∧ n + m ≤ 4000 ∧
  ∀ H' z' r, HouseAt (clsHouse K) H' p (driven ns k keys s m) z' → Keep (z.fp p) (z'.fp p) H H' → H r = none → r ∉ z'.fp p → LsAt RowDV H' r (drivenR ns k keys s m) → Q (.ref r) H'
end
end KW

/-! readings, printed by mkT.py -/
namespace KW
open PySem PySem.Spec PyProof.Rows L2 Evl
def t_is_lease (K : PySem.W.Frag) : TS := (tRet (tOrV (tOp rIsN (tVar 0) (tC .non)) (tCall (sp_is_whole K) [] E0 (tCons (tVar 0) (tCons (tC (.int 1)) tNil)))))
abbrev N_is_lease : List Str := ["thing"]
def t_is_condition (K : PySem.W.Frag) (sp : Sp) : TS := (tSeq (tIfS (tOr (tTest (tOp rEq (tVar 1) (tC (.int 0)))) (tOr (tNot (tB (tCB (rIsi K) (tCons (tVar 0) (tCons (tC (.ty "tuple")) tNil))))) (tOr (tTest (tOp rEq (tCB (rLenS K) (tCons (tVar 0) tNil)) (tC (.int 0)))) (tNot (tB (tCB (rIsi K) (tCons (tOp (rIxT K) (tVar 0) (tC (.int 0))) (tCons (tC (.ty "str")) tNil)))))))) (tRet (tC (.bl false))) tNext)
  (tSeq (tIfS (tTest (tOp rEq (tOp (rIxT K) (tVar 0) (tC (.int 0))) (tC (.str "not")))) (tRet (tAndV (tOp rEq (tCB (rLenS K) (tCons (tVar 0) tNil)) (tC (.int 2))) (tCall sp [] E0 (tCons (tOp (rIxT K) (tVar 0) (tC (.int 1))) (tCons (tOp rSubI (tVar 1) (tC (.int 1))) tNil))))) tNext)
  (tSeq (tIfS (tOr (tTest (tOp rNe (tCB (rLenS K) (tCons (tVar 0) tNil)) (tC (.int 3)))) (tNot (tB (tCall (sp_is_key K) [] E0 (tCons (tOp (rIxT K) (tVar 0) (tC (.int 1))) tNil))))) (tRet (tC (.bl false))) tNext)
  (tSeq (tIfS (tTest (tOp rEq (tOp (rIxT K) (tVar 0) (tC (.int 0))) (tC (.str "value")))) (tRet (tCall (sp_is_value K) [] E0 (tCons (tOp (rIxT K) (tVar 0) (tC (.int 2))) tNil))) tNext)
  (tRet (tAndV (tOp (rIn K false) (tOp (rIxT K) (tVar 0) (tC (.int 0))) (tTup (tCons (tC (.str "changed")) (tCons (tC (.str "version")) (tCons (tC (.str "below")) tNil))))) (tCall (sp_is_whole K) [] E0 (tCons (tOp (rIxT K) (tVar 0) (tC (.int 2))) (tCons (tC (.int 0)) tNil)))))))))
abbrev N_is_condition : List Str := ["thing", "deep"]
def t_are_conditions (K : PySem.W.Frag) : TS := (tRet (tAndV (tCB (rIsi K) (tCons (tVar 0) (tCons (tC (.ty "tuple")) tNil))) (tAndV (tOp rLeI (tCB (rLenS K) (tCons (tVar 0) tNil)) (tC (.int 4))) (tCB (rAll K) (tCons (tLc (iTup K (tVar 0)) (gName 1) tYes (tCall (sp_is_condition K) [] E0 (tCons (tVar 1) (tCons (tC (.int 3)) tNil))) [1]) tNil)))))
abbrev N_are_conditions : List Str := ["thing", "one"]
def t_holds (K : PySem.W.Frag) (sp : Sp) : TS := (tSeq (tIfS (tTest (tOp rEq (tOp (rIxT K) (tVar 0) (tC (.int 0))) (tC (.str "not")))) (tRet (tNotV (tCall sp [] E0 (tCons (tOp (rIxT K) (tVar 0) (tC (.int 1))) (tCons (tVar 1) tNil))))) tNext)
  (tSeq (tAsg (tDGet2 (tVar 1) (tOp (rIxT K) (tVar 0) (tC (.int 1))) (tTup (tCons (tC .non) (tCons (tC (.int 0)) (tCons (tC (.int 0)) (tCons (tC (.int 0)) (tCons (tC .non) tNil))))))) (gTup K 5 (gCons (gName 2) (gCons (gName 3) (gCons (gName 4) (gCons (gName 5) (gCons (gName 6) gNil)))))))
  (tSeq (tIfS (tTest (tOp rEq (tOp (rIxT K) (tVar 0) (tC (.int 0))) (tC (.str "value")))) (tRet (tOp rEq (tVar 2) (tOp (rIxT K) (tVar 0) (tC (.int 2))))) tNext)
  (tSeq (tIfS (tTest (tOp rEq (tOp (rIxT K) (tVar 0) (tC (.int 0))) (tC (.str "changed")))) (tRet (tOp rEq (tVar 4) (tOp (rIxT K) (tVar 0) (tC (.int 2))))) tNext)
  (tSeq (tIfS (tTest (tOp rEq (tOp (rIxT K) (tVar 0) (tC (.int 0))) (tC (.str "version")))) (tRet (tOp rEq (tVar 5) (tOp (rIxT K) (tVar 0) (tC (.int 2))))) tNext)
  (tRet (tOp rLtI (tVar 4) (tOp (rIxT K) (tVar 0) (tC (.int 2))))))))))
abbrev N_holds : List Str := ["condition", "records", "value", "made", "changed", "version", "lease"]
def t_is_deed (K : PySem.W.Frag) : TS := (tSeq (tIfS (tOr (tNot (tB (tCB (rIsi K) (tCons (tVar 0) (tCons (tC (.ty "tuple")) tNil))))) (tOr (tTest (tOp rLtI (tCB (rLenS K) (tCons (tVar 0) tNil)) (tC (.int 2)))) (tOr (tNot (tB (tCB (rIsi K) (tCons (tOp (rIxT K) (tVar 0) (tC (.int 0))) (tCons (tC (.ty "str")) tNil))))) (tNot (tB (tCall (sp_is_key K) [] E0 (tCons (tOp (rIxT K) (tVar 0) (tC (.int 1))) tNil))))))) (tRet (tC (.bl false))) tNext)
  (tSeq (tIfS (tTest (tOp rEq (tOp (rIxT K) (tVar 0) (tC (.int 0))) (tC (.str "drop")))) (tRet (tOp rEq (tCB (rLenS K) (tCons (tVar 0) tNil)) (tC (.int 2)))) tNext)
  (tRet (tAndV (tOp rEq (tOp (rIxT K) (tVar 0) (tC (.int 0))) (tC (.str "put"))) (tAndV (tOp rEq (tCB (rLenS K) (tCons (tVar 0) tNil)) (tC (.int 4))) (tAndV (tCall (sp_is_value K) [] E0 (tCons (tOp (rIxT K) (tVar 0) (tC (.int 2))) tNil)) (tCall (sp_is_lease K) [] E0 (tCons (tOp (rIxT K) (tVar 0) (tC (.int 3))) tNil))))))))
abbrev N_is_deed : List Str := ["thing"]
def t_are_deeds (K : PySem.W.Frag) : TS := (tSeq (tIfS (tOr (tNot (tB (tCB (rIsi K) (tCons (tVar 0) (tCons (tC (.ty "tuple")) tNil))))) (tOr (tTest (tOp rGtI (tCB (rLenS K) (tCons (tVar 0) tNil)) (tC (.int 4)))) (tNot (tB (tCB (rAll K) (tCons (tLc (iTup K (tVar 0)) (gName 1) tYes (tCall (sp_is_deed K) [] E0 (tCons (tVar 1) tNil)) [1]) tNil)))))) (tRet (tC (.bl false))) tNext)
  (tRet (tOp rEq (tUnlike K (tLc (iTup K (tVar 0)) (gName 1) tYes (tOp (rIxT K) (tVar 1) (tC (.int 1))) [1])) (tCB (rLenS K) (tCons (tVar 0) tNil)))))
abbrev N_are_deeds : List Str := ["thing", "deed"]
def t_h_deal (K : PySem.W.Frag) (E : XK) : TS := (tSeq (tIfS (tNot (tB (tCall (sp_are_conditions K) [] E0 (tCons (tVar 1) tNil)))) (tRz E (He.ga K "NoCondition")) tNext)
  (tSeq (tIfS (tOr (tNot (tB (tCall (sp_are_deeds K) [] E0 (tCons (tVar 2) tNil)))) (tNot (tB (tCall (sp_are_deeds K) [] E0 (tCons (tVar 3) tNil))))) (tRz E (He.ga K "NoDeeds")) tNext)
  (tSeq (tFor (iTup K (tOp (rCatA K) (tVar 2) (tVar 3))) (gName 4)
  (tIfS (tAnd (tTest (tOp rEq (tOp (rIxT K) (tVar 4) (tC (.int 0))) (tC (.str "put")))) (tTest (tOp rNotN (tOp (rIxT K) (tVar 4) (tC (.int 3))) (tC .non)))) (tDrop (tMeth (clsHouse K) "need_lease" (sp_h_need_lease K) [] E (tVar 0) (tCons (tOp (rIxT K) (tVar 4) (tC (.int 3))) tNil))) tNext))
  (tSeq (tAsg (tCB (rAll K) (tCons (tLc (iTup K (tVar 1)) (gName 6) tYes (tCall (sp_holds K) [] E0 (tCons (tVar 6) (tCons (tFld K (tVar 0) "records") tNil))) [6]) tNil)) (gName 5))
  (tSeq (tDrop (tMeth (clsHouse K) "write" (sp_h_write K) [] E0 (tVar 0) (tCons (tOp (rIxL K) (tLst (tCons (tVar 3) (tCons (tVar 2) tNil))) (tCB rInt1 (tCons (tVar 5) tNil))) tNil)))
  (tRet (tVar 5)))))))
abbrev N_h_deal : List Str := ["self", "conditions", "then", "other", "deed", "good", "condition"]
def t_h_need_term (K : PySem.W.Frag) (E : XK) : TS := (tIfS (tOr (tNot (tB (tCall (sp_is_whole K) [] E0 (tCons (tVar 1) (tCons (tC (.int 1)) tNil))))) (tTest (tOp rGtI (tVar 1) (tC (.int 99))))) (tRz E (He.ga K "NoNumber")) tNext)
abbrev N_h_need_term : List Str := ["self", "term"]
def t_h_grant (K : PySem.W.Frag) (E : XK) : TS := (tSeq (tDrop (tMeth (clsHouse K) "need_term" (sp_h_need_term K) [] E (tVar 0) (tCons (tVar 1) tNil)))
  (tSeq (sFld K (tVar 0) (tOp rAddI (tFld K (tVar 0) "granted") (tC (.int 1))) "granted")
  (tSeq (sDPut (tFld K (tVar 0) "ends") (tFld K (tVar 0) "granted") (tTup (tCons (tVar 1) (tCons (tOp rAddI (tFld K (tVar 0) "now") (tVar 1)) tNil))))
  (tRet (tFld K (tVar 0) "granted")))))
abbrev N_h_grant : List Str := ["self", "term"]
def t_h_renew (K : PySem.W.Frag) (E : XK) : TS := (tSeq (tDrop (tMeth (clsHouse K) "need_lease" (sp_h_need_lease K) [] E (tVar 0) (tCons (tVar 1) tNil)))
  (sDPut (tFld K (tVar 0) "ends") (tVar 1) (tTup (tCons (tOp (rIxT K) (tDGet (tFld K (tVar 0) "ends") (tVar 1)) (tC (.int 0))) (tCons (tOp rAddI (tFld K (tVar 0) "now") (tOp (rIxT K) (tDGet (tFld K (tVar 0) "ends") (tVar 1)) (tC (.int 0)))) tNil)))))
abbrev N_h_renew : List Str := ["self", "lease"]
def t_h_left (K : PySem.W.Frag) (E : XK) : TS := (tSeq (tDrop (tMeth (clsHouse K) "need_lease" (sp_h_need_lease K) [] E (tVar 0) (tCons (tVar 1) tNil)))
  (tRet (tOp rSubI (tOp (rIxT K) (tDGet (tFld K (tVar 0) "ends") (tVar 1)) (tC (.int 1))) (tFld K (tVar 0) "now"))))
abbrev N_h_left : List Str := ["self", "lease"]
def t_h_keys_of (K : PySem.W.Frag) (E : XK) : TS := (tSeq (tDrop (tMeth (clsHouse K) "need_lease" (sp_h_need_lease K) [] E (tVar 0) (tCons (tVar 1) tNil)))
  (tRet (tLc (iList K (tCB (rSortedS K) (tCons (tCB rListD (tCons (tFld K (tVar 0) "records") tNil)) tNil))) (gName 2) (tTest (tOp rEq (tOp (rIxT K) (tDGet (tFld K (tVar 0) "records") (tVar 2)) (tC (.int 4))) (tVar 1))) (tVar 2) [2])))
abbrev N_h_keys_of : List Str := ["self", "lease", "key"]
def t_h_end (K : PySem.W.Frag) (E : XK) : TS := (tSeq (tDrop (tMeth (clsHouse K) "write" (sp_h_write K) [] E0 (tVar 0) (tCons (tLc (iList K (tMeth (clsHouse K) "keys_of" (sp_h_keys_of K) [] E (tVar 0) (tCons (tVar 1) tNil))) (gName 2) tYes (tTup (tCons (tC (.str "drop")) (tCons (tVar 2) tNil))) [2]) tNil)))
  (tDrop (tDPop1 (tFld K (tVar 0) "ends") (tVar 1))))
abbrev N_h_end : List Str := ["self", "lease", "key"]
def t_h_give_back (K : PySem.W.Frag) (E : XK) : TS := (tSeq (tDrop (tMeth (clsHouse K) "need_lease" (sp_h_need_lease K) [] E (tVar 0) (tCons (tVar 1) tNil)))
  (tDrop (tMeth (clsHouse K) "end" (sp_h_end K) [] E (tVar 0) (tCons (tVar 1) tNil))))
abbrev N_h_give_back : List Str := ["self", "lease"]
def t_h_wait (K : PySem.W.Frag) (E : XK) : TS := (tSeq (tDrop (tMeth (clsHouse K) "need_term" (sp_h_need_term K) [] E (tVar 0) (tCons (tVar 1) tNil)))
  (tSeq (tAsg (tOp rAddI (tFld K (tVar 0) "now") (tVar 1)) (gName 2))
  (tSeq (tAsg (tCB (rSortedPO K) (tCons (tLockE (tLc (iKeys (tFld K (tVar 0) "ends")) (gName 4) tYes (tTup (tCons (tOp (rIxT K) (tDGet (tFld K (tVar 0) "ends") (tVar 4)) (tC (.int 1))) (tCons (tVar 4) tNil))) [4])) tNil)) (gName 3))
  (tSeq (tFor (iList K (tVar 3)) (gTup K 2 (gCons (gName 5) (gCons (gName 4) gNil)))
  (tIfS (tTest (tOp rLeI (tVar 5) (tVar 2))) (tSeq (sFld K (tVar 0) (tVar 5) "now")
  (tDrop (tMeth (clsHouse K) "end" (sp_h_end K) [] E (tVar 0) (tCons (tVar 4) tNil)))) tNext))
  (sFld K (tVar 0) (tVar 2) "now")))))
abbrev N_h_wait : List Str := ["self", "many", "goal", "due", "lease", "when"]
def t_h_clock (K : PySem.W.Frag) : TS := (tRet (tFld K (tVar 0) "now"))
abbrev N_h_clock : List Str := ["self"]
def t_h_leases (K : PySem.W.Frag) : TS := (tRet (tCB (rSortedI K) (tCons (tCB rListD (tCons (tFld K (tVar 0) "ends") tNil)) tNil)))
abbrev N_h_leases : List Str := ["self"]
def t_h_since (K : PySem.W.Frag) : TS := (tRet (tLc (iList K (tFld K (tVar 0) "log")) (gName 4) (tAnd (tTest (tOp rGeI (tOp (rIxT K) (tVar 4) (tC (.int 0))) (tVar 3))) (tB (tCall (sp_is_within K) [] E0 (tCons (tOp (rIxT K) (tVar 4) (tC (.int 2))) (tCons (tVar 1) (tCons (tVar 2) tNil)))))) (tVar 4) [4]))
abbrev N_h_since : List Str := ["self", "first", "last", "number", "event"]
def t_h_changes (K : PySem.W.Frag) (E : XK) : TS := (tSeq (tDrop (tCall (sp_need_key K) [] E (tCons (tVar 1) tNil)))
  (tSeq (tDrop (tCall (sp_need_key K) [] E (tCons (tVar 2) tNil)))
  (tSeq (tDrop (tCall (sp_need_whole K) [] E (tCons (tVar 3) (tCons (tC (.int 1)) tNil))))
  (tSeq (tIfS (tTest (tOp rLeI (tVar 3) (tFld K (tVar 0) "base"))) (tRz E (He.ga K "Folded")) tNext)
  (tRet (tMeth (clsHouse K) "since" (sp_h_since K) [] E0 (tVar 0) (tCons (tVar 1) (tCons (tVar 2) (tCons (tVar 3) tNil)))))))))
abbrev N_h_changes : List Str := ["self", "first", "last", "number"]
def t_l_lease (K : PySem.W.Frag) : TS := (tSeq (tIfS (tOr (tTest (tOp (rEqP K) (tVar 2) (tLst tNil))) (tTest (tOp rEq (tCall (sp_l_mixed K) [] E0 (tCons (tVar 0) (tCons (tVar 1) (tCons (tC (.int 2)) tNil)))) (tC (.int 0))))) (tRet (tC .non)) tNext)
  (tRet (tOp (rIxL K) (tVar 2) (tCall (sp_l_mixed K) [] E0 (tCons (tVar 0) (tCons (tOp rAddI (tVar 1) (tC (.int 1))) (tCons (tCB (rLenS K) (tCons (tVar 2) tNil)) tNil)))))))
abbrev N_l_lease : List Str := ["script", "at", "leases"]
def t_l_one_deed (K : PySem.W.Frag) : TS := (tSeq (tIfS (tTest (tOp rEq (tCall (sp_l_mixed K) [] E0 (tCons (tVar 0) (tCons (tVar 1) (tCons (tC (.int 3)) tNil)))) (tC (.int 0)))) (tRet (tTup (tCons (tC (.str "drop")) (tCons (tVar 2) tNil)))) tNext)
  (tSeq (tAsg (tOp (rIxL K) (tLst (tCons (tCall (sp_l_mixed K) [] E0 (tCons (tVar 0) (tCons (tOp rAddI (tVar 1) (tC (.int 1))) (tCons (tC (.int 10000)) tNil)))) (tCons (tCall (sp_l_mixed K) [] E0 (tCons (tVar 0) (tCons (tOp rAddI (tVar 1) (tC (.int 1))) (tCons (tC (.int 3)) tNil)))) tNil))) (tCall (sp_l_mixed K) [] E0 (tCons (tVar 0) (tCons (tOp rAddI (tVar 1) (tC (.int 2))) (tCons (tC (.int 2)) tNil))))) (gName 4))
  (tRet (tTup (tCons (tC (.str "put")) (tCons (tVar 2) (tCons (tVar 4) (tCons (tCall (sp_l_lease K) [] E0 (tCons (tVar 0) (tCons (tOp rAddI (tVar 1) (tC (.int 3))) (tCons (tVar 3) tNil)))) tNil))))))))
abbrev N_l_one_deed : List Str := ["script", "at", "key", "leases", "value"]
def t_l_condition (K : PySem.W.Frag) : TS := (tSeq (tAsg (tCall (sp_l_mixed K) [] E0 (tCons (tVar 0) (tCons (tVar 1) (tCons (tC (.int 6)) tNil)))) (gName 4))
  (tSeq (tAsg (tOp (rIxL K) (tVar 2) (tCall (sp_l_mixed K) [] E0 (tCons (tVar 0) (tCons (tOp rAddI (tVar 1) (tC (.int 1))) (tCons (tCB (rLenS K) (tCons (tVar 2) tNil)) tNil))))) (gName 5))
  (tSeq (tIfS (tTest (tOp rEq (tVar 4) (tC (.int 0)))) (tRet (tTup (tCons (tC (.str "value")) (tCons (tVar 5) (tCons (tCall (sp_l_mixed K) [] E0 (tCons (tVar 0) (tCons (tOp rAddI (tVar 1) (tC (.int 2))) (tCons (tC (.int 3)) tNil)))) tNil))))) tNext)
  (tSeq (tIfS (tTest (tOp rEq (tVar 4) (tC (.int 1)))) (tRet (tTup (tCons (tC (.str "version")) (tCons (tVar 5) (tCons (tCall (sp_l_mixed K) [] E0 (tCons (tVar 0) (tCons (tOp rAddI (tVar 1) (tC (.int 2))) (tCons (tC (.int 3)) tNil)))) tNil))))) tNext)
  (tSeq (tIfS (tTest (tOp rEq (tVar 4) (tC (.int 2)))) (tRet (tTup (tCons (tC (.str "changed")) (tCons (tVar 5) (tCons (tCall (sp_l_mixed K) [] E0 (tCons (tVar 0) (tCons (tOp rAddI (tVar 1) (tC (.int 2))) (tCons (tOp rAddI (tVar 3) (tC (.int 2))) tNil)))) tNil))))) tNext)
  (tSeq (tIfS (tTest (tOp rEq (tVar 4) (tC (.int 3)))) (tRet (tTup (tCons (tC (.str "below")) (tCons (tVar 5) (tCons (tCall (sp_l_mixed K) [] E0 (tCons (tVar 0) (tCons (tOp rAddI (tVar 1) (tC (.int 2))) (tCons (tOp rAddI (tVar 3) (tC (.int 2))) tNil)))) tNil))))) tNext)
  (tSeq (tIfS (tTest (tOp rEq (tVar 4) (tC (.int 4)))) (tRet (tTup (tCons (tC (.str "not")) (tCons (tTup (tCons (tC (.str "changed")) (tCons (tVar 5) (tCons (tC (.int 0)) tNil)))) tNil)))) tNext)
  (tRet (tTup (tCons (tC (.str "not")) (tCons (tTup (tCons (tC (.str "not")) (tCons (tTup (tCons (tC (.str "value")) (tCons (tVar 5) (tCons (tCall (sp_l_mixed K) [] E0 (tCons (tVar 0) (tCons (tOp rAddI (tVar 1) (tC (.int 2))) (tCons (tC (.int 3)) tNil)))) tNil)))) tNil))) tNil)))))))))))
abbrev N_l_condition : List Str := ["script", "at", "keys", "number", "kind", "key"]
def t_l_deal_deeds (K : PySem.W.Frag) : TS := (tSeq (tAsg (tCall (sp_l_mixed K) [] E0 (tCons (tVar 0) (tCons (tVar 1) (tCons (tCB (rLenS K) (tCons (tVar 2) tNil)) tNil)))) (gName 4))
  (tSeq (tAsg (tCB rListD (tCons (tCB (rDictP K) (tCons (tLc (iList K (tOp rCat (tSl (rSlL K) (tVar 2) (tPart (tVar 4)) tNoPart) (tSl (rSlL K) (tVar 2) tNoPart (tPart (tVar 4))))) (gName 6) tYes (tTup (tCons (tVar 6) (tCons (tC (.bl true)) tNil))) [6]) tNil)) tNil)) (gName 5))
  (tSeq (tAsg (tSl (rSlL K) (tVar 5) tNoPart (tPart (tCall (sp_l_mixed K) [] E0 (tCons (tVar 0) (tCons (tOp rAddI (tVar 1) (tC (.int 1))) (tCons (tC (.int 5)) tNil)))))) (gName 7))
  (tRet (tCB (rTupOf K) (tCons (tLc (iEnum K (tCons (tVar 7) tNil)) (gTup K 2 (gCons (gName 8) (gCons (gName 6) gNil))) tYes (tCall (sp_l_one_deed K) [] E0 (tCons (tVar 0) (tCons (tOp rAddI (tOp rAddI (tVar 1) (tC (.int 2))) (tOp rMulI (tC (.int 8)) (tVar 8))) (tCons (tVar 6) (tCons (tVar 3) tNil))))) [8, 6]) tNil))))))
abbrev N_l_deal_deeds : List Str := ["script", "at", "keys", "leases", "turn", "names", "key", "some", "k"]
def t_l_deed (K : PySem.W.Frag) : TS := (tSeq (tAsg (tCall (sp_l_mixed K) [] E0 (tCons (tVar 0) (tCons (tVar 1) (tCons (tC (.int 20)) tNil)))) (gName 5))
  (tSeq (tIfS (tAnd (tTest (tOp rLtI (tVar 5) (tC (.int 8)))) (tTest (tOp rGtI (tCall (sp_l_mixed K) [] E0 (tCons (tVar 0) (tCons (tOp rAddI (tVar 1) (tC (.int 1))) (tCons (tC (.int 3)) tNil)))) (tC (.int 0))))) (tSeq (tAsg (tCall (sp_l_one_deed K) [] E0 (tCons (tVar 0) (tCons (tOp rAddI (tVar 1) (tC (.int 2))) (tCons (tOp (rIxL K) (tVar 2) (tCall (sp_l_mixed K) [] E0 (tCons (tVar 0) (tCons (tOp rAddI (tVar 1) (tC (.int 10))) (tCons (tCB (rLenS K) (tCons (tVar 2) tNil)) tNil))))) (tCons (tVar 3) tNil))))) (gName 6))
  (tRet (tVar 6))) tNext)
  (tSeq (tIfS (tTest (tOp rLtI (tVar 5) (tC (.int 13)))) (tSeq (tAsg (tLc (iRng1 (tCons (tCall (sp_l_mixed K) [] E0 (tCons (tVar 0) (tCons (tOp rAddI (tVar 1) (tC (.int 11))) (tCons (tC (.int 3)) tNil)))) tNil)) (gName 8) tYes (tCall (sp_l_condition K) [] E0 (tCons (tVar 0) (tCons (tOp rAddI (tOp rAddI (tVar 1) (tC (.int 60))) (tOp rMulI (tC (.int 5)) (tVar 8))) (tCons (tVar 2) (tCons (tVar 4) tNil))))) [8]) (gName 7))
  (tSeq (tAsg (tCall (sp_l_deal_deeds K) [] E0 (tCons (tVar 0) (tCons (tOp rAddI (tVar 1) (tC (.int 12))) (tCons (tVar 2) (tCons (tVar 3) tNil))))) (gName 9))
  (tRet (tTup (tCons (tC (.str "deal")) (tCons (tCB (rTupOf K) (tCons (tVar 7) tNil)) (tCons (tVar 9) (tCons (tCall (sp_l_deal_deeds K) [] E0 (tCons (tVar 0) (tCons (tOp rAddI (tVar 1) (tC (.int 80))) (tCons (tVar 2) (tCons (tVar 3) tNil))))) tNil)))))))) tNext)
  (tSeq (tIfS (tTest (tOp rLtI (tVar 5) (tC (.int 15)))) (tSeq (tAsg (tLst (tCons (tCall (sp_l_mixed K) [] E0 (tCons (tVar 0) (tCons (tOp rAddI (tVar 1) (tC (.int 1))) (tCons (tC (.int 5)) tNil)))) (tCons (tCall (sp_l_mixed K) [] E0 (tCons (tVar 0) (tCons (tOp rAddI (tVar 1) (tC (.int 1))) (tCons (tC (.int 99)) tNil)))) tNil))) (gName 10))
  (tRet (tTup (tCons (tC (.str "grant")) (tCons (tOp rAddI (tC (.int 1)) (tOp (rIxL K) (tVar 10) (tCall (sp_l_mixed K) [] E0 (tCons (tVar 0) (tCons (tOp rAddI (tVar 1) (tC (.int 2))) (tCons (tC (.int 2)) tNil)))))) tNil))))) tNext)
  (tSeq (tIfS (tOr (tTest (tOp rLtI (tVar 5) (tC (.int 17)))) (tTest (tOp (rEqP K) (tVar 3) (tLst tNil)))) (tSeq (tAsg (tLst (tCons (tCall (sp_l_mixed K) [] E0 (tCons (tVar 0) (tCons (tOp rAddI (tVar 1) (tC (.int 1))) (tCons (tC (.int 4)) tNil)))) (tCons (tCall (sp_l_mixed K) [] E0 (tCons (tVar 0) (tCons (tOp rAddI (tVar 1) (tC (.int 1))) (tCons (tC (.int 99)) tNil)))) tNil))) (gName 10))
  (tRet (tTup (tCons (tC (.str "wait")) (tCons (tOp rAddI (tC (.int 1)) (tOp (rIxL K) (tVar 10) (tOp rFdivI (tCall (sp_l_mixed K) [] E0 (tCons (tVar 0) (tCons (tOp rAddI (tVar 1) (tC (.int 2))) (tCons (tC (.int 4)) tNil)))) (tC (.int 3))))) tNil))))) tNext)
  (tSeq (tAsg (tOp (rIxL K) (tVar 3) (tCall (sp_l_mixed K) [] E0 (tCons (tVar 0) (tCons (tOp rAddI (tVar 1) (tC (.int 1))) (tCons (tCB (rLenS K) (tCons (tVar 3) tNil)) tNil))))) (gName 11))
  (tRet (tTup (tCons (tOp (rIxL K) (tLst (tCons (tC (.str "renew")) (tCons (tC (.str "give")) (tCons (tC (.str "renew")) tNil)))) (tOp rSubI (tVar 5) (tC (.int 17)))) (tCons (tVar 11) tNil))))))))))
abbrev N_l_deed : List Str := ["script", "at", "keys", "leases", "number", "kind", "deed", "some", "k", "then", "terms", "lease"]
def t_l_do (K : PySem.W.Frag) : TS := (tSeq (tAsg (tOp (rIxT K) (tVar 1) (tC (.int 0))) (gName 2))
  (tSeq (tIfS (tAnd (tTest (tOp rEq (tVar 2) (tC (.str "put")))) (tTest (tOp rIsN (tOp (rIxT K) (tVar 1) (tC (.int 3))) (tC .non)))) (tRet (tMeth (clsHouse K) "put" (sp_h_put K) [.non] E0 (tVar 0) (tCons (tOp (rIxT K) (tVar 1) (tC (.int 1))) (tCons (tOp (rIxT K) (tVar 1) (tC (.int 2))) tNil)))) tNext)
  (tSeq (tIfS (tTest (tOp rEq (tVar 2) (tC (.str "put")))) (tRet (tMeth (clsHouse K) "put" (sp_h_put K) [] E0 (tVar 0) (tCons (tOp (rIxT K) (tVar 1) (tC (.int 1))) (tCons (tOp (rIxT K) (tVar 1) (tC (.int 2))) (tCons (tOp (rIxT K) (tVar 1) (tC (.int 3))) tNil))))) tNext)
  (tSeq (tIfS (tTest (tOp rEq (tVar 2) (tC (.str "drop")))) (tRet (tMeth (clsHouse K) "drop" (sp_h_drop K) [] E0 (tVar 0) (tCons (tOp (rIxT K) (tVar 1) (tC (.int 1))) tNil))) tNext)
  (tSeq (tIfS (tTest (tOp rEq (tVar 2) (tC (.str "deal")))) (tRet (tMeth (clsHouse K) "deal" (sp_h_deal K) [] E0 (tVar 0) (tCons (tOp (rIxT K) (tVar 1) (tC (.int 1))) (tCons (tOp (rIxT K) (tVar 1) (tC (.int 2))) (tCons (tOp (rIxT K) (tVar 1) (tC (.int 3))) tNil))))) tNext)
  (tSeq (tIfS (tTest (tOp rEq (tVar 2) (tC (.str "grant")))) (tRet (tMeth (clsHouse K) "grant" (sp_h_grant K) [] E0 (tVar 0) (tCons (tOp (rIxT K) (tVar 1) (tC (.int 1))) tNil))) tNext)
  (tSeq (tIfS (tTest (tOp rEq (tVar 2) (tC (.str "wait")))) (tDrop (tMeth (clsHouse K) "wait" (sp_h_wait K) [] E0 (tVar 0) (tCons (tOp (rIxT K) (tVar 1) (tC (.int 1))) tNil))) (tIfS (tTest (tOp rEq (tVar 2) (tC (.str "renew")))) (tDrop (tMeth (clsHouse K) "renew" (sp_h_renew K) [] E0 (tVar 0) (tCons (tOp (rIxT K) (tVar 1) (tC (.int 1))) tNil))) (tDrop (tMeth (clsHouse K) "give_back" (sp_h_give_back K) [] E0 (tVar 0) (tCons (tOp (rIxT K) (tVar 1) (tC (.int 1))) tNil)))))
  (tRet (tC .non)))))))))
abbrev N_l_do : List Str := ["house", "deed", "word"]
def t_l_drive (K : PySem.W.Frag) : TS := (tSeq (tAsg (tLst tNil) (gName 5))
  (tSeq (tFor (iRng1 (tCons (tVar 4) tNil)) (gName 6)
  (tSeq (tAsg (tCall (sp_l_deed K) [] E0 (tCons (tVar 0) (tCons (tOp rAddI (tVar 1) (tOp rMulI (tC (.int 130)) (tVar 6))) (tCons (tVar 3) (tCons (tMeth (clsHouse K) "leases" (sp_h_leases K) [] E0 (tVar 2) tNil) (tCons (tMeth (clsHouse K) "number" (sp_h_number K) [] E0 (tVar 2) tNil) tNil)))))) (gName 7))
  (tDrop (tBM K "list" rAppend (tVar 5) (tCons (tTup (tCons (tVar 7) (tCons (tCall (sp_l_do K) [] E0 (tCons (tVar 2) (tCons (tVar 7) tNil))) tNil))) tNil)))))
  (tRet (tVar 5))))
abbrev N_l_drive : List Str := ["script", "at", "house", "keys", "many", "rows", "k", "deed"]
end KW

/-! conditions and deeds: what is asked of them -/
namespace KW
open PySem PySem.Spec PyProof.Rows L2 Evl
section
variable {K : PySem.W.Frag} {σ : L2.St} {H H' : Hp} {ta tb te tx : TE} {v : V} {xs : List V}
theorem atI_0 (x : V) (xs : List V) : atI (x :: xs) 0 = some x := atI_nat (j := 0) rfl
theorem thing_tup (h : TAt H v xs) : Thing K H v := by
  obtain ⟨a, rfl, h⟩ := h
  exact .tup h
theorem ev_isTup (ha : Ev ta σ H v) (h : TAt H v xs) : Ev (tCB (rIsi K) (tCons ta (tCons (tC (.ty "tuple")) tNil))) σ H (.bl true) := by
  refine ev_isi ha (thing_tup h) ?_
  obtain ⟨a, rfl, h⟩ := h
  show kitB (tyO (H a)) "tuple" = some true
  rw [h]
  show kitB "tuple" "tuple" = some true
  decide +kernel
theorem ev_isStr {x : Str} (ha : Ev ta σ H (.str x)) (hl : x.length ≤ 100000) : Ev (tCB (rIsi K) (tCons ta (tCons (tC (.ty "str")) tNil))) σ H (.bl true) :=
  ev_isi ha (.str x hl) (show kitB "str" "str" = some true by decide +kernel)
theorem ev_lenT (ha : Ev ta σ H v) (h : TAt H v xs) : Ev (tCB (rLenS K) (tCons ta tNil)) σ H (.int (xs.length : Int)) := fun H1 e Q q =>
  ha H1 e _ fun H2 e2 => by
    obtain ⟨a, rfl, h⟩ := h
    exact ⟨a, xs, rfl, .inr (st_of ((e.trans e2) a _ h)), q H2 e2⟩
theorem ei_tupA (h : Ev ta σ H v) (hx : TAt H v xs) : EvI (iTup K ta) σ H xs := by
  obtain ⟨a, rfl, hx⟩ := hx
  exact ei_tup h (st_of hx)
theorem thing_opt (o : Option Int) : Thing K H (optV o) := by
  cases o with
  | none => exact .non
  | some i => exact .int i
theorem ev_isLease {E : XK} (ha : Ev ta σ H v) (h : Thing K H v) : Ev (tCall (sp_is_lease K) [] E (tCons ta tNil)) σ H (.bl (isLeaseV v)) :=
  ev_call (ea_cons ha ea_nil) fun H1 e Q q E => ⟨v, rfl, h.ex e, q⟩
end
section
variable {K : PySem.W.Frag} {vs : List V} {H : Hp} {Q : VK} {E : XK}
theorem pure_is_lease (h : sp_is_lease K vs H Q E) : t_is_lease K { nx := fun _ H' => Q .non H', rt := Q } (start N_is_lease vs) H := by
  obtain ⟨v, rfl, ht, q⟩ := h
  refine alw_here (alw_ret (ev_orV (ev_isN (ev_var rfl)) fun _ => ev_isWhole (ev_var rfl) ev_c ht) fun H1 e1 => ?_)
  exact q H1 e1
theorem cond_head {n : Nat} {v : V} {d : Int} {w : Str} {rest : List V} {tu : TS} {D : Ends} (hv : TAt H v (.str w :: rest)) (hw : w.length ≤ 100000) (hd : d ≠ 0) (k : Alw tu D (start N_is_condition [v, .int d]) H) :
    Alw (tSeq (tIfS (tOr (tTest (tOp rEq (tVar 1) (tC (.int 0)))) (tOr (tNot (tB (tCB (rIsi K) (tCons (tVar 0) (tCons (tC (.ty "tuple")) tNil))))) (tOr (tTest (tOp rEq (tCB (rLenS K) (tCons (tVar 0) tNil)) (tC (.int 0)))) (tNot (tB (tCB (rIsi K) (tCons (tOp (rIxT K) (tVar 0) (tC (.int 0))) (tCons (tC (.ty "str")) tNil)))))))) (tRet (tC (.bl false))) tNext) tu) D (start N_is_condition [v, .int d]) H := by
  refine al_if (et_or (et_test (ev_eqI (ev_var rfl) ev_c)) fun _ => et_or (et_not (et_B (ev_isTup (ev_var rfl) hv))) fun _ => et_or (et_test (ev_eqI (ev_lenT (ev_var rfl) hv) ev_c)) fun _ => et_not (et_B (ev_isStr (ev_ixA (ev_var rfl) hv ev_c (atI_0 _ _)) hw))) (fun hb => ?_) fun _ => al_skip k
  simp [hd] at hb
  omega
theorem cond_plain {sp : Sp} {v : V} {d m : Int} {w key : Str} (hv : TAt H v [.str w, .str key, .int m]) (hd : d ≠ 0) (hk : isKey key = true) (hw : w.length ≤ 100000) (hn : w ≠ "not") (h1 : w = "value" → 0 ≤ m ∧ m ≤ 9999) (h2 : w ≠ "value" → 0 ≤ m ∧ inV (.str w) [.str "changed", .str "version", .str "below"] = true)
    (q : ∀ H', Ex H H' → Q (.bl true) H') : t_is_condition K sp { nx := fun _ H' => Q .non H', rt := Q } (start N_is_condition [v, .int d]) H := by
  refine alw_here (cond_head (n := 0) hv hw hd (al_if (et_test (ev_eqS (ev_ixA (ev_var rfl) hv ev_c rfl) ev_c)) (fun hb => absurd (of_decide_eq_true hb) hn) fun _ => al_skip (al_if (et_or (et_test (ev_neI (ev_lenT (ev_var rfl) hv) ev_c)) fun _ => et_not (et_B (ev_isKey (ev_ixA (ev_var rfl) hv ev_c rfl) (thing_key hk)))) (fun hb => ?_) fun _ => al_skip (al_if (et_test (ev_eqS (ev_ixA (ev_var rfl) hv ev_c rfl) ev_c)) (fun hb => ?_) fun hb => al_skip ?_))))
  · have e : isKeyV (.str key) = true := hk
    rw [e] at hb
    simp at hb
  · have hb := of_decide_eq_true hb
    refine alw_ret (ev_isValue (ev_ixA (ev_var rfl) hv ev_c rfl) (.int m)) fun H1 e1 => ?_
    have e : isValueV (.int m) = true := by
      show (decide (0 ≤ m) && decide (m ≤ 9999)) = true
      rw [decide_eq_true (h1 hb).1, decide_eq_true (h1 hb).2]
      rfl
    rw [e]
    exact q H1 e1
  · have hb := of_decide_eq_false hb
    refine alw_ret (ev_andV (ev_inU (xs := [.str "changed", .str "version", .str "below"]) (ev_ixA (ev_var rfl) hv ev_c rfl) (eu_tup (ea_cons ev_c (ea_cons ev_c (ea_cons ev_c ea_nil))) (show 3 ≤ 100000 by decide)) rfl rfl) fun _ => ev_isWhole (ev_ixA (ev_var rfl) hv ev_c rfl) ev_c (.int m)) fun H1 e1 => ?_
    have e : isWholeV (.int m) 0 = true := decide_eq_true (h2 hb).1
    rw [(h2 hb).2, e]
    exact q H1 e1
theorem cond_depth (c : Cond) : 1 ≤ c.depth := by
  cases c with
  | neg c => exact Nat.le_add_left _ _
  | _ => exact Nat.le_refl _
theorem purer_is_condition {n : Nat} (h : spr_is_condition K (n + 1) vs H Q E) : t_is_condition K (spr_is_condition K n) { nx := fun _ H' => Q .non H', rt := Q } (start N_is_condition vs) H := by
  obtain ⟨v, d, c, rfl, hv, hok, hn, hd, q⟩ := h
  have h1 := cond_depth c
  have hd0 : d ≠ 0 := by omega
  cases c with
  | value k m => exact cond_plain hv hd0 hok.1 (by decide) (by decide) (fun _ => hok.2) (fun z => absurd rfl z) q
  | changed k m => exact cond_plain hv hd0 hok.1 (by decide) (by decide) (fun z => absurd z (by decide)) (fun _ => ⟨hok.2, by decide⟩) q
  | version k m => exact cond_plain hv hd0 hok.1 (by decide) (by decide) (fun z => absurd z (by decide)) (fun _ => ⟨hok.2, by decide⟩) q
  | less k m => exact cond_plain hv hd0 hok.1 (by decide) (by decide) (fun z => absurd z (by decide)) (fun _ => ⟨hok.2, by decide⟩) q
  | neg c =>
    obtain ⟨w, hv, hw⟩ := hv
    have hn' : c.depth ≤ n := by
      have : c.depth + 1 ≤ n + 1 := hn
      omega
    have hd' : (c.depth : Int) ≤ d - 1 := by
      have : ((c.depth + 1 : Nat) : Int) ≤ d := hd
      omega
    refine alw_here (cond_head (n := 0) hv (by decide) hd0 (al_if (et_test (ev_eqS (ev_ixA (ev_var rfl) hv ev_c rfl) ev_c)) (fun _ => ?_) fun hb => absurd (of_decide_eq_false hb) (by simp)))
    refine alw_ret (ev_andV (b := true) (ev_eqI (ev_lenT (ev_var rfl) hv) ev_c) fun _ => ev_call (ea_cons (ev_ixA (ev_var rfl) hv ev_c rfl) (ea_cons (ev_sub (ev_var rfl) ev_c) ea_nil)) fun H1 e Q q E => ⟨w, d - 1, c, rfl, CondV.kt (Ex.kt e) hw, hok, hn', hd', fun H2 e2 => q H2 e2⟩) fun H1 e1 => ?_
    exact q H1 e1
theorem all_true {α : Type} (xs : List α) : (xs.map fun _ => true).all id = true := by
  rw [List.all_map, List.all_eq_true]
  intro x _
  rfl
theorem map_bl {α : Type} (xs : List α) : List.filterMap (fun _ : α => some (V.bl true)) xs = (xs.map fun _ => true).map V.bl := by
  rw [List.map_map, ← List.filterMap_eq_map]
  rfl
theorem pure_are_conditions (h : sp_are_conditions K vs H Q E) : t_are_conditions K { nx := fun _ H' => Q .non H', rt := Q } (start N_are_conditions vs) H := by
  obtain ⟨v, cs, rfl, ⟨ws, hv, hp⟩, hok, q⟩ := h
  have hlen := pr_len hp
  have hcomp := lc_typed (α := V) (J := Itr 0 0) (P := fun _ v y => v = y) (tt := tYes) (te := tCall (sp_is_condition K) [] E0 (tCons (tVar 1) (tCons (tC (.int 3)) tNil))) (j := 1) (vs := [1]) (σ := start N_are_conditions [v]) (B := H) (wi := iTup K (tVar 0))
    (ei_tupA (ev_var rfl) hv) (paired_mem hp) (fun _ => some (V.bl true)) (fun _ _ _ _ _ z => z) (fun _ => rfl) (fun x d r H1 e Q q => q H1 (Ex.refl H1))
    (fun u c y r hy => by
      cases hy
      refine Ev.p (ev_call (ea_cons (ev_var rfl) (ea_cons ev_c ea_nil)) fun H1 e Q q E => ⟨u, 3, c, rfl, CondV.kt (Ex.kt e) r.1, (hok.2 c r.2).1, (hok.2 c r.2).2, by have := (hok.2 c r.2).2; omega, fun H2 e2 => q H2 e2⟩) fun _ _ => rfl) (by have := hok.1; omega)
  rw [map_bl] at hcomp
  refine alw_here (alw_ret (ev_andV (ev_isTup (ev_var rfl) hv) fun _ => ev_andV (ev_le (ev_lenT (ev_var rfl) hv) ev_c) fun _ => ev_all hcomp.toL) fun H1 e1 => ?_)
  rw [all_true, decide_eq_true (by have := hok.1; omega)]
  exact q H1 e1
/-! ### holds -/
def recNVs : Option Rec → List V
  | some r => recVs r
  | none => [.non, .int 0, .int 0, .int 0, .non]
theorem evp_getN {σ : L2.St} {td ty : TE} {d : Addr} {rs : Recs} {k : Str} (hd : Ev td σ H (.ref d)) (ha : Ev ty σ H (.str k)) (h : RecsAt H d rs) :
    EvP (tDGet2 td ty (tTup (tCons (tC .non) (tCons (tC (.int 0)) (tCons (tC (.int 0)) (tCons (tC (.int 0)) (tCons (tC .non) tNil))))))) σ H (fun H v => TAt H v (recNVs (lookR rs k))) := fun H1 e Q q =>
  hd H1 e _ fun H2 e2 => by
    have h2 := h.ex (e.trans e2)
    have h0 := h2
    obtain ⟨es, g1, g2⟩ := h0
    refine ⟨d, rfl, .inl ⟨es, .inl g1⟩, ha H2 (e.trans e2) _ fun H3 e3 => ?_⟩
    refine ⟨(show 5 ≤ sizeLine by decide), fun t ht => ?_⟩
    rcases dget_recs (h2.ex (e3.trans (Ex.new ht))) k with ⟨v, r, g, l, hr⟩ | ⟨g, l⟩
    · exact ⟨some v, g, q v _ ((e2.trans e3).trans (Ex.new ht)) (by rw [l]; exact hr)⟩
    · exact ⟨none, g, q (.ref t) _ ((e2.trans e3).trans (Ex.new ht)) (by rw [l]; exact ⟨t, rfl, upd_same⟩)⟩
theorem recN_eq (o : Option Rec) : ∃ x1 x4, recNVs o = [optV (valO o), x1, .int (chgO o), .int (verO o), x4] := by
  cases o with
  | none => exact ⟨_, _, rfl⟩
  | some r => exact ⟨_, _, rfl⟩
theorem scal_opt (o : Option Int) (i : Int) : scal (optV o) (.int i) = true := by cases o <;> rfl
theorem optV_eq (o : Option Int) (i : Int) : decide (optV o = V.int i) = decide (o = some i) := by
  cases o with
  | none => simp [optV]
  | some j => simp [optV]
theorem al_tupP5 {σ : L2.St} {B : Hp} {te : TE} {tw : TS} {D : Ends} {x1 x2 x3 x4 x5 : V} {i1 i2 i3 i4 i5 : Nat} (h : EvP te σ B (fun H v => TAt H v [x1, x2, x3, x4, x5]))
    (k : ∀ H1, Ex B H1 → Alw tw D (((((σ.set i1 (some x1)).set i2 (some x2)).set i3 (some x3)).set i4 (some x4)).set i5 (some x5)) H1) :
    Alw (tSeq (tAsg te (gTup K 5 (gCons (gName i1) (gCons (gName i2) (gCons (gName i3) (gCons (gName i4) (gCons (gName i5) gNil))))))) tw) D σ B := fun H e => h H e _ fun v H1 e1 ht => by
  obtain ⟨a, rfl, ha⟩ := ht
  exact ⟨a, _, rfl, st_of ha, rfl, _, _, rfl, _, _, rfl, _, _, rfl, _, _, rfl, _, _, rfl, rfl, k H1 (e.trans e1) H1 (Ex.refl H1)⟩
theorem hold_plain {sp : Sp} {v : V} {w key : Str} {m : Int} {d : Addr} {rs : Recs} {b : Bool} (hv : TAt H v [.str w, .str key, .int m]) (hn : w ≠ "not") (hr : RecsAt H d rs)
    (h1 : w = "value" → b = decide (valO (lookR rs key) = some m)) (h2 : w ≠ "value" → w = "changed" → b = decide (chgO (lookR rs key) = m)) (h3 : w ≠ "value" → w ≠ "changed" → w = "version" → b = decide (verO (lookR rs key) = m))
    (h4 : w ≠ "value" → w ≠ "changed" → w ≠ "version" → b = decide (chgO (lookR rs key) < m)) (q : ∀ H', Ex H H' → Q (.bl b) H') : t_holds K sp { nx := fun _ H' => Q .non H', rt := Q } (start N_holds [v, .ref d]) H := by
  obtain ⟨x1, x4, hx⟩ := recN_eq (lookR rs key)
  have hg := evp_getN (σ := start N_holds [v, .ref d]) (k := key) (d := d) (td := tVar 1) (ty := tOp (rIxT K) (tVar 0) (tC (.int 1))) (ev_var rfl) (ev_ixA (ev_var rfl) hv ev_c rfl) hr
  rw [hx] at hg
  refine alw_here (al_if (et_test (ev_eqS (ev_ixA (ev_var rfl) hv ev_c rfl) ev_c)) (fun hb => absurd (of_decide_eq_true hb) hn) fun _ => al_skip (al_tupP5 hg fun H2 e12 => ?_))
  have hv2 := hv.kt (Ex.kt e12)
  refine al_if (et_test (ev_eqS (ev_ixA (ev_var rfl) hv2 ev_c rfl) ev_c)) (fun hb => ?_) fun hb => al_skip ?_
  · have hb := of_decide_eq_true hb
    refine alw_ret (ev_eq (ev_var rfl) (ev_ixA (ev_var rfl) hv2 ev_c rfl) (scal_opt _ _)) fun H3 e3 => ?_
    rw [optV_eq, ← h1 hb]
    exact q H3 (e12.trans e3)
  · have hb := of_decide_eq_false hb
    refine al_if (et_test (ev_eqS (ev_ixA (ev_var rfl) hv2 ev_c rfl) ev_c)) (fun hc => ?_) fun hc => al_skip ?_
    · have hc := of_decide_eq_true hc
      refine alw_ret (ev_eqI (ev_var rfl) (ev_ixA (ev_var rfl) hv2 ev_c rfl)) fun H3 e3 => ?_
      rw [← h2 hb hc]
      exact q H3 (e12.trans e3)
    · have hc := of_decide_eq_false hc
      refine al_if (et_test (ev_eqS (ev_ixA (ev_var rfl) hv2 ev_c rfl) ev_c)) (fun hd => ?_) fun hd => al_skip ?_
      · have hd := of_decide_eq_true hd
        refine alw_ret (ev_eqI (ev_var rfl) (ev_ixA (ev_var rfl) hv2 ev_c rfl)) fun H3 e3 => ?_
        rw [← h3 hb hc hd]
        exact q H3 (e12.trans e3)
      · have hd := of_decide_eq_false hd
        refine alw_ret (ev_lt (ev_var rfl) (ev_ixA (ev_var rfl) hv2 ev_c rfl)) fun H3 e3 => ?_
        rw [← h4 hb hc hd]
        exact q H3 (e12.trans e3)
theorem purer_holds {n : Nat} (h : spr_holds K (n + 1) vs H Q E) : t_holds K (spr_holds K n) { nx := fun _ H' => Q .non H', rt := Q } (start N_holds vs) H := by
  obtain ⟨v, d, c, rs, rfl, hv, hn, hr, q⟩ := h
  cases c with
  | value k m => exact hold_plain hv (by decide) hr (fun _ => rfl) (fun z => absurd rfl z) (fun z => absurd rfl z) (fun z => absurd rfl z) q
  | changed k m => exact hold_plain hv (by decide) hr (fun z => absurd z (by decide)) (fun _ _ => rfl) (fun _ z => absurd rfl z) (fun _ z => absurd rfl z) q
  | version k m => exact hold_plain hv (by decide) hr (fun z => absurd z (by decide)) (fun _ z => absurd z (by decide)) (fun _ _ _ => rfl) (fun _ _ z => absurd rfl z) q
  | less k m => exact hold_plain hv (by decide) hr (fun z => absurd z (by decide)) (fun _ z => absurd z (by decide)) (fun _ _ z => absurd z (by decide)) (fun _ _ _ => rfl) q
  | neg c =>
    obtain ⟨w, hv, hw⟩ := hv
    have hn' : c.depth ≤ n := by
      have : c.depth + 1 ≤ n + 1 := hn
      omega
    refine alw_here (al_if (et_test (ev_eqS (ev_ixA (ev_var rfl) hv ev_c rfl) ev_c)) (fun _ => ?_) fun hb => absurd (of_decide_eq_false hb) (by simp))
    refine alw_ret (ev_notV (ev_call (ea_cons (ev_ixA (ev_var rfl) hv ev_c rfl) (ea_cons (ev_var rfl) ea_nil)) fun H1 e Q q E => ⟨w, d, c, rs, rfl, CondV.kt (Ex.kt e) hw, hn', hr.ex e, fun H2 e2 => q H2 e2⟩)) fun H1 e1 => ?_
    exact q H1 e1
/-! ### deeds -/
theorem pure_is_deed (h : sp_is_deed K vs H Q E) : t_is_deed K { nx := fun _ H' => Q .non H', rt := Q } (start N_is_deed vs) H := by
  obtain ⟨v, d, rfl, hv, hok, q⟩ := h
  cases d with
  | drop k =>
    have hk : isKeyV (.str k) = true := hok
    have hv : TAt H v [.str "drop", .str k] := hv
    refine alw_here (al_if (et_or (et_not (et_B (ev_isTup (ev_var rfl) hv))) fun _ => et_or (et_test (ev_lt (ev_lenT (ev_var rfl) hv) ev_c)) fun _ => et_or (et_not (et_B (ev_isStr (ev_ixA (ev_var rfl) hv ev_c rfl) (by decide)))) fun _ => et_not (et_B (ev_isKey (ev_ixA (ev_var rfl) hv ev_c rfl) (thing_key hok)))) (fun hb => ?_) fun _ => al_skip (al_if (et_test (ev_eqS (ev_ixA (ev_var rfl) hv ev_c rfl) ev_c)) (fun _ => ?_) fun hb => absurd (of_decide_eq_false hb) (by simp)))
    · rw [hk] at hb
      simp at hb
    · exact alw_ret (ev_eqI (ev_lenT (ev_var rfl) hv) ev_c) fun H1 e1 => q H1 e1
  | put k m l =>
    obtain ⟨hk0, h0, h1, hl⟩ := hok
    have hk : isKeyV (.str k) = true := hk0
    have hv : TAt H v [.str "put", .str k, .int m, optV l] := hv
    refine alw_here (al_if (et_or (et_not (et_B (ev_isTup (ev_var rfl) hv))) fun _ => et_or (et_test (ev_lt (ev_lenT (ev_var rfl) hv) ev_c)) fun _ => et_or (et_not (et_B (ev_isStr (ev_ixA (ev_var rfl) hv ev_c rfl) (by decide)))) fun _ => et_not (et_B (ev_isKey (ev_ixA (ev_var rfl) hv ev_c rfl) (thing_key hk0)))) (fun hb => ?_) fun _ => al_skip (al_if (et_test (ev_eqS (ev_ixA (ev_var rfl) hv ev_c rfl) ev_c)) (fun hb => absurd (of_decide_eq_true hb) (by decide)) fun _ => al_skip ?_))
    · rw [hk] at hb
      simp at hb
    · refine alw_ret (ev_andV (ev_eqS (ev_ixA (ev_var rfl) hv ev_c rfl) ev_c) fun _ => ev_andV (ev_eqI (ev_lenT (ev_var rfl) hv) ev_c) fun _ => ev_andV (ev_isValue (ev_ixA (ev_var rfl) hv ev_c rfl) (.int m)) fun _ => ev_isLease (ev_ixA (ev_var rfl) hv ev_c rfl) (thing_opt l)) fun H1 e1 => ?_
      have e : isValueV (.int m) = true := by
        show (decide (0 ≤ m) && decide (m ≤ 9999)) = true
        rw [decide_eq_true h0, decide_eq_true h1]
        rfl
      have e2 : isLeaseV (optV l) = true := by
        cases l with
        | none => rfl
        | some i =>
          show (_ || decide (1 ≤ i)) = true
          rw [decide_eq_true (hl i rfl), Bool.or_true]
      rw [e, e2]
      exact q H1 e1
theorem pure_are_deeds (h : sp_are_deeds K vs H Q E) : t_are_deeds K { nx := fun _ H' => Q .non H', rt := Q } (start N_are_deeds vs) H := by
  obtain ⟨v, ds, rfl, ⟨ws, hv, hp⟩, ⟨h4, hd, hn⟩, q⟩ := h
  have hlen := pr_len hp
  have hcomp := lc_typed (α := V) (J := Itr 0 0) (P := fun _ v y => v = y) (tt := tYes) (te := tCall (sp_is_deed K) [] E0 (tCons (tVar 1) tNil)) (j := 1) (vs := [1]) (σ := start N_are_deeds [v]) (B := H) (wi := iTup K (tVar 0))
    (ei_tupA (ev_var rfl) hv) (paired_mem hp) (fun _ => some (V.bl true)) (fun _ _ _ _ _ z => z) (fun _ => rfl) (fun x d r H1 e Q q => q H1 (Ex.refl H1))
    (fun u c y r hy => by
      cases hy
      refine Ev.p (ev_call (ea_cons (ev_var rfl) ea_nil) fun H1 e Q q E => ⟨u, c, rfl, DeedV.kt (Ex.kt e) r.1, hd c r.2, fun H2 e2 => q H2 e2⟩) fun _ _ => rfl) (by omega)
  rw [map_bl] at hcomp
  have hkeys := lc_typed (α := V) (J := Itr 0 0) (P := fun _ v y => v = y) (tt := tYes) (te := tOp (rIxT K) (tVar 1) (tC (.int 1))) (j := 1) (vs := [1]) (σ := start N_are_deeds [v]) (B := H) (wi := iTup K (tVar 0))
    (ei_tupA (ev_var rfl) hv) hp (fun d => some (V.str d.key)) (fun _ _ _ _ _ z => z) (fun _ => rfl) (fun x d r H1 e Q q => q H1 (Ex.refl H1))
    (fun u c y r hy => by
      cases hy
      exact Ev.p (ev_ixA (ev_var rfl) r ev_c (deed_1 c)) fun _ _ => rfl) (by omega)
  have hk2 : List.filterMap (fun d => some (V.str (Deed.key d))) ds = (ds.map Deed.key).map V.str := by
    rw [List.map_map, ← List.filterMap_eq_map]
    rfl
  rw [hk2] at hkeys
  have hun : Ev (tUnlike K (tLc (iTup K (tVar 0)) (gName 1) tYes (tOp (rIxT K) (tVar 1) (tC (.int 1))) [1])) (start N_are_deeds [v]) H (.int (unlike (ds.map Deed.key) : Nat)) := fun H1 e1 Q q =>
    hkeys.toL H1 e1 _ fun p H2 hp2 e2 h2 => ⟨p, ds.map Deed.key, rfl, sq_of h2, by rw [List.length_map]; omega, q H2 e2⟩
  refine alw_here (al_if (et_or (et_not (et_B (ev_isTup (ev_var rfl) hv))) fun _ => et_or (et_test (ev_gt (ev_lenT (ev_var rfl) hv) ev_c)) fun _ => et_not (et_B (ev_all hcomp.toL))) (fun hb => ?_) fun _ => al_skip ?_)
  · rw [all_true, decide_eq_false (by omega)] at hb
    simp at hb
  · refine alw_ret (ev_eqI hun (ev_lenT (ev_var rfl) hv)) fun H1 e1 => ?_
    rw [(unlike_len _).mpr hn, List.length_map, decide_eq_true (by omega)]
    exact q H1 e1
end
end KW
namespace KW
open PySem PySem.Spec PyProof.Rows L2 Evl
theorem no_is_condition {K : PySem.W.Frag} {vs : List V} {H : Hp} {Q : VK} {E : XK} : ¬ spr_is_condition K 0 vs H Q E := fun ⟨v, d, c, _, _, _, h, _⟩ => by
  have := cond_depth c
  omega
theorem no_holds {K : PySem.W.Frag} {vs : List V} {H : Hp} {Q : VK} {E : XK} : ¬ spr_holds K 0 vs H Q E := fun ⟨v, d, c, rs, _, _, h, _⟩ => by
  have := cond_depth c
  omega
end KW

/-! the house: dealings, leases -/
namespace KW
open PySem PySem.Spec PyProof.Rows L2 Evl
section
variable {C : Addr} {H H' : Hp} {p : Addr} {s : HS} {z : HCell}
theorem house_ends (h : HouseAt C H p s z) {es : List (Int × (Int × Int))} (hr : EndsAt H' z.e es) (k1 : Keep1 z.e H H') (kt : Kt H H') : HouseAt C H' p { s with ends := es } z := by
  obtain ⟨⟨dx0, fs, h0⟩, ⟨e1, h1⟩, ⟨e2, h2⟩, ⟨e3, h3⟩, ⟨e4, h4⟩, ⟨e5, h5⟩, ⟨e6, h6⟩⟩ := h.cells
  obtain ⟨dx, ho⟩ := h.ob
  exact ⟨⟨dx, k1 _ _ (ne_of h0 h4 (by intro q; cases q)) ho⟩, h.recs.move (fun v x q => RecV.kt kt q) fun o => k1 _ _ h.re, h.old.move (fun v x q => RecV.kt kt q) fun o => k1 _ _ h.oe, h.log.move kt (fun v x q => EvV.kt kt q) fun o => k1 _ _ (ne_of h3 h4 (by intro q; cases q)),
    hr, h.spans.move kt (fun v x q => SpanV.kt kt q) fun o => k1 _ _ (ne_of h5 h4 (by intro q; cases q)), h.cut.move (fun v x q => q) fun o => k1 _ _ h.ec.symm, h.ro, h.re, h.rc, h.oe, h.oc, h.ec, h.ls⟩
theorem keep_of1 {F : List Addr} {d : Addr} (hd : d ∈ F) (k1 : Keep1 d H H') (kt : Kt H H') : Keep F F H H' := ⟨fun b o hb hn => k1 b o (fun e => hn (by rw [e]; exact hd)) hb, fun b hb => .inl hb, kt⟩
theorem dget_ends {d : Addr} {es : List (Int × (Int × Int))} (h : EndsAt H d es) (k : Int) : (∃ v r, DGet H d (.int k) (some v) ∧ lookA es k = some r ∧ EndV H v r) ∨ (DGet H d (.int k) none ∧ lookA es k = none) := by
  obtain ⟨kv, h1, h2⟩ := h
  rcases val_of inl_inj h2 k with ⟨v, r, e1, e2, e3⟩ | ⟨e1, e2⟩
  · refine .inl ⟨v, r, ?_, e2, e3⟩
    rw [← e1]
    exact DGet.k (k := Sum.inl k) h1
  · refine .inr ⟨?_, e2⟩
    rw [← e1]
    exact DGet.k (k := Sum.inl k) h1
theorem ends_put {d : Addr} {es : List (Int × (Int × Int))} {k : Int} {r : Int × Int} {v : V} {kv : List (Key × V)} (h1 : H d = some (.dK kv)) (h2 : Paired (fun (e : Key × V) (p : Int × (Int × Int)) => e.1 = Sum.inl p.1 ∧ EndV H e.2 p.2) kv es) (hv : EndV H v r) :
    EndsAt (upd H d (.dK (putK kv (Sum.inl k) v))) d (putA es k r) := by
  have kt : Kt H (upd H d (.dK (putK kv (Sum.inl k) v))) := (Kt.refl H).upd (ne_tup_of h1 fun xs z => by cases z)
  exact ⟨_, upd_same, put_of (f := fun k : Int => (Sum.inl k : Key)) (R := EndV _) inl_inj (pr_mono h2 fun a b z => ⟨z.1, TAt.kt kt z.2⟩) k (TAt.kt kt hv)⟩
theorem ends_drop {d : Addr} {es : List (Int × (Int × Int))} {k : Int} {kv : List (Key × V)} (h1 : H d = some (.dK kv)) (h2 : Paired (fun (e : Key × V) (p : Int × (Int × Int)) => e.1 = Sum.inl p.1 ∧ EndV H e.2 p.2) kv es) :
    EndsAt (upd H d (.dK (dropK kv (Sum.inl k)))) d (dropA es k) := by
  have kt : Kt H (upd H d (.dK (dropK kv (Sum.inl k)))) := (Kt.refl H).upd (ne_tup_of h1 fun xs z => by cases z)
  exact ⟨_, upd_same, drop_of (f := fun k : Int => (Sum.inl k : Key)) (R := EndV _) inl_inj (pr_mono h2 fun a b z => ⟨z.1, TAt.kt kt z.2⟩) k⟩
end
section
variable {K : PySem.W.Frag} {σ : L2.St} {H H' : Hp} {ta tb te tx td ty to : TE} {p : Addr} {s : HS} {z : HCell} {D : Ends} {tw : TS}
theorem evp_getE {d : Addr} {es : List (Int × (Int × Int))} {k : Int} (hd : Ev td σ H (.ref d)) (ha : Ev ty σ H (.int k)) (h : EndsAt H d es) (hl : k ∈ keysA es) : EvP (tDGet td ty) σ H (fun H v => TAt H v [.int (getE es k).1, .int (getE es k).2]) := fun H1 e Q q =>
  hd H1 e _ fun H2 e2 => ha H2 (e.trans e2) _ fun H3 e3 => by
    rcases dget_ends (EndsAt.ex ((e.trans e2).trans e3) h) k with ⟨v, r', g, l, hr⟩ | ⟨g, l⟩
    · refine ⟨d, v, rfl, g, q v H3 (e2.trans e3) ?_⟩
      unfold getE
      rw [l]
      exact hr
    · exact absurd hl (lookA_none.mp l)
/-- an int field is stored -/
theorem fld_int (HC : HCls K) {i : Int} {f : Str} (s' : HS) (hv : Ev te σ H (.int i)) (he : Ev to σ H (.ref p)) (hh : HouseAt (clsHouse K) H p s z) (hf : f ∈ houseFields)
    (hput : putF f (.int i) (hFlds z.r z.o z.l s.last s.base z.e s.granted s.now z.s z.c) = hFlds z.r z.o z.l s'.last s'.base z.e s'.granted s'.now z.s z.c) (hr : s'.recs = s.recs) (ho : s'.old = s.old) (hl : s'.log = s.log) (hen : s'.ends = s.ends) (hs : s'.spans = s.spans) (hc : s'.cut = s.cut)
    (k : ∀ H', HouseAt (clsHouse K) H' p s' z → Keep (z.fp p) (z.fp p) H H' → D.nx σ H') : sFld K to te f D σ H :=
  hv H (Ex.refl H) _ fun H1 e1 => he H1 e1 _ fun H2 e2 => by
    have hh2 := hh.ex (e1.trans e2)
    obtain ⟨dx, hob⟩ := hh2.ob
    refine ⟨p, _, dx, _, rfl, hob, HC.Housecl, HC.na _ hf, hf_len .., ?_⟩
    rw [hput]
    have kt3 : Kt H2 (upd H2 p (.ins (clsHouse K) dx (hFlds z.r z.o z.l s'.last s'.base z.e s'.granted s'.now z.s z.c))) := (Kt.refl H2).upd (hh2.notup (mem_fp p z).1)
    refine k _ (house_ob (s' := s') (dx := dx) hh2 hr ho hl hen hs hc) ((Keep.ex (e1.trans e2)).trans ⟨fun b o hb hn => ?_, fun b hb => .inl hb, kt3⟩)
    rw [upd_ne (fun q => hn (by rw [q]; exact (mem_fp p z).1))]
    exact hb
/-- ends[k] = (a, b) -/
theorem put_ends (HC : HCls K) {k a b : Int} (hu : EvU te σ H [.int a, .int b]) (hd : Ev td σ H (.ref z.e)) (ha : Ev ty σ H (.int k)) (hh : HouseAt (clsHouse K) H p s z) (hl : s.ends.length ≤ 50000)
    (q : ∀ H', HouseAt (clsHouse K) H' p { s with ends := putA s.ends k (a, b) } z → Keep (z.fp p) (z.fp p) H H' → D.nx σ H') : sDPut td ty te D σ H :=
  hu H (Ex.refl H) _ fun t H1 ht e1 ht1 => hd H1 e1 _ fun H2 e2 => ha H2 (e1.trans e2) _ fun H3 e3 => by
    have hh3 := hh.ex ((e1.trans e2).trans e3)
    obtain ⟨kv, h1, h2⟩ := hh3.ends
    have hlen := pr_len h2
    have kt : Kt H3 (upd H3 z.e (.dK (putK kv (Sum.inl k) (.ref t)))) := (Kt.refl H3).upd (ne_tup_of h1 fun xs z => by cases z)
    have k1 : Keep1 z.e H3 (upd H3 z.e (.dK (putK kv (Sum.inl k) (.ref t)))) := keep1_upd (Ex.refl H3)
    exact ⟨z.e, _, rfl, .inl ⟨kv, Sum.inl k, h1, rfl, Nat.lt_of_le_of_lt (Nat.le_of_eq hlen) (Nat.lt_of_le_of_lt hl (by decide)), rfl⟩,
      q _ (house_ends hh3 (ends_put (r := (a, b)) h1 h2 ⟨t, rfl, (e2.trans e3) t _ ht1⟩) k1 kt) ((Keep.ex ((e1.trans e2).trans e3)).trans (keep_of1 (mem_fp p z).2.2.2.2.1 k1 kt))⟩
theorem pop_ends (HC : HCls K) {k : Int} (hd : Ev td σ H (.ref z.e)) (ha : Ev ty σ H (.int k)) (hh : HouseAt (clsHouse K) H p s z) (hk : k ∈ keysA s.ends)
    (q : ∀ H', HouseAt (clsHouse K) H' p { s with ends := dropA s.ends k } z → Keep (z.fp p) (z.fp p) H H' → D.nx σ H') : tDrop (tDPop1 td ty) D σ H :=
  hd H (Ex.refl H) _ fun H2 e2 => by
    obtain ⟨kv0, g1, g2⟩ := (hh.ex e2).ends
    refine ⟨z.e, rfl, .inl ⟨kv0, .inl g1⟩, ha H2 e2 _ fun H3 e3 => ?_⟩
    have hh3 := hh.ex (e2.trans e3)
    obtain ⟨kv, h1, h2⟩ := hh3.ends
    have kt : Kt H3 (upd H3 z.e (.dK (dropK kv (Sum.inl k)))) := (Kt.refl H3).upd (ne_tup_of h1 fun xs z => by cases z)
    have k1 : Keep1 z.e H3 (upd H3 z.e (.dK (dropK kv (Sum.inl k)))) := keep1_upd (Ex.refl H3)
    rcases val_of inl_inj h2 k with ⟨v, r, z1, z2, z3⟩ | ⟨z1, z2⟩
    · exact ⟨kv, Sum.inl k, v, h1, rfl, z1, q _ (house_ends hh3 (ends_drop h1 h2) k1 kt) ((Keep.ex (e2.trans e3)).trans (keep_of1 (mem_fp p z).2.2.2.2.1 k1 kt))⟩
    · exact absurd hk (lookA_none.mp z2)
/-- a lease that lives is asked for -/
theorem al_lease {E : XK} {i : Int} (he : Ev te σ H (.ref p)) (ha : Ev ta σ H (.int i)) (hh : HouseAt (clsHouse K) H p s z) (h1 : 1 ≤ i) (hi : i ∈ keysA s.ends) (k : Alw tw D σ H) :
    Alw (tSeq (tDrop (tMeth (clsHouse K) "need_lease" (sp_h_need_lease K) [] E te (tCons ta tNil))) tw) D σ H := fun H1 e1 =>
  meth_call (he.mono e1) (hh.ex e1) (by decide +kernel) (ea_cons (ha.mono e1) ea_nil) fun H2 e2 =>
    ⟨p, s, z, _, rfl, hh.ex (e1.trans e2), .int i, fun H3 e3 => ⟨fun j hj _ _ => k H3 ((e1.trans e2).trans e3), fun hn => absurd hi (hn i rfl h1)⟩⟩
theorem al_term {E : XK} {i : Int} (he : Ev te σ H (.ref p)) (ha : Ev ta σ H (.int i)) (hh : HouseAt (clsHouse K) H p s z) (h1 : 1 ≤ i) (h2 : i ≤ 99) (k : Alw tw D σ H) :
    Alw (tSeq (tDrop (tMeth (clsHouse K) "need_term" (sp_h_need_term K) [] E te (tCons ta tNil))) tw) D σ H := fun H1 e1 =>
  meth_call (he.mono e1) (hh.ex e1) (by decide +kernel) (ea_cons (ha.mono e1) ea_nil) fun H2 e2 =>
    ⟨p, _, rfl, .int i, fun H3 e3 => ⟨fun _ => k H3 ((e1.trans e2).trans e3), fun hn => by
      have : isTermV (.int i) = true := by
        show (decide (1 ≤ i) && decide (i ≤ 99)) = true
        rw [decide_eq_true h1, decide_eq_true h2]
        rfl
      rw [this] at hn
      cases hn⟩⟩
end
section
variable {K : PySem.W.Frag} {vs : List V} {H : Hp} {Q : VK} {E : XK}
theorem pure_h_folded (HC : HCls K) (h : sp_h_folded K vs H Q E) : (tRet (tFld K (tVar 0) "base")) { nx := fun _ H' => Q .non H', rt := Q } (start ["self"] vs) H := by
  obtain ⟨p, s, z, rfl, hh, q⟩ := h
  obtain ⟨dx, ho⟩ := hh.ob
  exact ⟨_, rfl, p, _, dx, _, _, rfl, ho, HC.Housecl, HC.na _ (by decide +kernel), hf_base .., q⟩
theorem pure_h_clock (HC : HCls K) (h : sp_h_clock K vs H Q E) : t_h_clock K { nx := fun _ H' => Q .non H', rt := Q } (start N_h_clock vs) H := by
  obtain ⟨p, s, z, rfl, hh, q⟩ := h
  obtain ⟨dx, ho⟩ := hh.ob
  exact ⟨_, rfl, p, _, dx, _, _, rfl, ho, HC.Housecl, HC.na _ (by decide +kernel), hf_now .., q⟩
theorem pure_h_need_term (h : sp_h_need_term K vs H Q E) : t_h_need_term K E { nx := fun _ H' => Q .non H', rt := Q } (start N_h_need_term vs) H := by
  obtain ⟨p, v, rfl, ht, q⟩ := h
  cases hw : isWholeV v 1 with
  | false =>
    have h1 := ev_isWhole (K := K) (σ := start N_h_need_term [.ref p, v]) (E := E0) (ev_var (i := 1) rfl) (ev_c (v := .int 1)) ht
    rw [hw] at h1
    refine alw_here (alw_if (et_or (b := true) (et_not (et_B h1)) fun z => by cases z) (fun _ H1 e1 => ?_) fun z => by cases z)
    refine (q H1 e1).2 ?_
    cases v with
    | int i =>
      have hw2 : decide ((1 : Int) ≤ i) = false := hw
      show (decide (1 ≤ i) && decide (i ≤ 99)) = false
      rw [hw2]
      rfl
    | _ => rfl
  | true =>
    obtain ⟨i, rfl⟩ : ∃ i, v = .int i := by
      cases v with
      | int i => exact ⟨i, rfl⟩
      | _ => cases hw
    have h1i : 1 ≤ i := of_decide_eq_true hw
    have h1 := ev_isWhole (K := K) (σ := start N_h_need_term [.ref p, .int i]) (E := E0) (ev_var (i := 1) rfl) (ev_c (v := .int 1)) ht
    rw [hw] at h1
    refine alw_here (alw_if (et_or (et_not (et_B h1)) fun _ => et_test (ev_gt (ev_var rfl) ev_c)) (fun hb H1 e1 => ?_) fun hb H1 e1 => ?_)
    · refine (q H1 e1).2 ?_
      have hb2 : 99 < i := by simpa using hb
      show (decide (1 ≤ i) && decide (i ≤ 99)) = false
      rw [decide_eq_false (show ¬ i ≤ 99 by omega), Bool.and_false]
    · refine (q H1 e1).1 ?_
      have hb2 : i ≤ 99 := by simpa using hb
      show (decide (1 ≤ i) && decide (i ≤ 99)) = true
      rw [decide_eq_true h1i, decide_eq_true hb2]
      rfl
theorem pure_h_grant (HC : HCls K) (h : sp_h_grant K vs H Q E) : t_h_grant K E { nx := fun _ H' => Q .non H', rt := Q } (start N_h_grant vs) H := by
  obtain ⟨p, s, z, t, rfl, hh, h1, h2, hl, q⟩ := h
  refine alw_here (al_term (ev_var rfl) (ev_var rfl) hh h1 h2 fun H1 e1 => ?_)
  have hh1 := hh.ex e1
  refine fld_int (D := { nx := _, rt := Q }) HC { s with granted := s.granted + 1 } (ev_add (ev_granted HC (ev_var rfl) hh1) ev_c) (ev_var rfl) hh1 (by decide +kernel) (hp_granted ..) rfl rfl rfl rfl rfl rfl fun H2 hh2 k2 => ?_
  have hnow : Ev (tFld K (tVar 0) "now") (start N_h_grant [.ref p, .int t]) H2 (.int s.now) := ev_now (s := { s with granted := s.granted + 1 }) HC (ev_var rfl) hh2
  have hgr : Ev (tFld K (tVar 0) "granted") (start N_h_grant [.ref p, .int t]) H2 (.int (s.granted + 1)) := ev_granted (s := { s with granted := s.granted + 1 }) HC (ev_var rfl) hh2
  refine put_ends (D := { nx := _, rt := Q }) (k := s.granted + 1) (a := t) (b := s.now + t) HC (eu_tup (ea_cons (ev_var rfl) (ea_cons (ev_add hnow (ev_var rfl)) ea_nil)) (show 2 ≤ 100000 by decide)) (ev_ends HC (ev_var rfl) hh2) hgr hh2 hl fun H3 hh3 k3 => ?_
  refine alw_here (alw_ret (ev_granted HC (ev_var rfl) hh3) fun H4 e4 => ?_)
  exact q H4 z (hh3.ex e4) ((Keep.ex e1).trans (k2.trans (k3.trans (Keep.ex e4))))
theorem pure_h_renew (HC : HCls K) (h : sp_h_renew K vs H Q E) : t_h_renew K E { nx := fun _ H' => Q .non H', rt := Q } (start N_h_renew vs) H := by
  obtain ⟨p, s, z, l, rfl, hh, h1, hm, hl, q⟩ := h
  refine alw_here (al_lease (ev_var rfl) (ev_var rfl) hh h1 hm fun H1 e1 => ?_)
  have hh1 := hh.ex e1
  have hg : Ev (tOp (rIxT K) (tDGet (tFld K (tVar 0) "ends") (tVar 1)) (tC (.int 0))) (start N_h_renew [.ref p, .int l]) H1 (.int (getE s.ends l).1) := ev_ixP (evp_getE (ev_ends HC (ev_var rfl) hh1) (ev_var rfl) hh1.ends hm) (fun _ _ => ev_c) rfl
  refine put_ends (D := { nx := _, rt := Q }) (k := l) (a := (getE s.ends l).1) (b := s.now + (getE s.ends l).1) HC (eu_tup (ea_cons hg (ea_cons (ev_add (ev_now HC (ev_var rfl) hh1) hg) ea_nil)) (show 2 ≤ 100000 by decide)) (ev_ends HC (ev_var rfl) hh1) (ev_var rfl) hh1 hl fun H3 hh3 k3 => ?_
  exact q H3 z hh3 ((Keep.ex e1).trans k3)
theorem pure_h_left (HC : HCls K) (h : sp_h_left K vs H Q E) : t_h_left K E { nx := fun _ H' => Q .non H', rt := Q } (start N_h_left vs) H := by
  obtain ⟨p, s, z, l, rfl, hh, h1, hm, q⟩ := h
  refine alw_here (al_lease (ev_var rfl) (ev_var rfl) hh h1 hm ?_)
  have hg : Ev (tOp (rIxT K) (tDGet (tFld K (tVar 0) "ends") (tVar 1)) (tC (.int 1))) (start N_h_left [.ref p, .int l]) H (.int (getE s.ends l).2) := ev_ixP (evp_getE (ev_ends HC (ev_var rfl) hh) (ev_var rfl) hh.ends hm) (fun _ _ => ev_c) rfl
  exact alw_ret (ev_sub hg (ev_now HC (ev_var rfl) hh)) fun H1 e1 => q H1 e1
/-- sorted(list(self.records)) -/
theorem el_sorted {σ : L2.St} {td : TE} {d : Addr} {rs : Recs} (hd : Ev td σ H (.ref d)) (h : RecsAt H d rs) (hl : rs.length < 64) : EvL (tCB (rSortedS K) (tCons (tCB rListD (tCons td tNil)) tNil)) σ H ((sortS (keysA rs)).map V.str) := fun H1 e1 Q q =>
  hd H1 e1 _ fun H2 e2 => by
    obtain ⟨es, h1, h2⟩ := h.ex (e1.trans e2)
    refine ⟨d, es, rfl, h1, fun l hl' => ?_⟩
    refine ⟨l, keysA rs, rfl, sq_of ?_, ?_, fun ys p hp hs hn => ?_⟩
    · rw [upd_same, keys_of (f := fun k : Str => (Sum.inr k : Key)) h2]
      rfl
    · unfold keysA
      rw [List.length_map]
      exact hl
    · rw [sorted_eq hp (sortedS_pair ys hs)]
      exact q p _ (fresh_back (e2.trans (Ex.new hl')) hn) ((e2.trans (Ex.new hl')).trans (Ex.new hn)) upd_same
theorem pure_h_keys_of (HC : HCls K) (h : sp_h_keys_of K vs H Q E) : t_h_keys_of K E { nx := fun _ H' => Q .non H', rt := Q } (start N_h_keys_of vs) H := by
  obtain ⟨p, s, z, l, rfl, hh, h1, hm, h64, q⟩ := h
  refine alw_here (al_lease (ev_var rfl) (ev_var rfl) hh h1 hm fun H1 e1 => ?_)
  have hh1 := hh.ex e1
  have hc := lc_typed (α := V) (β := Str) (J := Itr 0 0) (R := fun v k => v = V.str k ∧ k ∈ sortS (keysA s.recs)) (P := fun _ v y => v = y) (wi := iList K (tCB (rSortedS K) (tCons (tCB rListD (tCons (tFld K (tVar 0) "records") tNil)) tNil))) (tt := tTest (tOp rEq (tOp (rIxT K) (tDGet (tFld K (tVar 0) "records") (tVar 2)) (tC (.int 4))) (tVar 1))) (te := tVar 2) (j := 2) (vs := [2]) (σ := start N_h_keys_of [.ref p, .int l]) (B := H1)
    (ei_listN (el_sorted (ev_records HC (ev_var rfl) hh1) hh1.recs h64)) (paired_mem (paired_map V.str _)) (fun k => if decide ((getR s.recs k).lease = some l) = true then some (V.str k) else none) (fun _ _ _ _ _ z => z) (fun _ => rfl)
    (fun x k hx => by
      obtain ⟨rfl, hk⟩ := hx
      obtain ⟨r, hr⟩ := Option.isSome_iff_exists.mp (lookA_some.mpr (mem_sortS.mp hk))
      have hg : getR s.recs k = r := by
        unfold getR
        rw [show lookR s.recs k = some r from hr]
        rfl
      have e : (if decide ((getR s.recs k).lease = some l) = true then some (V.str k) else none).isSome = decide (optV r.lease = V.int l) := by
        rw [hg, optV_eq]
        by_cases w : r.lease = some l <;> simp [w]
      rw [e]
      exact et_test (ev_eq (ev_ixP (evp_getD (ev_records HC (ev_var rfl) hh1) (ev_var rfl) hh1.recs hr) (fun _ _ => ev_c) rfl) (ev_var rfl) (scal_opt _ _)))
    (fun x k y hx hy => by
      split at hy
      · cases hy
        rw [hx.1]
        exact Ev.p (ev_var rfl) fun H1 e => rfl
      · cases hy) (by rw [List.length_map, sortS_len]; unfold keysA; rw [List.length_map]; omega)
  have e : List.filterMap (fun k => if decide ((getR s.recs k).lease = some l) = true then some (V.str k) else none) (sortS (keysA s.recs)) = (s.keysOf l).map V.str := by
    unfold HS.keysOf
    induction sortS (keysA s.recs) with
    | nil => rfl
    | cons a r ih =>
      rw [List.filterMap_cons, List.filter_cons]
      by_cases w : (getR s.recs a).lease = some l
      · simp only [w, decide_true, if_true, List.map_cons]
        rw [ih]
      · simp only [w, decide_false, Bool.false_eq_true, if_false]
        exact ih
  rw [e] at hc
  exact hc.toL H1 (Ex.refl _) _ fun r H2 hr e2 h2 => q H2 r (e1.trans e2) (fresh_back e1 hr) h2
theorem fm_some {α β : Type} (f : α → β) (xs : List α) : List.filterMap (fun a => some (f a)) xs = xs.map f := by
  rw [← List.filterMap_eq_map]
  rfl
/-- self.write(a list made on the way) -/
theorem write_lp (HC : HCls K) {σ : L2.St} {to te : TE} {ds : List Deed} {p : Addr} {s : HS} {z : HCell} {E : XK} {Q : VK} (he : Ev to σ H (.ref p)) (hh : HouseAt (clsHouse K) H p s z) (h : EvLP te σ H DeedV ds) (hs : s.small ds.length) (hn : (ds.map Deed.key).Nodup)
    (q : ∀ H' z', HouseAt (clsHouse K) H' p (s.write ds) z' → Keep (z.fp p) (z'.fp p) H H' → Q (.bl (!decide (realD s.recs ds = []))) H') : tMeth (clsHouse K) "write" (sp_h_write K) [] E to (tCons te tNil) σ H Q :=
  he H (Ex.refl H) _ fun H1 e1 => by
    obtain ⟨dx, ho⟩ := (hh.ex e1).ob
    refine ⟨p, dx, _, rfl, ho, hf_meth _ _ _ _ _ _ _ _ _ _ (by decide +kernel), h H1 e1 _ fun l H2 hl e2 hls => ?_⟩
    obtain ⟨ws, h1, h2⟩ := hls
    refine ⟨p, s, z, l, ds, rfl, hh.ex (e1.trans e2), ⟨ws, .inl h1, h2⟩, fun hm => ?_, hs, hn, fun H3 z' hh3 k3 => q H3 z' hh3 ((Keep.ex (e1.trans e2)).trans k3)⟩
    obtain ⟨o, ho⟩ := (hh.ex e1).some hm
    rw [hl] at ho
    cases ho
theorem pure_h_end (HC : HCls K) (h : sp_h_end K vs H Q E) : t_h_end K E { nx := fun _ H' => Q .non H', rt := Q } (start N_h_end vs) H := by
  obtain ⟨p, s, z, l, rfl, hh, h1, hm, h64, wf, hmu, q⟩ := h
  have hsrc : EvL (tMeth (clsHouse K) "keys_of" (sp_h_keys_of K) [] E (tVar 0) (tCons (tVar 1) tNil)) (start N_h_end [.ref p, .int l]) H ((s.keysOf l).map V.str) := fun H1 e1 Q q =>
    meth_call (ev_var rfl) (hh.ex e1) (by decide +kernel) (ea_cons (ev_var rfl) ea_nil) fun H2 e2 => ⟨p, s, z, l, rfl, hh.ex (e1.trans e2), h1, hm, h64, fun H3 r e3 hr hr3 => q r H3 (fresh_back e2 hr) (e2.trans e3) hr3⟩
  have hkl : (s.keysOf l).length ≤ s.recs.length := by
    have h2 := List.length_filter_le (fun k => decide ((getR s.recs k).lease = some l)) (sortS (keysA s.recs))
    rw [sortS_len] at h2
    unfold keysA at h2
    rw [List.length_map] at h2
    exact h2
  have hc := lc_typed (α := Deed) (β := Str) (J := Itr 0 0) (R := fun v k => v = V.str k) (P := DeedV) (wi := iList K (tMeth (clsHouse K) "keys_of" (sp_h_keys_of K) [] E (tVar 0) (tCons (tVar 1) tNil))) (tt := tYes) (te := tTup (tCons (tC (.str "drop")) (tCons (tVar 2) tNil))) (j := 2) (vs := [2]) (σ := start N_h_end [.ref p, .int l]) (B := H)
    (ei_listN hsrc) (paired_map V.str _) (fun k => some (Deed.drop k)) (fun _ _ _ _ k z => DeedV.kt k z) (fun _ => rfl) (fun x d r => et_yes)
    (fun x k y hx hy => by
      cases hy
      subst hx
      exact fun H1 e1 Q q => eu_tup (ea_cons ev_c (ea_cons (ev_var rfl) ea_nil)) (show 2 ≤ 100000 by decide) H1 e1 Q fun t H2 ht e2 h2 => q _ H2 e2 ⟨t, rfl, h2⟩) (by rw [List.length_map]; omega)
  rw [fm_some] at hc
  have hmu2 : s.log.length + s.recs.length ≤ 40000 := hmu
  refine write_lp (E := E0) HC (ev_var rfl) hh hc ⟨by rw [List.length_map]; omega, by rw [List.length_map]; omega⟩ (by rw [drops_keys]; exact keysOf_nodup wf l) fun H1 z1 hh1 k1 => ?_
  have hen : (s.write ((s.keysOf l).map Deed.drop)).ends = s.ends := (write_same s _).2.2.1
  refine pop_ends (D := { nx := _, rt := Q }) (k := l) HC (ev_ends HC (ev_var rfl) hh1) (ev_var rfl) hh1 (by rw [hen]; exact hm) fun H2 hh2 k2 => ?_
  rw [hen] at hh2
  exact q H2 z1 hh2 (k1.trans k2)
theorem pure_h_give_back (HC : HCls K) (h : sp_h_give_back K vs H Q E) : t_h_give_back K E { nx := fun _ H' => Q .non H', rt := Q } (start N_h_give_back vs) H := by
  obtain ⟨p, s, z, l, rfl, hh, h1, hm, h64, wf, hmu, q⟩ := h
  refine alw_here (al_lease (ev_var rfl) (ev_var rfl) hh h1 hm fun H1 e1 => ?_)
  refine meth_call (ev_var rfl) (hh.ex e1) (by decide +kernel) (ea_cons (ev_var rfl) ea_nil) fun H2 e2 => ?_
  exact ⟨p, s, z, l, rfl, hh.ex (e1.trans e2), h1, hm, h64, wf, hmu, fun H3 z3 hh3 k3 => q H3 z3 hh3 ((Keep.ex (e1.trans e2)).trans k3)⟩
/-! ### the clock goes on -/
def pairOf (H : Hp) : V → Int × Int
  | .ref t => match H t with
    | some (.tup [.int i, .int j]) => (i, j)
    | _ => (0, 0)
  | _ => (0, 0)
theorem pairOf_eq {v : V} {i j : Int} (h : TAt H v [.int i, .int j]) : pairOf H v = (i, j) := by
  obtain ⟨a, rfl, h⟩ := h
  unfold pairOf
  dsimp only
  rw [h]
abbrev PrV (H : Hp) (v : V) (q : Int × Int) : Prop := TAt H v [.int q.1, .int q.2]
theorem pairs_map : ∀ {vs : List V} {qs : List (Int × Int)}, Paired (PrV H) vs qs → vs.map (pairOf H) = qs
  | _, _, .nil => rfl
  | _, _, .cons r t => by rw [List.map_cons, pairOf_eq r, pairs_map t]
theorem pairs_of : ∀ {vs : List V}, (∀ v ∈ vs, ∃ q, PrV H v q) → Paired (PrV H) vs (vs.map (pairOf H))
  | [], _ => .nil
  | v :: r, h => by
    obtain ⟨q, hq⟩ := h v List.mem_cons_self
    refine .cons ?_ (pairs_of fun u hu => h u (List.mem_cons_of_mem _ hu))
    rw [pairOf_eq hq]
    exact hq
/-- sorted(a list of pairs) -/
theorem sorted_pairs {σ : L2.St} {te : TE} {s : HS} (h : EvLP te σ H PrV (s.ends.map fun e => (e.2.2, e.1))) : EvLP (tCB (rSortedPO K) (tCons te tNil)) σ H PrV s.due := fun H1 e1 Q q =>
  h H1 e1 _ fun l H2 hl e2 ⟨ws, l1, l2⟩ => by
    have hm := pairs_map l2
    have hex : ∀ x ∈ ws, ∃ q, PrV H2 x q := fun x hx => by
      obtain ⟨i, hi⟩ := List.mem_iff_getElem?.mp hx
      obtain ⟨q', _, w⟩ := pr_get l2 hi
      exact ⟨q', w⟩
    refine ⟨l, ws, pairOf H2, rfl, sq_of l1, fun x hx => ?_, fun ys r hs hb hr => ?_⟩
    · obtain ⟨q', w⟩ := hex x hx
      rw [pairOf_eq w]
      exact w
    · have hp : (ys.map (pairOf H2)).Perm (s.ends.map fun e => (e.2.2, e.1)) := by
        rw [← hm]
        exact hb.perm.map _
      have hsd : ys.map (pairOf H2) = s.due := by
        refine due_eq hp (List.pairwise_map.mpr (hs.imp fun {x y} w => ?_))
        have w2 := SrtO.lexB_no.mp w
        rw [pLe_iff]
        omega
      refine q r _ (fresh_back e2 hr) (e2.trans (Ex.new hr)) ⟨ys, upd_same, ?_⟩
      rw [← hsd]
      exact pr_mono (pairs_of fun v hv => hex v (hb.perm.mem_iff.mp hv)) fun a b w => TAt.kt (Ex.kt (Ex.new hr)) w
theorem pure_h_wait (HC : HCls K) (h : sp_h_wait K vs H Q E) : t_h_wait K E { nx := fun _ H' => Q .non H', rt := Q } (start N_h_wait vs) H := by
  obtain ⟨p, s, z, n, rfl, hh, h1, h2, h64, wf, lw, hmu, hel, q⟩ := h
  have hlp : EvLP (tLockE (tLc (iKeys (tFld K (tVar 0) "ends")) (gName 4) tYes (tTup (tCons (tOp (rIxT K) (tDGet (tFld K (tVar 0) "ends") (tVar 4)) (tC (.int 1))) (tCons (tVar 4) tNil))) [4])) ((start N_h_wait [.ref p, .int n]).set 2 (some (.int (s.now + n)))) H (fun H v (q : Int × Int) => TAt H v [.int q.1, .int q.2]) (s.ends.map fun e => (e.2.2, e.1)) := by
    obtain ⟨kv, g1, g2⟩ := hh.ends
    refine EvLP.lock g1 (fun _ _ _ _ k z => z.kt k) fun o H1 e1 => ?_
    obtain ⟨dx, ho⟩ := hh.ob
    have hpe : p ≠ z.e := ne_of ho g1 (by intro q; cases q)
    have hp1 : (upd H1 z.e (.frz o (.dK kv))) p = some (.ins (clsHouse K) dx (hFlds z.r z.o z.l s.last s.base z.e s.granted s.now z.s z.c)) := by
      rw [upd_ne hpe]
      exact e1 _ _ ho
    have kt1 : Kt H (upd H1 z.e (.frz o (.dK kv))) := (Ex.kt e1).trans (kt_lock' (e1 _ _ g1))
    have hfld : ∀ {σ : L2.St}, σ[0]? = some (some (.ref p)) → Ev (tFld K (tVar 0) "ends") σ (upd H1 z.e (.frz o (.dK kv))) (.ref z.e) := fun hσ => ev_fld HC (ev_var hσ) hp1 (hf_ends ..) (by decide +kernel)
    have hc := lc_gen (α := Int × Int) (P := fun H v (q : Int × Int) => TAt H v [.int q.1, .int q.2]) (te := tTup (tCons (tOp (rIxT K) (tDGet (tFld K (tVar 0) "ends") (tVar 4)) (tC (.int 1))) (tCons (tVar 4) tNil))) (tt := tYes) (g := gName 4) (vs := [4])
      (ei_keys (f := fun k : Int => (Sum.inl k : Key)) (σ := (start N_h_wait [.ref p, .int n]).set 2 (some (.int (s.now + n)))) (hfld rfl) upd_same g2) (fun l => some ((getE s.ends l).2, l)) (fun _ _ _ _ k z => z.kt k)
      (fun x l H2 e2 hx hl => by
        have hx : x = V.int l := hx
        subst hx
        refine ⟨_, g_name, rfl, et_yes, fun y hy => ?_⟩
        cases hy
        obtain ⟨r, hr⟩ := Option.isSome_iff_exists.mp (lookA_some.mpr hl)
        have hge : getE s.ends l = r := by
          unfold getE
          rw [hr]
          rfl
        rw [hge]
        obtain ⟨v, r', w1, w2, w3⟩ : ∃ v r, valV kv (Sum.inl l) = some v ∧ lookA s.ends l = some r ∧ EndV H v r := by
          rcases val_of inl_inj g2 l with h | ⟨_, h⟩
          · exact h
          · rw [hr] at h
            cases h
        rw [hr] at w2
        cases w2
        have hget : EvP (tDGet (tFld K (tVar 0) "ends") (tVar 4)) ((wipe ((start N_h_wait [.ref p, .int n]).set 2 (some (.int (s.now + n)))) [4]).set 4 (some (.int l))) H2 (fun H v => TAt H v [.int r.1, .int r.2]) := fun H3 e3 Q q =>
          (hfld (σ := (wipe ((start N_h_wait [.ref p, .int n]).set 2 (some (.int (s.now + n)))) [4]).set 4 (some (.int l))) rfl) H3 (e2.trans e3) _ fun H4 e4 => ⟨_, rfl, z.e, v, rfl, .inl ⟨kv, Sum.inl l, .inr ⟨o, ((e2.trans e3).trans e4) _ _ upd_same⟩, rfl, w1.symm⟩, q v H4 e4 (TAt.kt (kt1.trans (Ex.kt ((e2.trans e3).trans e4))) w3)⟩
        exact fun H3 e3 Q q => eu_tup (ea_cons (ev_ixP hget (fun _ _ => ev_c) rfl) (ea_cons (ev_var rfl) ea_nil)) (show 2 ≤ 100000 by decide) H3 e3 Q fun t H4 ht e4 h4 => q _ H4 e4 ⟨t, rfl, h4⟩) (by unfold keysA; rw [List.length_map]; omega)
    rw [fm_some] at hc
    have e : (keysA s.ends).map (fun l => ((getE s.ends l).2, l)) = s.ends.map fun e => (e.2.2, e.1) := by
      unfold keysA
      rw [List.map_map]
      refine List.map_congr_left fun e he => ?_
      show ((getE s.ends e.1).2, e.1) = _
      unfold getE
      rw [lookA_of_mem lw.nd (k := e.1) (r := e.2) he]
      rfl
    rw [e] at hc
    exact hc
  refine alw_here (al_term (ev_var rfl) (ev_var rfl) hh h1 h2 (al_set (ev_add (ev_now HC (ev_var rfl) hh) (ev_var rfl)) fun H1 e1 => ?_))
  refine seq_lcP ((sorted_pairs hlp).mono e1) fun r H2 hr e2 ⟨ws, l1, l2⟩ => ?_
  have hh2 := hh.ex (e1.trans e2)
  have hrf : r ∉ z.fp p := fun hm => by
    obtain ⟨o, ho⟩ := (hh.ex e1).some hm
    rw [hr] at ho
    cases ho
  have hdl : s.due.length = ws.length := (pr_len l2).symm
  refine seq_forL (K := K) (a := r) (xs := ws) (ev_var rfl) (sq_of l1) (fun i σ' H' => ∃ z' v4 v5, σ' = [some (.ref p), some (.int n), some (.int (s.now + n)), some (.ref r), v4, v5] ∧ HouseAt (clsHouse K) H' p ((s.due.take i).foldl (HS.step (s.now + n)) s) z' ∧ Keep (z.fp p) (z'.fp p) H H' ∧ H' r = some (.lst ws) ∧ r ∉ z'.fp p ∧ Kt H2 H') ?_ ?_ ?_ ?_
  · intro H3 e3
    exact ⟨z, none, none, rfl, hh2.ex e3, Keep.ex ((e1.trans e2).trans e3), e3 _ _ l1, hrf, Ex.kt e3⟩
  · rintro i σ' H' _ ⟨z', v4, v5, _, _, _, h5, _⟩
    exact sq_of h5
  · rintro i x σ' H3 hx ⟨z3, v4, v5, rfl, hh3, k3, hr3, hrf3, kt3⟩
    obtain ⟨q', hq', hv⟩ := pr_get l2 hx
    have hv3 : TAt H3 x [.int q'.1, .int q'.2] := hv.kt kt3
    have hsucc : (s.due.take (i + 1)).foldl (HS.step (s.now + n)) s = HS.step (s.now + n) ((s.due.take i).foldl (HS.step (s.now + n)) s) q' := by
      rw [List.take_succ, hq', List.foldl_append]
      rfl
    have wk := wait_fold (s.now + n) (s.due.take i) s wf
    refine g_two hv3 _ ?_
    refine alw_here (alw_if (et_test (ev_le (ev_var rfl) (ev_var rfl))) (fun hb H4 e4 => ?_) fun hb H4 e4 => ?_)
    · have hb := of_decide_eq_true hb
      have hh4 := hh3.ex e4
      refine fld_int (D := { nx := _, rt := Q }) HC { (s.due.take i).foldl (HS.step (s.now + n)) s with now := q'.1 } (ev_var rfl) (ev_var rfl) hh4 (by decide +kernel) (hp_now ..) rfl rfl rfl rfl rfl rfl fun H5 hh5 k5 => ?_
      refine meth_call (ev_var rfl) hh5 (by decide +kernel) (ea_cons (ev_var rfl) ea_nil) fun H6 e6 => ?_
      have hmem : q' ∈ s.due := List.mem_of_getElem? hq'
      obtain ⟨e, he, hqe⟩ := mem_due.mp hmem
      have hin : q'.2 ∈ keysA ((s.due.take i).foldl (HS.step (s.now + n)) s).ends := by
        rw [wk.ends]
        refine List.mem_map.mpr ⟨e, List.mem_filter.mpr ⟨he, ?_⟩, by rw [hqe]⟩
        have hnd : (s.due.map (·.2)).Nodup := by
          have h3 : (s.due.map (·.2)).Perm (keysA s.ends) := by
            have h4 := (due_perm s).map (·.2)
            rw [List.map_map] at h4
            exact h4
          exact h3.nodup_iff.mpr lw.nd
        rw [Bool.not_eq_true', List.any_eq_false]
        intro q'' h'' hc
        rw [Bool.and_eq_true] at hc
        have h6 : q''.2 = e.1 := of_decide_eq_true hc.2
        obtain ⟨j, hj⟩ := List.mem_iff_getElem?.mp h''
        rw [List.getElem?_take] at hj
        split at hj
        · rename_i hlt
          have g1 : (s.due.map (·.2))[j]? = some e.1 := by rw [List.getElem?_map, hj]; simp [h6]
          have g2 : (s.due.map (·.2))[i]? = some e.1 := by rw [List.getElem?_map, hq', hqe]; rfl
          have := nd_ix hnd g1 g2
          omega
        · cases hj
      have hpos := lw.pos e.1 (List.mem_map.mpr ⟨e, he, rfl⟩)
      have hq2 : q'.2 = e.1 := by rw [hqe]
      refine ⟨p, _, z3, q'.2, rfl, hh5.ex e6, by rw [hq2]; exact hpos.1, hin, Nat.lt_of_le_of_lt wk.len h64, wf_now wk.wf _, Nat.le_trans wk.mu hmu, fun H7 z7 hh7 k7 => ?_⟩
      have k37 : Keep (z3.fp p) (z7.fp p) H3 H7 := (Keep.ex e4).trans (k5.trans ((Keep.ex e6).trans k7))
      refine ⟨z7, _, _, rfl, ?_, k3.trans k37, k37.kp _ _ hr3 hrf3, k37.out hr3 hrf3, kt3.trans k37.kt⟩
      rw [hsucc, step_yes hb]
      exact hh7
    · have hb := of_decide_eq_false hb
      refine ⟨z3, _, _, rfl, ?_, k3.trans (Keep.ex e4), e4 _ _ hr3, hrf3, kt3.trans (Ex.kt e4)⟩
      rw [hsucc, step_no hb]
      exact hh3.ex e4
  · rintro σ' H3 ⟨z3, v4, v5, rfl, hh3, k3, hr3, hrf3, kt3⟩
    rw [← hdl, List.take_length] at hh3
    refine fld_int (D := { nx := _, rt := Q }) HC (s.wait n) (ev_var rfl) (ev_var rfl) hh3 (by decide +kernel) (hp_now ..) rfl rfl rfl rfl rfl rfl fun H4 hh4 k4 => ?_
    exact q H4 z3 hh4 (k3.trans k4)
theorem pure_h_leases (HC : HCls K) (h : sp_h_leases K vs H Q E) : t_h_leases K { nx := fun _ H' => Q .non H', rt := Q } (start N_h_leases vs) H := by
  obtain ⟨p, s, z, rfl, hh, q⟩ := h
  refine ev_ends HC (ev_var (σ := start N_h_leases [.ref p]) rfl) hh H (Ex.refl H) _ fun H2 e2 => ?_
  obtain ⟨es, h1, h2⟩ := (hh.ex e2).ends
  refine ⟨z.e, es, rfl, h1, fun l hl' => ?_⟩
  refine ⟨l, keysA s.ends, rfl, sq_of ?_, fun ys r hp hs hn => ?_⟩
  · rw [upd_same, keys_of (f := fun k : Int => (Sum.inl k : Key)) h2]
    rfl
  · rw [sortI_eq hp hs]
    exact q _ r ((e2.trans (Ex.new hl')).trans (Ex.new hn)) (fresh_back (e2.trans (Ex.new hl')) hn) upd_same
theorem pure_h_since (HC : HCls K) (h : sp_h_since K vs H Q E) : t_h_since K { nx := fun _ H' => Q .non H', rt := Q } (start N_h_since vs) H := by
  obtain ⟨p, s, z, a, b, n, rfl, hh, hl, q⟩ := h
  obtain ⟨ws, l1, l2⟩ := hh.log
  have hlen := pr_len l2
  have hc := lc_typed (α := Evt) (J := Itr 0 0) (P := EvV) (wi := iList K (tFld K (tVar 0) "log")) (tt := tAnd (tTest (tOp rGeI (tOp (rIxT K) (tVar 4) (tC (.int 0))) (tVar 3))) (tB (tCall (sp_is_within K) [] E0 (tCons (tOp (rIxT K) (tVar 4) (tC (.int 2))) (tCons (tVar 1) (tCons (tVar 2) tNil)))))) (te := tVar 4) (j := 4) (vs := [4]) (σ := start N_h_since [.ref p, .str a, .str b, .int n]) (B := H)
    (ei_list (ev_log HC (ev_var rfl) hh) (sq_of l1)) l2 (fun e => if (decide (n ≤ e.num) && within e.deed.key a b) = true then some e else none) (fun _ _ _ _ k z => EvV.kt k z) (fun _ => rfl)
    (fun x e hx => by
      have w : (if (decide (n ≤ e.num) && within e.deed.key a b) = true then some e else none).isSome = (decide (n ≤ e.num) && within e.deed.key a b) := by
        cases (decide (n ≤ e.num) && within e.deed.key a b) <;> rfl
      rw [w]
      exact et_and (et_test (ev_ge (ev_ixA (ev_var rfl) hx ev_c (ev_0 e)) (ev_var rfl))) fun _ => et_B (ev_within (ev_ixA (ev_var rfl) hx ev_c (ev_2 e)) (ev_var rfl) (ev_var rfl)))
    (fun x e y hx hy => by
      split at hy
      · cases hy
        exact Ev.p (ev_var rfl) fun H1 e => EvV.kt (Ex.kt e) hx
      · cases hy) (by omega)
  rw [fm_ite] at hc
  exact hc H (Ex.refl _) _ fun r H2 hr e2 h2 => q H2 r e2 hr h2
theorem pure_h_changes (HC : HCls K) (h : sp_h_changes K vs H Q E) : t_h_changes K E { nx := fun _ H' => Q .non H', rt := Q } (start N_h_changes vs) H := by
  obtain ⟨p, s, z, a, b, n, rfl, hh, ha, hb, hl, q⟩ := h
  refine alw_here (al_need (ev_var rfl) (fun H1 e1 Q q => use_key ha q) (al_need (ev_var rfl) (fun H1 e1 Q q => use_key hb q) fun H1 e1 => ?_))
  refine drop_callN (ea_cons (ev_var rfl) (ea_cons ev_c ea_nil)) fun H2 e2 => ⟨_, 1, rfl, .int n, fun H3 e3 => ⟨fun hw => ?_, fun hw => ?_⟩⟩
  · have hn : 1 ≤ n := of_decide_eq_true hw
    have e13 := (e1.trans e2).trans e3
    refine alw_here (al_if (et_test (ev_le (ev_var rfl) (ev_base HC (ev_var rfl) (hh.ex e13)))) (fun hc H4 e4 => ?_) fun hc => al_skip fun H4 e4 => ?_)
    · exact (q H4 (e13.trans e4)).2.1 hn (of_decide_eq_true hc)
    · have hc := of_decide_eq_false hc
      refine ret_meth (ev_var rfl) (hh.ex (e13.trans e4)) (by decide +kernel) (ea_cons (ev_var rfl) (ea_cons (ev_var rfl) (ea_cons (ev_var rfl) ea_nil))) fun H5 e5 => ?_
      exact ⟨p, s, z, a, b, n, rfl, hh.ex ((e13.trans e4).trans e5), hl, fun H6 r e6 hr h6 => (q H6 (((e13.trans e4).trans e5).trans e6)).2.2 hn (by omega) r (fresh_back ((e13.trans e4).trans e5) hr) h6⟩
  · have hn : ¬ 1 ≤ n := of_decide_eq_false hw
    exact (q H3 ((e1.trans e2).trans e3)).1 (by omega)
/-! ### dealings -/
theorem evp_cat {σ : L2.St} {ta tb : TE} {x y : V} {xs ys : List V} (ha : Ev ta σ H x) (hb : Ev tb σ H y) (hx : TAt H x xs) (hy : TAt H y ys) (hl : xs.length + ys.length ≤ 100000) : EvP (tOp (rCatA K) ta tb) σ H (fun H v => TAt H v (xs ++ ys)) := fun H1 e1 Q q =>
  ha H1 e1 _ fun H2 e2 => hb H2 (e1.trans e2) _ fun H3 e3 => by
    have hx3 := hx.kt (Ex.kt ((e1.trans e2).trans e3))
    have hy3 := hy.kt (Ex.kt ((e1.trans e2).trans e3))
    obtain ⟨a, rfl, wa⟩ := hx3
    obtain ⟨b, rfl, wb⟩ := hy3
    refine ⟨a, b, xs, ys, rfl, rfl, st_of wa, st_of wb, sz_of hl, fun h => ?_, fun _ h => ?_, fun _ _ t ht => ?_⟩
    · subst h
      exact q _ H3 (e2.trans e3) ⟨b, rfl, wb⟩
    · subst h
      rw [List.append_nil] at q
      exact q _ H3 (e2.trans e3) ⟨a, rfl, wa⟩
    · exact q _ _ ((e2.trans e3).trans (Ex.new ht)) ⟨t, rfl, upd_same⟩
theorem deed_0d (k : Str) : atI (deedVs (.drop k)) 0 = some (.str "drop") := rfl
theorem deed_0p (k : Str) (v : Int) (l : Option Int) : atI (deedVs (.put k v l)) 0 = some (.str "put") := rfl
theorem deed_3 (k : Str) (v : Int) (l : Option Int) : atI (deedVs (.put k v l)) 3 = some (optV l) := rfl
theorem pure_h_deal (HC : HCls K) (h : sp_h_deal K vs H Q E) : t_h_deal K E { nx := fun _ H' => Q .non H', rt := Q } (start N_h_deal vs) H := by
  obtain ⟨p, s, z, cv, tv, ov, cs, ts, os, rfl, hh, hcv, htv, hov, hco, hto, hoo, hta, hoa, hsm, q⟩ := h
  have hcall : ∀ {σ : L2.St} {te : TE} {v : V} {ds : List Deed}, Ev te σ H v → DeedsV H v ds → deedsOk ds → Ev (tCall (sp_are_deeds K) [] E0 (tCons te tNil)) σ H (.bl true) := fun he hv hd => ev_call (ea_cons he ea_nil) fun H1 e Q q E => ⟨_, _, rfl, DeedsV.kt (Ex.kt e) hv, hd, q⟩
  refine alw_here (al_if (et_not (et_B (ev_call (ea_cons (ev_var rfl) ea_nil) fun H1 e Q q E => ⟨_, cs, rfl, CondsV.kt (Ex.kt e) hcv, hco, q⟩))) (fun hb => by cases hb) fun _ => al_skip (al_if (et_or (et_not (et_B (hcall (ev_var rfl) htv hto))) fun _ => et_not (et_B (hcall (ev_var rfl) hov hoo))) (fun hb => by cases hb) fun _ => al_skip fun H1 e1 => ?_))
  have htv0 := htv
  have hov0 := hov
  obtain ⟨tw, ht1, ht2⟩ := htv
  obtain ⟨ow, ho1, ho2⟩ := hov
  have hl1 := pr_len ht2
  have hl2 := pr_len ho2
  have h41 := hto.1
  have h42 := hoo.1
  -- the leases
  have fin : ∀ (H2 : Hp) v4, Ex H H2 → (tSeq (tAsg (tCB (rAll K) (tCons (tLc (iTup K (tVar 1)) (gName 6) tYes (tCall (sp_holds K) [] E0 (tCons (tVar 6) (tCons (tFld K (tVar 0) "records") tNil))) [6]) tNil)) (gName 5))
      (tSeq (tDrop (tMeth (clsHouse K) "write" (sp_h_write K) [] E0 (tVar 0) (tCons (tOp (rIxL K) (tLst (tCons (tVar 3) (tCons (tVar 2) tNil))) (tCB rInt1 (tCons (tVar 5) tNil))) tNil)))
      (tRet (tVar 5)))) { nx := fun _ H' => Q .non H', rt := Q } [some (.ref p), some cv, some tv, some ov, v4, none, none] H2 := fun H2 v4 e2 => by
    have hh2 := hh.ex e2
    obtain ⟨cw, hc1, hc2⟩ := CondsV.kt (Ex.kt e2) hcv
    have hclen := pr_len hc2
    have hcl := hco.1
    have hcomp := lc_typed (α := V) (J := Itr 0 0) (P := fun _ v y => v = y) (tt := tYes) (te := tCall (sp_holds K) [] E0 (tCons (tVar 6) (tCons (tFld K (tVar 0) "records") tNil))) (j := 6) (vs := [6]) (σ := [some (.ref p), some cv, some tv, some ov, v4, none, none]) (B := H2) (wi := iTup K (tVar 1))
      (ei_tupA (ev_var rfl) hc1) (paired_mem hc2) (fun c => some (V.bl (holdsC s.recs c))) (fun _ _ _ _ _ z => z) (fun _ => rfl) (fun x d r => et_yes)
      (fun u c y r hy => by
        cases hy
        exact Ev.p (ev_call (ea_cons (ev_var rfl) (ea_cons (ev_records HC (ev_var rfl) hh2) ea_nil)) fun H1 e Q q E => ⟨u, z.r, c, s.recs, rfl, CondV.kt (Ex.kt e) r.1, (hco.2 c r.2).2, hh2.recs.ex e, q⟩) fun _ _ => rfl) (by omega)
    have e : List.filterMap (fun c => some (V.bl (holdsC s.recs c))) cs = (cs.map (holdsC s.recs)).map V.bl := by
      rw [fm_some, List.map_map]
      rfl
    rw [e] at hcomp
    have hgood : (cs.map (holdsC s.recs)).all id = s.good cs := by
      rw [List.all_map]
      rfl
    have hall := ev_all (K := K) hcomp.toL
    rw [hgood] at hall
    refine alw_here (al_set hall fun H3 e3 => ?_)
    have hh3 := hh2.ex e3
    have e23 := e2.trans e3
    -- the write
    have hpick : ∀ (b : Bool), s.good cs = b → ∃ a ws, (if b = true then tv else ov) = .ref a ∧ H3 a = some (.tup ws) ∧ Paired (DeedV H3) ws (if b = true then ts else os) := fun b _ => by
      cases b with
      | true =>
        obtain ⟨a, ha, hx⟩ := ht1.kt (Ex.kt e23)
        exact ⟨a, tw, ha, hx, pr_mono ht2 fun _ _ w => DeedV.kt (Ex.kt e23) w⟩
      | false =>
        obtain ⟨a, ha, hx⟩ := ho1.kt (Ex.kt e23)
        exact ⟨a, ow, ha, hx, pr_mono ho2 fun _ _ w => DeedV.kt (Ex.kt e23) w⟩
    obtain ⟨a, ws, hav, ha, hws⟩ := hpick _ rfl
    have hix : Ev (tOp (rIxL K) (tLst (tCons (tVar 3) (tCons (tVar 2) tNil))) (tCB rInt1 (tCons (tVar 5) tNil))) [some (.ref p), some cv, some tv, some ov, v4, some (.bl (s.good cs)), none] H3 (.ref a) := by
      refine ev_ixN (xs := [ov, tv]) (i := if s.good cs = true then 1 else 0) (el_lst (ea_cons (ev_var rfl) (ea_cons (ev_var rfl) ea_nil)) (show 2 ≤ 100000 by decide)) (fun H4 e4 H5 e5 Q q => ⟨_, rfl, .inr ⟨_, rfl, q H5 (Ex.refl _)⟩⟩) ?_
      rw [← hav]
      cases s.good cs with
      | true => rfl
      | false => rfl
    have hds : deedsOk (if s.good cs = true then ts else os) := pick_deal s cs hto hoo
    have hdl : (if s.good cs = true then ts else os).length ≤ 4 := hds.1
    refine meth_call (ev_var rfl) hh3 (by decide +kernel) (ea_cons hix ea_nil) fun H4 e4 => ?_
    have hh4 := hh3.ex e4
    have hsm1 := hsm.1
    have hsm2 := hsm.2
    refine ⟨p, s, z, a, _, rfl, hh4, ⟨ws, .inr (e4 _ _ ha), pr_mono hws fun _ _ w => DeedV.kt (Ex.kt e4) w⟩, fun hm => hh4.notup hm _ (e4 _ _ ha), ⟨by omega, by omega⟩, hds.2.2, fun H5 z5 hh5 k5 => ?_⟩
    refine alw_here (alw_ret (ev_var rfl) fun H6 e6 => ?_)
    exact q H6 z5 (hh5.ex e6) ((Keep.ex (e23.trans e4)).trans (k5.trans (Keep.ex e6)))
  have hcat := evp_cat (K := K) (σ := start N_h_deal [.ref p, cv, tv, ov]) (ta := tVar 2) (tb := tVar 3) (ev_var rfl) (ev_var rfl) ht1 ho1 (by omega)
  refine hcat H1 e1 _ fun u H2 e2 hu => ?_
  obtain ⟨a, rfl, ha⟩ := hu
  have hall : Paired (DeedV H) (tw ++ ow) (ts ++ os) := pr_append ht2 ho2
  refine ⟨a, rfl, ⟨_, st_of ha⟩, for_tup (K := K) (a := a) (xs := tw ++ ow) (fun i σ' H' => ∃ v4, σ' = [some (.ref p), some cv, some tv, some ov, v4, none, none] ∧ Ex H2 H') ?_ ?_ ?_ ?_⟩
  · exact ⟨none, rfl, Ex.refl _⟩
  · rintro i σ' H' _ ⟨v4, _, e⟩
    exact st_of (e _ _ ha)
  · rintro i x σ' H3 hx ⟨v4, rfl, e3⟩
    obtain ⟨d, hd, hdv⟩ := pr_get hall hx
    have e13 := (e1.trans e2).trans e3
    have hdv3 : TAt H3 x (deedVs d) := DeedV.kt (Ex.kt e13) hdv
    have hdm : d ∈ ts ++ os := List.mem_of_getElem? hd
    have hlok : leaseOk s d.lease := by
      rcases List.mem_append.mp hdm with h | h
      · exact hta d h
      · exact hoa d h
    cases d with
    | drop k =>
      refine alw_here (alw_if (et_and (b := false) (et_test (ev_eqS (ev_ixA (ev_var rfl) hdv3 ev_c (deed_0d _)) ev_c)) fun z => absurd (of_decide_eq_true z) (by decide +kernel)) (fun hb => by rw [Bool.and_false] at hb; cases hb) fun _ H4 e4 => ?_)
      exact ⟨_, rfl, e3.trans e4⟩
    | put k m l =>
      cases l with
      | none =>
        refine alw_here (alw_if (et_and (et_test (ev_eqS (ev_ixA (ev_var rfl) hdv3 ev_c (deed_0p _ _ _)) ev_c)) fun _ => et_test (ev_notN (ev_ixA (ev_var rfl) hdv3 ev_c (deed_3 _ _ _)))) (fun hb => by rw [Bool.and_eq_true] at hb; cases hb.2) fun _ H4 e4 => ?_)
        exact ⟨_, rfl, e3.trans e4⟩
      | some j =>
        obtain ⟨hj1, hj2⟩ := hlok j rfl
        refine alw_here (alw_if (et_and (et_test (ev_eqS (ev_ixA (ev_var rfl) hdv3 ev_c (deed_0p _ _ _)) ev_c)) fun _ => et_test (ev_notN (ev_ixA (ev_var rfl) hdv3 ev_c (deed_3 _ _ _)))) (fun _ H4 e4 => ?_) fun hb => by rw [decide_eq_true rfl, Bool.true_and] at hb; cases hb)
        refine meth_call (ev_var rfl) (hh.ex (e13.trans e4)) (by decide +kernel) (ea_cons (ev_ixA (ev_var rfl) (hdv3.kt (Ex.kt e4)) ev_c (deed_3 _ _ _)) ea_nil) fun H5 e5 => ?_
        exact ⟨p, s, z, _, rfl, hh.ex ((e13.trans e4).trans e5), .int j, fun H6 e6 => ⟨fun _ _ _ _ => ⟨_, rfl, ((e3.trans e4).trans e5).trans e6⟩, fun hn => absurd hj2 (hn j rfl hj1)⟩⟩
  · rintro σ' H3 ⟨v4, rfl, e3⟩
    exact fin H3 v4 ((e1.trans e2).trans e3)
end
end KW

/-! what the laws draw: leases, deeds, conditions -/
namespace KW
open PySem PySem.Spec PyProof.Rows L2 Evl
/-- arguments that are known by what is true of them -/
def EvAP (ta : TA) (σ : L2.St) (H : Hp) (R : Hp → List V → Prop) : Prop := ∀ H1, Ex H H1 → ∀ Q : List V → Hp → Prop, (∀ vs H2, Ex H1 H2 → R H2 vs → Q vs H2) → ta σ H1 Q
section
variable {α : Type} {K : PySem.W.Frag} {σ : L2.St} {H H' : Hp} {ta tb te tx td ty to : TE} {D : Ends} {tw : TS} {a : Addr} {ns : List Int} {k m : Int} {v : V}
theorem ev_mx {E : XK} (ha : Ev ta σ H (.ref a)) (hb : Ev tb σ H (.int k)) (hc : Ev tx σ H (.int m)) (hs : Scr K H a ns) (hk : 0 ≤ k) (hm : 0 < m) : Ev (tCall (sp_l_mixed K) [] E (tCons ta (tCons tb (tCons tx tNil)))) σ H (.int (mixed ns k m)) :=
  ev_mixed (ea_cons ha (ea_cons hb (ea_cons hc ea_nil))) hs hk hm
theorem eap_nil : EvAP tNil σ H (fun _ vs => vs = []) := fun H1 _ Q q => q [] H1 (Ex.refl H1) rfl
theorem eap_cons {tr : TA} {P : Hp → V → Prop} {R : Hp → List V → Prop} (h : EvP te σ H P) (st : ∀ H H' v, Kt H H' → P H v → P H' v) (hr : EvAP tr σ H R) : EvAP (tCons te tr) σ H (fun H vs => ∃ v r, vs = v :: r ∧ P H v ∧ R H r) := fun H1 e Q q =>
  h H1 e _ fun v H2 e2 hv => hr H2 (e.trans e2) _ fun r H3 e3 hr => q _ H3 (e2.trans e3) ⟨v, r, rfl, st _ _ _ (Ex.kt e3) hv, hr⟩
theorem eap_of {tr : TA} {vs : List V} (h : EvA tr σ H vs) : EvAP tr σ H (fun _ r => r = vs) := fun H1 e Q q => h H1 e Q fun H2 e2 => q vs H2 e2 rfl
theorem ep_v (h : Ev te σ H v) : EvP te σ H (fun _ u => u = v) := Ev.p h fun _ _ => rfl
theorem ep_tup {tr : TA} {R : Hp → List V → Prop} (h : EvAP tr σ H R) (st : ∀ H H' vs, Kt H H' → R H vs → R H' vs) (hl : ∀ H vs, R H vs → vs.length ≤ 100) : EvP (tTup tr) σ H (fun H v => ∃ vs, TAt H v vs ∧ R H vs) := fun H1 e Q q =>
  h H1 e _ fun vs H2 e2 hr => ⟨sz_of (Nat.le_trans (hl _ _ hr) (by decide)), fun t ht => q _ _ (e2.trans (Ex.new ht)) ⟨vs, ⟨t, rfl, upd_same⟩, st _ _ _ (Ex.kt (Ex.new ht)) hr⟩⟩
theorem EvU.p {xs : List V} (h : EvU te σ H xs) : EvP te σ H (fun H v => TAt H v xs) := fun H1 e Q q => h H1 e Q fun t H2 ht e2 h2 => q _ H2 e2 ⟨t, rfl, h2⟩
theorem ev_eqNilI {l : Addr} {xs : List V} (ha : Ev ta σ H (.ref l)) (h : H l = some (.lst xs)) (hf : xs.all isFlat = true) : Ev (tOp (rEqP K) ta (tLst tNil)) σ H (.bl (decide (xs = []))) := by
  refine ev_opL ha (el_lst ea_nil (by decide)) fun p H1 hp e => rv_val fun H2 e2 Q q => ?_
  refine ⟨.list (xs.map flatD), .list [], .lst (sq_of ((e.trans e2) l _ h)) (dp_flats hf), .lst (sq_of (e2 p _ hp)) .nil, plain_flats xs, rfl, ?_, ?_⟩
  · show PyData.depthAll _ + 1 ≤ 60
    rw [depth_flats]
    decide
  · rw [eqv_nil]
    have : decide (xs.map flatD = []) = decide (xs = []) := by simp
    rw [this]
    exact q
theorem flat_ints (ls : List Int) : (ls.map V.int).all isFlat = true := by
  rw [List.all_map, List.all_eq_true]
  intro x _
  rfl
theorem atI_int {xs : List Int} {i : Int} (h0 : 0 ≤ i) (h1 : i < (xs.length : Int)) : atI (xs.map V.int) i = some (.int (xs.getD i.toNat 0)) := by
  obtain ⟨n, rfl⟩ := Int.eq_ofNat_of_zero_le h0
  have hl : n < xs.length := by omega
  refine atI_nat ?_
  rw [Int.toNat_natCast, List.getElem?_map, List.getElem?_eq_getElem hl, List.getD_eq_getElem?_getD, List.getElem?_eq_getElem hl]
  rfl
theorem ev_lenM {β : Type} {f : β → V} {l : Addr} {xs : List β} (ha : Ev ta σ H (.ref l)) (h : H l = some (.lst (xs.map f))) : Ev (tCB (rLenS K) (tCons ta tNil)) σ H (.int (xs.length : Int)) := by
  have e := ev_len (K := K) ha (sq_of h)
  rw [List.length_map] at e
  exact e
theorem el_cat {xs ys : List V} (ha : EvL ta σ H xs) (hb : EvL tb σ H ys) (hl : xs.length + ys.length ≤ 100000) : EvL (tOp rCat ta tb) σ H (xs ++ ys) := fun H1 e1 Q q =>
  ha H1 e1 _ fun p H2 hp e2 h2 => hb H2 (e1.trans e2) _ fun r H3 hr e3 h3 => ⟨p, r, xs, ys, rfl, rfl, e3 _ _ h2, h3, sz_of hl, fun t ht => q t _ (fresh_back (e2.trans e3) ht) ((e2.trans e3).trans (Ex.new ht)) upd_same⟩
theorem cutV_post (xs : List V) {t : Int} (h0 : 0 ≤ t) (h1 : t ≤ (xs.length : Int)) : cutV xs (some t) none = xs.drop t.toNat := by
  unfold cutV
  rw [sIx_some h0 h1, HT.sIx_none, List.take_of_length_le]
  rw [List.length_drop]
  exact Nat.le_refl _
theorem cutV_pre (xs : List V) {t : Int} (h0 : 0 ≤ t) : cutV xs none (some t) = xs.take t.toNat := by
  unfold cutV
  rw [HT.sIx_none]
  by_cases h1 : t ≤ (xs.length : Int)
  · rw [sIx_some h0 h1]
    simp
  · have e : HT.sIx xs.length xs.length (some t) = xs.length := by
      show (if t < 0 then _ else min t.toNat xs.length) = _
      rw [if_neg (by omega)]
      omega
    rw [e, List.drop_zero, Nat.sub_zero, List.take_length, List.take_of_length_le (by omega)]
/-- tuple(a list) -/
theorem ep_tupOf {P : Hp → V → α → Prop} {ys : List α} (h : EvP te σ H (fun H v => ∃ l, v = .ref l ∧ LsAt P H l ys)) (st : ∀ H H' v y, Kt H H' → P H v y → P H' v y) : EvP (tCB (rTupOf K) (tCons te tNil)) σ H (fun H v => TupOf P H v ys) := fun H1 e Q q =>
  h H1 e _ fun v H2 e2 ⟨l, hv, ws, h1, h2⟩ => by
    subst hv
    exact ⟨l, ws, rfl, .inl ⟨sq_of h1, fun t ht => q _ _ (e2.trans (Ex.new ht)) ⟨ws, ⟨t, rfl, upd_same⟩, pr_mono h2 fun _ _ z => st _ _ _ _ (Ex.kt (Ex.new ht)) z⟩⟩⟩
theorem alw_retU {xs : List V} (h : EvU te σ H xs) (k : ∀ v H', Ex H H' → TAt H' v xs → D.rt v H') : Alw (tRet te) D σ H := alw_retP (EvU.p h) k
end
section
variable {K : PySem.W.Frag} {vs : List V} {H : Hp} {Q : VK} {E : XK}
theorem pure_l_lease (h : sp_l_lease K vs H Q E) : t_l_lease K { nx := fun _ H' => Q .non H', rt := Q } (start N_l_lease vs) H := by
  obtain ⟨a, ns, k, l, ls, rfl, hs, hk, hl, q⟩ := h
  refine alw_here (al_if (et_or (et_test (ev_eqNilI (ev_var rfl) hl (flat_ints ls))) fun _ => et_test (ev_eqI (ev_mx (ev_var rfl) (ev_var rfl) ev_c hs hk (by decide)) ev_c)) (fun hb => ?_) fun hb => al_skip ?_)
  · refine alw_ret ev_c fun H1 e1 => ?_
    have : lawLease ns k ls = none := by
      unfold lawLease
      rw [if_pos]
      simpa using hb
    have q1 := q H1 e1
    rw [this] at q1
    exact q1
  · have hn : ¬ (ls = [] ∨ mixed ns k 2 = 0) := by simpa using hb
    have hp := len_pos (fun z => hn (.inl z))
    refine alw_ret (ev_ixL (ev_var rfl) (ev_mx (ev_var rfl) (ev_add (ev_var rfl) ev_c) (ev_lenM (ev_var rfl) hl) hs (by omega) hp) (sq_of hl) (atI_int (mixed_nn _ _ hp) (mixed_lt _ _ hp))) fun H1 e1 => ?_
    have : lawLease ns k ls = some (ls.getD (mixed ns (k + 1) (ls.length : Int)).toNat 0) := by
      unfold lawLease
      rw [if_neg hn]
    have q1 := q H1 e1
    rw [this] at q1
    exact q1
theorem pick2 {x y : V} {i : Int} (h0 : 0 ≤ i) (h2 : i < 2) : atI [x, y] i = some (if i = 0 then x else y) := by
  obtain rfl | rfl : i = 0 ∨ i = 1 := by omega
  · rfl
  · rfl
theorem pure_l_one_deed (h : sp_l_one_deed K vs H Q E) : t_l_one_deed K { nx := fun _ H' => Q .non H', rt := Q } (start N_l_one_deed vs) H := by
  obtain ⟨a, ns, k, key, l, ls, rfl, hs, hk, hl, q⟩ := h
  refine alw_here (al_if (et_test (ev_eqI (ev_mx (ev_var rfl) (ev_var rfl) ev_c hs hk (by decide)) ev_c)) (fun hb => ?_) fun hb => al_skip ?_)
  · have hb := of_decide_eq_true hb
    refine alw_retU (eu_tup (ea_cons ev_c (ea_cons (ev_var rfl) ea_nil)) (show 2 ≤ 100000 by decide)) fun v H1 e1 ht => q H1 v e1 ?_
    unfold lawDeed1
    rw [if_pos hb]
    exact ht
  · have hb := of_decide_eq_false hb
    have hv : Ev (tOp (rIxL K) (tLst (tCons (tCall (sp_l_mixed K) [] E0 (tCons (tVar 0) (tCons (tOp rAddI (tVar 1) (tC (.int 1))) (tCons (tC (.int 10000)) tNil)))) (tCons (tCall (sp_l_mixed K) [] E0 (tCons (tVar 0) (tCons (tOp rAddI (tVar 1) (tC (.int 1))) (tCons (tC (.int 3)) tNil)))) tNil))) (tCall (sp_l_mixed K) [] E0 (tCons (tVar 0) (tCons (tOp rAddI (tVar 1) (tC (.int 2))) (tCons (tC (.int 2)) tNil))))) (start N_l_one_deed [.ref a, .int k, .str key, .ref l]) H
        (.int (if mixed ns (k + 2) 2 = 0 then mixed ns (k + 1) 10000 else mixed ns (k + 1) 3)) := by
      have h1 := ev_ixN (K := K) (σ := start N_l_one_deed [.ref a, .int k, .str key, .ref l]) (H := H) (el_lst (ea_cons (ev_mx (K := K) (E := E0) (ta := tVar 0) (tb := tOp rAddI (tVar 1) (tC (.int 1))) (tx := tC (.int 10000)) (ev_var rfl) (ev_add (ev_var rfl) ev_c) ev_c hs (by omega) (by decide)) (ea_cons (ev_mx (K := K) (E := E0) (ta := tVar 0) (tb := tOp rAddI (tVar 1) (tC (.int 1))) (tx := tC (.int 3)) (ev_var rfl) (ev_add (ev_var rfl) ev_c) ev_c hs (by omega) (by decide)) ea_nil)) (show 2 ≤ 100000 by decide))
        (fun H1 e1 => ev_mx (K := K) (E := E0) (ta := tVar 0) (tb := tOp rAddI (tVar 1) (tC (.int 2))) (tx := tC (.int 2)) (ev_var rfl) (ev_add (ev_var rfl) ev_c) ev_c (hs.ex e1) (by omega) (by decide)) (pick2 (mixed_nn ns (k + 2) (by decide)) (mixed_lt ns (k + 2) (by decide)))
      refine ev_is h1 ?_
      split <;> rfl
    refine al_set hv ?_
    refine alw_retU (eu_tup (ea_cons ev_c (ea_cons (ev_var rfl) (ea_cons (ev_var rfl) (ea_cons (ev_call (z := optV (lawLease ns (k + 3) ls)) (ea_cons (ev_var rfl) (ea_cons (ev_add (ev_var rfl) ev_c) (ea_cons (ev_var rfl) ea_nil))) fun H1 e Q q E => ⟨a, ns, k + 3, l, ls, rfl, hs.ex e, by omega, e _ _ hl, fun H2 e2 => q H2 e2⟩) ea_nil)))) (show 4 ≤ 100000 by decide)) fun v H1 e1 ht => q H1 v e1 ?_
    unfold lawDeed1
    rw [if_neg hb]
    exact ht
theorem pure_l_condition (h : sp_l_condition K vs H Q E) : t_l_condition K { nx := fun _ H' => Q .non H', rt := Q } (start N_l_condition vs) H := by
  obtain ⟨a, ns, k, l, keys, n, rfl, hs, hk, hl, h0, hn, q⟩ := h
  have hp : 0 < (keys.length : Int) := by omega
  refine alw_here (al_set (ev_mx (ev_var rfl) (ev_var rfl) ev_c hs hk (by decide)) (al_set (ev_ixL (ev_var rfl) (ev_mx (ev_var rfl) (ev_add (ev_var rfl) ev_c) (ev_lenM (ev_var rfl) hl) hs (by omega) hp) (sq_of hl) (atI_pick (mixed_nn _ _ hp) (mixed_lt _ _ hp))) ?_))
  generalize hkey : pick keys (mixed ns (k + 1) (keys.length : Int)) = key
  generalize hkind : mixed ns k 6 = kind
  have hq : ∀ {c : Cond}, lawCond ns k keys n = c → ∀ H' v, Ex H H' → CondV H' v c → Q v H' := fun hc H' v e hv => q H' v e (by rw [hc]; exact hv)
  have hc0 : lawCond ns k keys n = if kind = 0 then .value key (mixed ns (k + 2) 3) else if kind = 1 then .version key (mixed ns (k + 2) 3) else if kind = 2 then .changed key (mixed ns (k + 2) (n + 2)) else if kind = 3 then .less key (mixed ns (k + 2) (n + 2)) else if kind = 4 then .neg (.changed key 0) else .neg (.neg (.value key (mixed ns (k + 2) 3))) := by
    unfold lawCond
    dsimp only
    rw [hkey, hkind]
  refine al_if (et_test (ev_eqI (ev_var rfl) ev_c)) (fun b0 => ?_) fun b0 => al_skip ?_
  · rw [if_pos (of_decide_eq_true b0)] at hc0
    exact alw_retU (eu_tup (ea_cons ev_c (ea_cons (ev_var rfl) (ea_cons (ev_mx (ev_var rfl) (ev_add (ev_var rfl) ev_c) ev_c hs (by omega) (by decide)) ea_nil))) (show 3 ≤ 100000 by decide)) fun v H1 e1 ht => hq hc0 H1 v e1 ht
  rw [if_neg (of_decide_eq_false b0)] at hc0
  refine al_if (et_test (ev_eqI (ev_var rfl) ev_c)) (fun b1 => ?_) fun b1 => al_skip ?_
  · rw [if_pos (of_decide_eq_true b1)] at hc0
    exact alw_retU (eu_tup (ea_cons ev_c (ea_cons (ev_var rfl) (ea_cons (ev_mx (ev_var rfl) (ev_add (ev_var rfl) ev_c) ev_c hs (by omega) (by decide)) ea_nil))) (show 3 ≤ 100000 by decide)) fun v H1 e1 ht => hq hc0 H1 v e1 ht
  rw [if_neg (of_decide_eq_false b1)] at hc0
  refine al_if (et_test (ev_eqI (ev_var rfl) ev_c)) (fun b2 => ?_) fun b2 => al_skip ?_
  · rw [if_pos (of_decide_eq_true b2)] at hc0
    exact alw_retU (eu_tup (ea_cons ev_c (ea_cons (ev_var rfl) (ea_cons (ev_mx (ev_var rfl) (ev_add (ev_var rfl) ev_c) (ev_add (ev_var rfl) ev_c) hs (by omega) (by omega)) ea_nil))) (show 3 ≤ 100000 by decide)) fun v H1 e1 ht => hq hc0 H1 v e1 ht
  rw [if_neg (of_decide_eq_false b2)] at hc0
  refine al_if (et_test (ev_eqI (ev_var rfl) ev_c)) (fun b3 => ?_) fun b3 => al_skip ?_
  · rw [if_pos (of_decide_eq_true b3)] at hc0
    exact alw_retU (eu_tup (ea_cons ev_c (ea_cons (ev_var rfl) (ea_cons (ev_mx (ev_var rfl) (ev_add (ev_var rfl) ev_c) (ev_add (ev_var rfl) ev_c) hs (by omega) (by omega)) ea_nil))) (show 3 ≤ 100000 by decide)) fun v H1 e1 ht => hq hc0 H1 v e1 ht
  rw [if_neg (of_decide_eq_false b3)] at hc0
  have neg1 : ∀ {σ : L2.St} {te : TE} {c : Cond}, EvP te σ H (fun H v => CondV H v c) → EvP (tTup (tCons (tC (.str "not")) (tCons te tNil))) σ H (fun H v => CondV H v (.neg c)) := fun {σ te c} h =>
    EvP.imp (ep_tup (R := fun H vs => ∃ u, vs = [.str "not", u] ∧ CondV H u c) (fun H1 e Q q => (eap_cons (ep_v ev_c) (fun _ _ _ _ z => z) (eap_cons h (fun _ _ _ k z => CondV.kt k z) eap_nil)) H1 e Q fun ws H2 e2 ⟨x, r, w1, w2, y, r2, w3, w4, w5⟩ => q ws H2 e2 ⟨y, by rw [w1, w2, w3, w5], w4⟩)
      (fun _ _ _ k ⟨u, z1, z2⟩ => ⟨u, z1, CondV.kt k z2⟩) (fun _ _ ⟨u, z1, _⟩ => by rw [z1]; exact (show 2 ≤ 100 by decide))) fun H v ⟨ws, h1, u, h2, h3⟩ => ⟨u, by rw [← h2]; exact h1, h3⟩
  refine al_if (et_test (ev_eqI (ev_var rfl) ev_c)) (fun b4 => ?_) fun b4 => al_skip ?_
  · rw [if_pos (of_decide_eq_true b4)] at hc0
    exact alw_retP (neg1 (c := .changed key 0) (EvU.p (eu_tup (ea_cons ev_c (ea_cons (ev_var rfl) (ea_cons ev_c ea_nil))) (show 3 ≤ 100000 by decide)))) fun v H1 e1 ht => hq hc0 H1 v e1 ht
  rw [if_neg (of_decide_eq_false b4)] at hc0
  exact alw_retP (neg1 (neg1 (c := .value key (mixed ns (k + 2) 3)) (EvU.p (eu_tup (ea_cons ev_c (ea_cons (ev_var rfl) (ea_cons (ev_mx (ev_var rfl) (ev_add (ev_var rfl) ev_c) ev_c hs (by omega) (by decide)) ea_nil))) (show 3 ≤ 100000 by decide))))) fun v H1 e1 ht => hq hc0 H1 v e1 ht
/-- list(dict([(key, True) for key in ..])) -/
theorem once_pairs : ∀ (xs : List Str) (es : List (Key × V)) (rs : List (Str × Unit)), Paired (fun (e : Key × V) (p : Str × Unit) => e.1 = Sum.inr p.1 ∧ True) es rs →
    Paired (fun (e : Key × V) (p : Str × Unit) => e.1 = Sum.inr p.1 ∧ True) (mergeK es (xs.map fun k => ((Sum.inr k : Key), V.bl true))) (xs.foldl (fun acc x => putA acc x ()) rs)
  | [], es, rs, h => h
  | x :: r, es, rs, h => by
    rw [List.map_cons, List.foldl_cons]
    exact once_pairs r _ _ (put_of (f := fun k : Str => (Sum.inr k : Key)) (R := fun _ _ => True) inr_inj h x trivial)
theorem once_refs : ∀ {ws : List V} {xs : List Str}, Paired (fun v k => TAt H v [.str k, .bl true]) ws xs → ∃ ps : List Addr, ws = ps.map V.ref ∧ Paired (fun p kv => SqT K H p [kV kv.1, kv.2]) ps (xs.map fun k => ((Sum.inr k : Key), V.bl true))
  | _, _, .nil => ⟨[], rfl, .nil⟩
  | _, _, .cons r t => by
    obtain ⟨ps, w1, w2⟩ := once_refs t
    obtain ⟨a, rfl, ha⟩ := r
    exact ⟨a :: ps, by rw [w1]; rfl, .cons (st_of ha) w2⟩
theorem el_once {σ : L2.St} {te : TE} {xs : List Str} (h : EvLP te σ H (fun H v k => TAt H v [.str k, .bl true]) xs) : EvL (tCB rListD (tCons (tCB (rDictP K) (tCons te tNil)) tNil)) σ H ((onceS xs).map V.str) := fun H1 e1 Q q =>
  h H1 e1 _ fun l H2 hl e2 ⟨ws, l1, l2⟩ => by
    obtain ⟨ps, w1, w2⟩ := once_refs (K := K) l2
    refine ⟨l, ps, _, rfl, by rw [← w1]; exact sq_of l1, w2, fun d hd => ?_⟩
    refine ⟨d, _, rfl, upd_same, fun r hr => ?_⟩
    have hk := keys_of (f := fun k : Str => (Sum.inr k : Key)) (R := fun _ (_ : Unit) => True) (once_pairs xs [] [] .nil)
    refine q r _ (fresh_back (e2.trans (Ex.new hd)) hr) ((e2.trans (Ex.new hd)).trans (Ex.new hr)) ?_
    rw [upd_same, hk]
    rfl
theorem enum_map {β γ : Type} (f : Nat → β → γ) (xs : List β) : (xs.zipIdx.map fun q => (q.2, q.1)).map (fun q : Nat × β => f q.1 q.2) = xs.zipIdx.map fun q => f q.2 q.1 := by
  rw [List.map_map]
  rfl
theorem pure_l_deal_deeds (h : sp_l_deal_deeds K vs H Q E) : t_l_deal_deeds K { nx := fun _ H' => Q .non H', rt := Q } (start N_l_deal_deeds vs) H := by
  obtain ⟨a, ns, k, l, keys, m, ls, rfl, hs, hk, hl, h0, h100, hm, q⟩ := h
  have hp : 0 < (keys.length : Int) := by omega
  have t0 := mixed_nn ns k hp
  have t1 := mixed_lt ns k hp
  refine alw_here (al_set (ev_mx (ev_var rfl) (ev_var rfl) (ev_lenM (ev_var rfl) hl) hs hk hp) fun H1 e1 => ?_)
  generalize ht : mixed ns k (keys.length : Int) = t at t0 t1
  have hl1 := e1 _ _ hl
  have hcat := el_cat (σ := (start N_l_deal_deeds [.ref a, .int k, .ref l, .ref m]).set 4 (some (.int t))) (el_sl (K := K) (te := tVar 2) (ev_var rfl) (eo_some (te := tVar 4) (ev_var rfl)) eo_none (sq_of hl1)) (el_sl (K := K) (te := tVar 2) (ev_var rfl) eo_none (eo_some (te := tVar 4) (ev_var rfl)) (sq_of hl1)) (by rw [cutV_post _ t0 (by rw [List.length_map]; omega), cutV_pre _ t0]; simp; omega)
  have hcut : cutV (keys.map V.str) (some t) none ++ cutV (keys.map V.str) none (some t) = (turned keys t).map V.str := by
    rw [cutV_post _ t0 (by rw [List.length_map]; omega), cutV_pre _ t0]
    unfold turned
    rw [List.map_append, List.map_drop, List.map_take]
  rw [hcut] at hcat
  have htl : (turned keys t).length ≤ 200 := by
    unfold turned
    rw [List.length_append, List.length_drop, List.length_take]
    omega
  have hc := lc_typed (α := Str) (β := Str) (J := Itr 0 0) (R := fun v k => v = V.str k) (P := fun H v k => TAt H v [.str k, .bl true]) (tt := tYes) (te := tTup (tCons (tVar 6) (tCons (tC (.bl true)) tNil))) (j := 6) (vs := [6])
    (ei_listN (K := K) hcat) (paired_map V.str _) (fun k => some k) (fun _ _ _ _ k z => z.kt k) (fun _ => rfl) (fun x d r => et_yes)
    (fun x k y hx hy => by
      cases hy
      subst hx
      exact EvU.p (eu_tup (ea_cons (ev_var rfl) (ea_cons ev_c ea_nil)) (show 2 ≤ 100000 by decide))) (by rw [List.length_map]; omega)
  rw [List.filterMap_some] at hc
  refine q_asgL (el_once hc) fun r H2 hr e2 hr2 => ?_
  have hs2 := hs.ex (e1.trans e2)
  have m0 := mixed_nn ns (k + 1) (m := 5) (by decide)
  refine q_asgL (el_sl (ev_var rfl) eo_none (eo_some (ev_mx (ev_var rfl) (ev_add (ev_var rfl) ev_c) ev_c hs2 (by omega) (by decide))) (sq_of hr2)) fun r' H3 hr' e3 hr3 => ?_
  rw [cutV_pre _ m0, ← List.map_take] at hr3
  have hs3 := hs2.ex e3
  have hm3 := e3 _ _ (e2 _ _ (e1 _ _ hm))
  generalize hsome : (onceS (turned keys t)).take (mixed ns (k + 1) 5).toNat = some' at hr3
  have hsl : some'.length ≤ 100000 := by
    have m1 := mixed_lt ns (k + 1) (m := 5) (by decide)
    rw [← hsome, List.length_take]
    omega
  have hg := lc_gen (α := Deed) (P := DeedV) (tt := tYes) (te := tCall (sp_l_one_deed K) [] E0 (tCons (tVar 0) (tCons (tOp rAddI (tOp rAddI (tVar 1) (tC (.int 2))) (tOp rMulI (tC (.int 8)) (tVar 8))) (tCons (tVar 6) (tCons (tVar 3) tNil))))) (g := gTup K 2 (gCons (gName 8) (gCons (gName 6) gNil))) (vs := [8, 6])
    (σ := (((start N_l_deal_deeds [.ref a, .int k, .ref l, .ref m]).set 4 (some (.int t))).set 5 (some (.ref r))).set 7 (some (.ref r'))) (B := H3)
    (ei_enum (K := K) (tl := tVar 7) (P := fun v (x : Str) => v = V.str x) (ev_var rfl) (sq_of hr3) (paired_map V.str _)) (fun q => some (lawDeed1 ns (k + 2 + 8 * (q.1 : Int)) q.2 ls)) (fun _ _ _ _ k z => DeedV.kt k z)
    (fun x d H4 e4 hx _ => by
      obtain ⟨u, rfl, hx⟩ := hx
      refine ⟨_, g_two hx, rfl, et_yes, fun y hy => ?_⟩
      cases hy
      exact evp_call (vs := [.ref a, .int (k + 2 + 8 * (d.1 : Int)), .str d.2, .ref m]) (ea_cons (ev_var rfl) (ea_cons (ev_add (ev_add (ev_var rfl) ev_c) (ev_mul ev_c (ev_var rfl) (.inl ⟨by decide, by decide⟩))) (ea_cons (ev_var rfl) (ea_cons (ev_var rfl) ea_nil)))) fun H5 e5 Q q E => ⟨a, ns, _, d.2, m, ls, rfl, hs3.ex (e4.trans e5), by omega, (e4.trans e5) _ _ hm3, fun H6 v e6 hv => q v H6 e6 hv⟩)
    (by rw [List.length_map, List.length_zipIdx]; exact hsl)
  rw [fm_some] at hg
  refine alw_here (alw_retP (ep_tupOf hg.p fun _ _ _ _ k z => DeedV.kt k z) fun v H4 e4 hv => ?_)
  refine q H4 v (((e1.trans e2).trans e3).trans e4) ?_
  have e : lawDeeds ns k keys ls = (some'.zipIdx.map fun q => (q.2, q.1)).map fun q : Nat × Str => lawDeed1 ns (k + 2 + 8 * (q.1 : Int)) q.2 ls := by
    unfold lawDeeds
    dsimp only
    rw [ht, hsome, enum_map (fun i x => lawDeed1 ns (k + 2 + 8 * (i : Int)) x ls)]
  rw [e]
  exact hv
end
end KW

/-! the laws' deeds: drawn, done, driven -/
namespace KW
open PySem PySem.Spec PyProof.Rows L2 Evl
section
variable {K : PySem.W.Frag} {vs : List V} {H : Hp} {Q : VK} {E : XK}
theorem evp_deeds1 {σ : L2.St} {ta tb tc td : TE} {E : XK} {a l m : Addr} {ns : List Int} {k : Int} {keys : List Str} {ls : List Int} (h1 : Ev ta σ H (.ref a)) (h2 : Ev tb σ H (.int k)) (h3 : Ev tc σ H (.ref l)) (h4 : Ev td σ H (.ref m)) (hs : Scr K H a ns) (hk : 0 ≤ k) (hl : H l = some (.lst (keys.map V.str))) (h0 : 0 < keys.length) (h100 : keys.length ≤ 100) (hm : H m = some (.lst (ls.map V.int))) :
    EvP (tCall (sp_l_deal_deeds K) [] E (tCons ta (tCons tb (tCons tc (tCons td tNil))))) σ H (fun H v => DeedsV H v (lawDeeds ns k keys ls)) :=
  evp_call (ea_cons h1 (ea_cons h2 (ea_cons h3 (ea_cons h4 ea_nil)))) fun H5 e5 Q q E => ⟨a, ns, k, l, keys, m, ls, rfl, hs.ex e5, hk, e5 _ _ hl, h0, h100, e5 _ _ hm, fun H6 v e6 hv => q v H6 e6 hv⟩
theorem rng_map (n : Nat) : rngV 0 n = (List.range n).map fun i : Nat => V.int (i : Int) := by
  unfold rngV
  refine List.map_congr_left fun i _ => ?_
  rw [Int.zero_add]
theorem evlp_conds {σ : L2.St} {a l : Addr} {ns : List Int} {k n m : Int} {keys : List Str} {tm tat tn : TE} {i0 i2 ik : Nat} (hσ0 : σ[i0]? = some (some (.ref a))) (hσ2 : σ[i2]? = some (some (.ref l))) (hne0 : ∀ x : V, ((wipe σ [ik]).set ik (some x))[i0]? = some (some (.ref a))) (hne2 : ∀ x : V, ((wipe σ [ik]).set ik (some x))[i2]? = some (some (.ref l)))
    (hx : ∀ x : V, ((wipe σ [ik]).set ik (some x))[ik]? = some (some x)) (hw : ∀ x : V, wipe ((wipe σ [ik]).set ik (some x)) [ik] = wipe σ [ik])
    (hm : Ev tm σ H (.int m)) (m0 : 0 ≤ m) (m4 : m ≤ 100) (hat : ∀ x : V, Ev tat ((wipe σ [ik]).set ik (some x)) H (.int k)) (htn : ∀ x : V, Ev tn ((wipe σ [ik]).set ik (some x)) H (.int n)) (hs : Scr K H a ns) (hk : 0 ≤ k) (hl : H l = some (.lst (keys.map V.str))) (h0 : 0 < keys.length) (hn : 0 ≤ n) :
    EvLP (tLc (iRng1 (tCons tm tNil)) (gName ik) tYes (tCall (sp_l_condition K) [] E0 (tCons (tVar i0) (tCons (tOp rAddI tat (tOp rMulI (tC (.int 5)) (tVar ik))) (tCons (tVar i2) (tCons tn tNil))))) [ik]) σ H CondV (lawConds ns k keys n m.toNat) := by
  have h1 := ei_rng (ta := tCons tm tNil) (σ := σ) (B := H) (ea_cons hm ea_nil) ⟨m0, by omega⟩
  rw [rng_map] at h1
  have hc := lc_typed (α := Cond) (β := Nat) (J := Itr 0 0) (R := fun v (i : Nat) => v = V.int (i : Int)) (P := CondV) (tt := tYes) (te := tCall (sp_l_condition K) [] E0 (tCons (tVar i0) (tCons (tOp rAddI tat (tOp rMulI (tC (.int 5)) (tVar ik))) (tCons (tVar i2) (tCons tn tNil))))) (j := ik) (vs := [ik]) (σ := σ) (B := H)
    h1 (paired_map (fun i : Nat => V.int (i : Int)) _) (fun i => some (lawCond ns (k + 5 * (i : Int)) keys n)) (fun _ _ _ _ k z => CondV.kt k z) hw (fun x d r => et_yes)
    (fun x i y hx' hy => by
      cases hy
      subst hx'
      exact evp_call (vs := [.ref a, .int (k + 5 * (i : Int)), .ref l, .int n]) (ea_cons (ev_var (hne0 _)) (ea_cons (ev_add (hat _) (ev_mul ev_c (ev_var (hx _)) (.inl ⟨by decide, by decide⟩))) (ea_cons (ev_var (hne2 _)) (ea_cons (htn _) ea_nil)))) fun H5 e5 Q q E => ⟨a, ns, _, l, keys, n, rfl, hs.ex e5, by omega, e5 _ _ hl, h0, hn, fun H6 v e6 hv => q v H6 e6 hv⟩)
    (by rw [List.length_map, List.length_range]; omega)
  rw [fm_some] at hc
  exact hc
theorem pure_l_deed (h : sp_l_deed K vs H Q E) : t_l_deed K { nx := fun _ H' => Q .non H', rt := Q } (start N_l_deed vs) H := by
  obtain ⟨a, ns, k, l, keys, m, ls, n, rfl, hs, hk, hl, h0, h100, hm, hn, q⟩ := h
  have hp : 0 < (keys.length : Int) := by omega
  refine alw_here (al_set (ev_mx (ev_var rfl) (ev_var rfl) ev_c hs hk (by decide)) ?_)
  have k0 := mixed_nn ns k (m := 20) (by decide)
  have k1 := mixed_lt ns k (m := 20) (by decide)
  generalize hkind : mixed ns k 20 = kind at k0 k1
  have hd0 : lawDeed ns k keys ls n = if kind < 8 ∧ 0 < mixed ns (k + 1) 3 then .one (lawDeed1 ns (k + 2) (pick keys (mixed ns (k + 10) (keys.length : Int))) ls)
    else if kind < 13 then .deal (lawConds ns (k + 60) keys n (mixed ns (k + 11) 3).toNat) (lawDeeds ns (k + 12) keys ls) (lawDeeds ns (k + 80) keys ls)
    else if kind < 15 then .grant (1 + if mixed ns (k + 2) 2 = 0 then mixed ns (k + 1) 5 else mixed ns (k + 1) 99)
    else if kind < 17 ∨ ls = [] then .wait (1 + if mixed ns (k + 2) 4 / 3 = 0 then mixed ns (k + 1) 4 else mixed ns (k + 1) 99)
    else if kind = 18 then .give (ls.getD (mixed ns (k + 1) (ls.length : Int)).toNat 0) else .renew (ls.getD (mixed ns (k + 1) (ls.length : Int)).toNat 0) := by
    unfold lawDeed
    dsimp only
    rw [hkind]
  have hq : ∀ {c : LDeed}, lawDeed ns k keys ls n = c → ∀ H' v, Ex H H' → LDeedV H' v c → Q v H' := fun hc H' v e hv => q H' v e (by rw [hc]; exact hv)
  refine al_if (et_and (et_test (ev_lt (ev_var rfl) ev_c)) fun _ => et_test (ev_gt (ev_mx (ev_var rfl) (ev_add (ev_var rfl) ev_c) ev_c hs (by omega) (by decide)) ev_c)) (fun b0 => ?_) fun b0 => al_skip ?_
  · rw [if_pos (by simpa using b0)] at hd0
    refine al_setP (evp_call (vs := [.ref a, .int (k + 2), .str (pick keys (mixed ns (k + 10) (keys.length : Int))), .ref m]) (P := fun H v => DeedV H v (lawDeed1 ns (k + 2) (pick keys (mixed ns (k + 10) (keys.length : Int))) ls)) (ea_cons (ev_var rfl) (ea_cons (ev_add (ev_var rfl) ev_c) (ea_cons (ev_ixL (ev_var rfl) (ev_mx (ev_var rfl) (ev_add (ev_var rfl) ev_c) (ev_lenM (ev_var rfl) hl) hs (by omega) hp) (sq_of hl) (atI_pick (mixed_nn _ _ hp) (mixed_lt _ _ hp))) (ea_cons (ev_var rfl) ea_nil)))) fun H5 e5 Q q E => ⟨a, ns, _, _, m, ls, rfl, hs.ex e5, by omega, e5 _ _ hm, fun H6 v e6 hv => q v H6 e6 hv⟩) fun v H1 e1 hv => ?_
    exact alw_ret (ev_var rfl) fun H2 e2 => hq hd0 H2 v (e1.trans e2) (DeedV.kt (Ex.kt e2) hv)
  rw [if_neg (by simpa using b0)] at hd0
  refine al_if (et_test (ev_lt (ev_var rfl) ev_c)) (fun b1 => ?_) fun b1 => al_skip ?_
  · rw [if_pos (of_decide_eq_true b1)] at hd0
    have c0 := mixed_nn ns (k + 11) (m := 3) (by decide)
    have c1 := mixed_lt ns (k + 11) (m := 3) (by decide)
    refine fun H1 e1 => ?_
    have hs1 := hs.ex e1
    refine seq_lcP (evlp_conds (K := K) (a := a) (l := l) (ns := ns) (k := k + 60) (n := n) (m := mixed ns (k + 11) 3) (keys := keys) rfl rfl (fun _ => rfl) (fun _ => rfl) (fun _ => rfl) (fun _ => rfl) (ev_mx (ev_var rfl) (ev_add (ev_var rfl) ev_c) ev_c hs1 (by omega) (by decide)) c0 (by omega) (fun _ => ev_add (ev_var rfl) ev_c) (fun _ => ev_var rfl) hs1 (by omega) (e1 _ _ hl) h0 hn) fun r H2 hr e2 hr2 => ?_
    have e12 := e1.trans e2
    refine alw_here (al_setP (evp_deeds1 (k := k + 12) (ev_var rfl) (ev_add (ev_var rfl) ev_c) (ev_var rfl) (ev_var rfl) (hs.ex e12) (by omega) (e12 _ _ hl) h0 h100 (e12 _ _ hm)) fun tv H3 e3 htv => ?_)
    have e13 := e12.trans e3
    obtain ⟨cw, cw1, cw2⟩ := hr2
    have hcs : EvP (tCB (rTupOf K) (tCons (tVar 7) tNil)) _ H3 (fun H v => CondsV H v (lawConds ns (k + 60) keys n (mixed ns (k + 11) 3).toNat)) := ep_tupOf (σ := ((((start N_l_deed [.ref a, .int k, .ref l, .ref m, .int n]).set 5 (some (.int kind))).set 7 (some (.ref r))).set 9 (some tv))) (Ev.p (ev_var (v := .ref r) rfl) fun H4 e4 => ⟨r, rfl, cw, e4 _ _ (e3 _ _ cw1), pr_mono cw2 fun _ _ z => CondV.kt (Ex.kt (e3.trans e4)) z⟩) fun _ _ _ _ k z => CondV.kt k z
    have hos := evp_deeds1 (K := K) (E := E0) (σ := ((((start N_l_deed [.ref a, .int k, .ref l, .ref m, .int n]).set 5 (some (.int kind))).set 7 (some (.ref r))).set 9 (some tv))) (ta := tVar 0) (tb := tOp rAddI (tVar 1) (tC (.int 80))) (tc := tVar 2) (td := tVar 3) (k := k + 80) (ev_var rfl) (ev_add (ev_var rfl) ev_c) (ev_var rfl) (ev_var rfl) (hs.ex e13) (by omega) (e13 _ _ hl) h0 h100 (e13 _ _ hm)
    refine alw_retP (ep_tup (R := fun H vs => ∃ x y w, vs = [.str "deal", x, y, w] ∧ CondsV H x (lawConds ns (k + 60) keys n (mixed ns (k + 11) 3).toNat) ∧ DeedsV H y (lawDeeds ns (k + 12) keys ls) ∧ DeedsV H w (lawDeeds ns (k + 80) keys ls))
      (fun H4 e4 Q q => (eap_cons (ep_v ev_c) (fun _ _ _ _ z => z) (eap_cons hcs (fun _ _ _ k z => CondsV.kt k z) (eap_cons (Ev.p (P := fun H v => DeedsV H v (lawDeeds ns (k + 12) keys ls)) (ev_var rfl) fun H5 e5 => DeedsV.kt (Ex.kt e5) htv) (fun _ _ _ k z => DeedsV.kt k z) (eap_cons hos (fun _ _ _ k z => DeedsV.kt k z) eap_nil)))) H4 e4 Q
        fun ws H5 e5 ⟨x0, r0, w1, w2, x1, r1, w3, w4, x2, r2, w5, w6, x3, r3, w7, w8, w9⟩ => q ws H5 e5 ⟨x1, x2, x3, by rw [w1, w2, w3, w5, w7, w9], w4, w6, w8⟩)
      (fun _ _ _ k ⟨x, y, w, z1, z2, z3, z4⟩ => ⟨x, y, w, z1, CondsV.kt k z2, DeedsV.kt k z3, DeedsV.kt k z4⟩) (fun _ _ ⟨x, y, w, z1, _⟩ => by rw [z1]; exact (show 4 ≤ 100 by decide))) fun v H4 e4 ⟨ws, t1, x, y, w, z1, z2, z3, z4⟩ => hq hd0 H4 v (e13.trans e4) ⟨x, y, w, by rw [← z1]; exact t1, z2, z3, z4⟩
  rw [if_neg (of_decide_eq_false b1)] at hd0
  have terms : ∀ {σ : L2.St} {H1 : Hp}, σ[0]? = some (some (.ref a)) → σ[1]? = some (some (.int k)) → Ex H H1 → ∀ {c1 c2 : Int}, 0 < c1 → 0 < c2 → EvL (tLst (tCons (tCall (sp_l_mixed K) [] E0 (tCons (tVar 0) (tCons (tOp rAddI (tVar 1) (tC (.int 1))) (tCons (tC (.int c1)) tNil)))) (tCons (tCall (sp_l_mixed K) [] E0 (tCons (tVar 0) (tCons (tOp rAddI (tVar 1) (tC (.int 1))) (tCons (tC (.int c2)) tNil)))) tNil))) σ H1 [.int (mixed ns (k + 1) c1), .int (mixed ns (k + 1) c2)] :=
    fun {σ H1} s0 s1 e1 {c1 c2} h1 h2 => el_lst (ea_cons (ev_mx (ev_var s0) (ev_add (ev_var s1) ev_c) ev_c (hs.ex e1) (by omega) h1) (ea_cons (ev_mx (ev_var s0) (ev_add (ev_var s1) ev_c) ev_c (hs.ex e1) (by omega) h2) ea_nil)) (show 2 ≤ 100000 by decide)
  have ite_int : ∀ {c : Prop} [Decidable c] (x y : Int), (if c then V.int x else V.int y) = V.int (if c then x else y) := fun x y => by split <;> rfl
  refine al_if (et_test (ev_lt (ev_var rfl) ev_c)) (fun b2 H1 e1 => ?_) fun b2 => al_skip ?_
  · rw [if_pos (of_decide_eq_true b2)] at hd0
    refine q_asgL (terms rfl rfl e1 (c1 := 5) (c2 := 99) (by decide) (by decide)) fun r H2 hr e2 hr2 => ?_
    refine alw_here (alw_retU (eu_tup (ea_cons ev_c (ea_cons (ev_add ev_c (ev_is (ev_ixL (ev_var rfl) (ev_mx (ev_var rfl) (ev_add (ev_var rfl) ev_c) ev_c (hs.ex (e1.trans e2)) (by omega) (by decide)) (sq_of hr2) (pick2 (mixed_nn _ _ (by decide)) (mixed_lt _ _ (by decide)))) (ite_int _ _))) ea_nil)) (show 2 ≤ 100000 by decide)) fun v H3 e3 ht => ?_)
    exact hq hd0 H3 v ((e1.trans e2).trans e3) ht
  rw [if_neg (of_decide_eq_false b2)] at hd0
  refine al_if (et_or (et_test (ev_lt (ev_var rfl) ev_c)) fun _ => et_test (ev_eqNilI (ev_var rfl) hm (flat_ints ls))) (fun b3 H1 e1 => ?_) fun b3 => al_skip ?_
  · rw [if_pos (by simpa using b3)] at hd0
    have f0 := mixed_nn ns (k + 2) (m := 4) (by decide)
    have f1 := mixed_lt ns (k + 2) (m := 4) (by decide)
    refine q_asgL (terms rfl rfl e1 (c1 := 4) (c2 := 99) (by decide) (by decide)) fun r H2 hr e2 hr2 => ?_
    refine alw_here (alw_retU (eu_tup (ea_cons ev_c (ea_cons (ev_add ev_c (ev_is (ev_ixL (ev_var rfl) (ev_fdiv (ev_mx (ev_var rfl) (ev_add (ev_var rfl) ev_c) ev_c (hs.ex (e1.trans e2)) (by omega) (by decide)) ev_c (by unfold CDiv; omega)) (sq_of hr2) (pick2 (by omega) (by omega))) (ite_int _ _))) ea_nil)) (show 2 ≤ 100000 by decide)) fun v H3 e3 ht => ?_)
    exact hq hd0 H3 v ((e1.trans e2).trans e3) ht
  have hne : ¬ (kind < 17 ∨ ls = []) := by simpa using b3
  rw [if_neg hne] at hd0
  have hlp := len_pos (fun z => hne (.inr z))
  refine al_set (ev_ixL (ev_var rfl) (ev_mx (ev_var rfl) (ev_add (ev_var rfl) ev_c) (ev_lenM (ev_var rfl) hm) hs (by omega) hlp) (sq_of hm) (atI_int (mixed_nn _ _ hlp) (mixed_lt _ _ hlp))) ?_
  have hw : atI [V.str "renew", V.str "give", V.str "renew"] (kind - 17) = some (.str (if kind = 18 then "give" else "renew")) := by
    obtain rfl | rfl | rfl : kind = 17 ∨ kind = 18 ∨ kind = 19 := by omega
    · rfl
    · rfl
    · rfl
  refine alw_retU (eu_tup (ea_cons (ev_ixN (K := K) (el_lst (ea_cons ev_c (ea_cons ev_c (ea_cons ev_c ea_nil))) (show 3 ≤ 100000 by decide)) (fun H1 e1 => ev_sub (ev_var rfl) ev_c) hw) (ea_cons (ev_var rfl) ea_nil)) (show 2 ≤ 100000 by decide)) fun v H3 e3 ht => hq hd0 H3 v e3 ?_
  by_cases h18 : kind = 18
  · rw [if_pos h18]
    rw [if_pos h18] at ht
    exact ht
  · rw [if_neg h18]
    rw [if_neg h18] at ht
    exact ht
/-- a word that is not the one asked for -/
theorem al_no {σ : L2.St} {D : Ends} {tu ty : TS} {te : TE} {w x : Str} (h : Ev te σ H (.str w)) (n : w ≠ x) (k : Alw ty D σ H) : Alw (tSeq (tIfS (tTest (tOp rEq te (tC (.str x)))) tu tNext) ty) D σ H :=
  al_if (et_test (ev_eqS h ev_c)) (fun hb => absurd (of_decide_eq_true hb) n) fun _ => al_skip k
theorem al_noA {σ : L2.St} {D : Ends} {t : TT} {tu ty : TS} {te : TE} {w x : Str} (h : Ev te σ H (.str w)) (n : w ≠ x) (k : Alw ty D σ H) : Alw (tSeq (tIfS (tAnd (tTest (tOp rEq te (tC (.str x)))) t) tu tNext) ty) D σ H :=
  al_if (et_and (b := false) (et_test (ev_eqS h ev_c)) fun z => absurd (of_decide_eq_true z) n) (fun hb => by rw [Bool.and_false] at hb; cases hb) fun _ => al_skip k
theorem al_yes {σ : L2.St} {D : Ends} {tu tw ty : TS} {te : TE} {w : Str} (h : Ev te σ H (.str w)) (k : Alw tu { D with nx := ty D } σ H) : Alw (tSeq (tIfS (tTest (tOp rEq te (tC (.str w)))) tu tw) ty) D σ H :=
  al_if (et_test (ev_eqS h ev_c)) (fun _ => k) fun hb => absurd rfl (of_decide_eq_false hb)
theorem pure_l_do (h : sp_l_do K vs H Q E) : t_l_do K { nx := fun _ H' => Q .non H', rt := Q } (start N_l_do vs) H := by
  obtain ⟨p, s, z, v, d, rfl, hh, hv, hd, all, h64, hmu, hel, q⟩ := h
  have hmu' : s.log.length + s.recs.length ≤ 40000 := hmu
  cases d with
  | one d =>
    cases d with
    | put k m l =>
      obtain ⟨⟨hk, h0, h1, hl1⟩, hl⟩ := hd
      have hv : TAt H v [.str "put", .str k, .int m, optV l] := hv
      refine alw_here (al_set (ev_ixA (ev_var rfl) hv ev_c rfl) ?_)
      cases l with
      | none =>
        refine al_if (et_and (et_test (ev_eqS (ev_var rfl) ev_c)) fun _ => et_test (ev_isN (ev_ixA (ev_var rfl) hv ev_c rfl))) (fun _ H1 e1 => ?_) fun hb => by rw [decide_eq_true rfl, Bool.true_and] at hb; cases hb
        refine ret_meth (ev_var rfl) (hh.ex e1) (by decide +kernel) (ea_cons (ev_ixA (ev_var rfl) (hv.kt (Ex.kt e1)) ev_c rfl) (ea_cons (ev_ixA (ev_var rfl) (hv.kt (Ex.kt e1)) ev_c rfl) ea_nil)) fun H2 e2 => ?_
        exact ⟨p, s, z, k, m, none, rfl, hh.ex (e1.trans e2), hk, h0, h1, hl, ⟨by omega, by omega⟩, fun H3 z3 hh3 k3 => q H3 z3 hh3 ((Keep.ex (e1.trans e2)).trans k3)⟩
      | some i =>
        refine al_if (et_and (et_test (ev_eqS (ev_var rfl) ev_c)) fun _ => et_test (ev_isN (ev_ixA (ev_var rfl) hv ev_c rfl))) (fun hb => by rw [Bool.and_eq_true] at hb; cases hb.2) fun _ => al_skip (al_yes (ev_var rfl) fun H1 e1 => ?_)
        refine ret_meth (ev_var rfl) (hh.ex e1) (by decide +kernel) (ea_cons (ev_ixA (ev_var rfl) (hv.kt (Ex.kt e1)) ev_c rfl) (ea_cons (ev_ixA (ev_var rfl) (hv.kt (Ex.kt e1)) ev_c rfl) (ea_cons (ev_ixA (ev_var rfl) (hv.kt (Ex.kt e1)) ev_c rfl) ea_nil))) fun H2 e2 => ?_
        exact ⟨p, s, z, k, m, some i, rfl, hh.ex (e1.trans e2), hk, h0, h1, hl, ⟨by omega, by omega⟩, fun H3 z3 hh3 k3 => q H3 z3 hh3 ((Keep.ex (e1.trans e2)).trans k3)⟩
    | drop k =>
      have hv : TAt H v [.str "drop", .str k] := hv
      refine alw_here (al_set (ev_ixA (ev_var rfl) hv ev_c rfl) (al_noA (ev_var rfl) (by decide) (al_no (ev_var rfl) (by decide) (al_yes (ev_var rfl) fun H1 e1 => ?_))))
      refine ret_meth (ev_var rfl) (hh.ex e1) (by decide +kernel) (ea_cons (ev_ixA (ev_var rfl) (hv.kt (Ex.kt e1)) ev_c rfl) ea_nil) fun H2 e2 => ?_
      exact ⟨p, s, z, k, rfl, hh.ex (e1.trans e2), hd.1, ⟨by omega, by omega⟩, fun H3 z3 hh3 k3 => q H3 z3 hh3 ((Keep.ex (e1.trans e2)).trans k3)⟩
  | deal cs ts os =>
    obtain ⟨x, y, w, hv, hc, ht, ho⟩ := hv
    obtain ⟨h1, h2, h3, h4, h5⟩ := hd
    refine alw_here (al_set (ev_ixA (ev_var rfl) hv ev_c rfl) (al_noA (ev_var rfl) (by decide) (al_no (ev_var rfl) (by decide) (al_no (ev_var rfl) (by decide) (al_yes (ev_var rfl) fun H1 e1 => ?_)))))
    refine ret_meth (ev_var rfl) (hh.ex e1) (by decide +kernel) (ea_cons (ev_ixA (ev_var rfl) (hv.kt (Ex.kt e1)) ev_c rfl) (ea_cons (ev_ixA (ev_var rfl) (hv.kt (Ex.kt e1)) ev_c rfl) (ea_cons (ev_ixA (ev_var rfl) (hv.kt (Ex.kt e1)) ev_c rfl) ea_nil))) fun H2 e2 => ?_
    have kt := Ex.kt (e1.trans e2)
    exact ⟨p, s, z, x, y, w, cs, ts, os, rfl, hh.ex (e1.trans e2), hc.kt kt, ht.kt kt, ho.kt kt, h1, h2, h3, h4, h5, ⟨by omega, by omega⟩, fun H3 z3 hh3 k3 => q H3 z3 hh3 ((Keep.ex (e1.trans e2)).trans k3)⟩
  | grant t =>
    have hv : TAt H v [.str "grant", .int t] := hv
    refine alw_here (al_set (ev_ixA (ev_var rfl) hv ev_c rfl) (al_noA (ev_var rfl) (by decide) (al_no (ev_var rfl) (by decide) (al_no (ev_var rfl) (by decide) (al_no (ev_var rfl) (by decide) (al_yes (ev_var rfl) fun H1 e1 => ?_))))))
    refine ret_meth (ev_var rfl) (hh.ex e1) (by decide +kernel) (ea_cons (ev_ixA (ev_var rfl) (hv.kt (Ex.kt e1)) ev_c rfl) ea_nil) fun H2 e2 => ?_
    exact ⟨p, s, z, t, rfl, hh.ex (e1.trans e2), hd.1, hd.2, by omega, fun H3 z3 hh3 k3 => q H3 z3 hh3 ((Keep.ex (e1.trans e2)).trans k3)⟩
  | wait n =>
    have hv : TAt H v [.str "wait", .int n] := hv
    refine alw_here (al_set (ev_ixA (ev_var rfl) hv ev_c rfl) (al_noA (ev_var rfl) (by decide) (al_no (ev_var rfl) (by decide) (al_no (ev_var rfl) (by decide) (al_no (ev_var rfl) (by decide) (al_no (ev_var rfl) (by decide) (al_yes (ev_var rfl) fun H1 e1 => ?_)))))))
    refine meth_call (ev_var rfl) (hh.ex e1) (by decide +kernel) (ea_cons (ev_ixA (ev_var rfl) (hv.kt (Ex.kt e1)) ev_c rfl) ea_nil) fun H2 e2 => ?_
    exact ⟨p, s, z, n, rfl, hh.ex (e1.trans e2), hd.1, hd.2, h64, all.wf, all.lw, hmu, hel, fun H3 z3 hh3 k3 => q H3 z3 hh3 ((Keep.ex (e1.trans e2)).trans k3)⟩
  | renew l =>
    have hv : TAt H v [.str "renew", .int l] := hv
    refine alw_here (al_set (ev_ixA (ev_var rfl) hv ev_c rfl) (al_noA (ev_var rfl) (by decide) (al_no (ev_var rfl) (by decide) (al_no (ev_var rfl) (by decide) (al_no (ev_var rfl) (by decide) (al_no (ev_var rfl) (by decide) (al_if (et_test (ev_eqS (ev_var rfl) ev_c)) (fun hb => absurd (of_decide_eq_true hb) (by decide)) fun _ => alw_if (et_test (ev_eqS (ev_var rfl) ev_c)) (fun _ H1 e1 => ?_) fun hb => absurd rfl (of_decide_eq_false hb))))))))
    refine meth_call (ev_var rfl) (hh.ex e1) (by decide +kernel) (ea_cons (ev_ixA (ev_var rfl) (hv.kt (Ex.kt e1)) ev_c rfl) ea_nil) fun H2 e2 => ?_
    exact ⟨p, s, z, l, rfl, hh.ex (e1.trans e2), hd.1, hd.2, by omega, fun H3 z3 hh3 k3 => q H3 z3 hh3 ((Keep.ex (e1.trans e2)).trans k3)⟩
  | give l =>
    have hv : TAt H v [.str "give", .int l] := hv
    refine alw_here (al_set (ev_ixA (ev_var rfl) hv ev_c rfl) (al_noA (ev_var rfl) (by decide) (al_no (ev_var rfl) (by decide) (al_no (ev_var rfl) (by decide) (al_no (ev_var rfl) (by decide) (al_no (ev_var rfl) (by decide) (al_if (et_test (ev_eqS (ev_var rfl) ev_c)) (fun hb => absurd (of_decide_eq_true hb) (by decide)) fun _ => alw_if (et_test (ev_eqS (ev_var rfl) ev_c)) (fun hb => absurd (of_decide_eq_true hb) (by decide)) fun _ H1 e1 => ?_)))))))
    refine meth_call (ev_var rfl) (hh.ex e1) (by decide +kernel) (ea_cons (ev_ixA (ev_var rfl) (hv.kt (Ex.kt e1)) ev_c rfl) ea_nil) fun H2 e2 => ?_
    exact ⟨p, s, z, l, rfl, hh.ex (e1.trans e2), hd.1, hd.2, h64, all.wf, hmu, fun H3 z3 hh3 k3 => q H3 z3 hh3 ((Keep.ex (e1.trans e2)).trans k3)⟩
/-! ### a house that is driven -/
theorem evl_leases {σ : L2.St} {te : TE} {E : XK} {p : Addr} {s : HS} {z : HCell} (he : Ev te σ H (.ref p)) (hh : HouseAt (clsHouse K) H p s z) : EvL (tMeth (clsHouse K) "leases" (sp_h_leases K) [] E te tNil) σ H (s.leases.map V.int) := fun H1 e1 Q q =>
  meth_call (he.mono e1) (hh.ex e1) (by decide +kernel) ea_nil fun H2 e2 => ⟨p, s, z, rfl, hh.ex (e1.trans e2), fun H3 r e3 hr hr3 => q r H3 (fresh_back e2 hr) (e2.trans e3) hr3⟩
/-- the deed that is drawn for a house -/
theorem evp_deed {σ : L2.St} {ta tb tc td : TE} {a l p : Addr} {ns : List Int} {k : Int} {keys : List Str} {s : HS} {z : HCell} (h1 : Ev ta σ H (.ref a)) (h2 : Ev tb σ H (.int k)) (h3 : Ev tc σ H (.ref l)) (h4 : Ev td σ H (.ref p)) (hh : HouseAt (clsHouse K) H p s z) (hs : Scr K H a ns) (hk : 0 ≤ k) (hl : H l = some (.lst (keys.map V.str))) (h0 : 0 < keys.length) (h100 : keys.length ≤ 100) (hn : 0 ≤ s.last) :
    EvP (tCall (sp_l_deed K) [] E0 (tCons ta (tCons tb (tCons tc (tCons (tMeth (clsHouse K) "leases" (sp_h_leases K) [] E0 td tNil) (tCons (tMeth (clsHouse K) "number" (sp_h_number K) [] E0 td tNil) tNil)))))) σ H (fun H v => LDeedV H v (lawDeed ns k keys s.leases s.last)) := fun H1 e1 Q q =>
  h1 H1 e1 _ fun H2 e2 => h2 H2 (e1.trans e2) _ fun H3 e3 => h3 H3 ((e1.trans e2).trans e3) _ fun H4 e4 => evl_leases h4 hh H4 (((e1.trans e2).trans e3).trans e4) _ fun m H5 hm e5 hm5 => by
    have e15 := (((e1.trans e2).trans e3).trans e4).trans e5
    refine ev_number (E := E0) h4 hh H5 e15 _ fun H6 e6 => ?_
    have e16 := e15.trans e6
    exact ⟨a, ns, k, l, keys, m, s.leases, s.last, rfl, hs.ex e16, hk, e16 _ _ hl, h0, h100, e6 _ _ hm5, hn, fun H7 v e7 hv => q v H7 ((((e2.trans e3).trans e4).trans e5).trans (e6.trans e7)) hv⟩
theorem HS.All.last0 {s : HS} (h : s.All) : 0 ≤ s.last := by
  have h1 := h.wf.b0
  have h2 := h.wf.bl
  omega
theorem pure_l_drive (h : sp_l_drive K vs H Q E) : t_l_drive K { nx := fun _ H' => Q .non H', rt := Q } (start N_l_drive vs) H := by
  obtain ⟨a, ns, k, p, s, z, l, keys, m, n, rfl, hh, hs, hk, hl, h0, h64, hkeys, hfit, hnm, q⟩ := h
  refine q_asgL (el_lst ea_nil (by decide)) fun r H1 hr e1 hr1 => ?_
  have rf : r ∉ z.fp p := fun hm => by
    obtain ⟨o, ho⟩ := hh.some hm
    rw [hr] at ho
    cases ho
  refine alw_here (al_forR1 (n := (m : Int)) (ea_cons (ev_var rfl) ea_nil) ⟨by omega, by omega⟩ (fun i σ' H' => ∃ z' v6 v7, σ' = [some (.ref a), some (.int k), some (.ref p), some (.ref l), some (.int (m : Int)), some (.ref r), v6, v7] ∧ HouseAt (clsHouse K) H' p (driven ns k keys s i) z' ∧ Keep (z.fp p) (z'.fp p) H H' ∧ r ∉ z'.fp p ∧ LsAt RowDV H' r (drivenR ns k keys s i)) ?_ ?_ ?_)
  · intro H2 e2
    exact ⟨z, none, none, rfl, hh.ex (e1.trans e2), Keep.ex (e1.trans e2), rf, [], e2 _ _ hr1, .nil⟩
  · rintro i σ' H2 hi ⟨z2, v6, v7, rfl, hh2, k2, rf2, ws, hw1, hw2⟩
    have fit := fit_driven hfit hkeys h0 ns k i
    have hs2 := hs.keep k2
    have hl2 := hl.keep k2
    refine alw_here (al_setP (evp_deed (k := k + 130 * (i : Int)) (ev_var rfl) (ev_add (ev_var rfl) (ev_mul ev_c (ev_var rfl) (.inl ⟨by decide, by decide⟩))) (ev_var rfl) (ev_var rfl) hh2 hs2.scr (by omega) hl2.1 h0 (by omega) fit.all.last0) fun dv H3 e3 hd => ?_)
    intro H4 e4
    have e34 := e3.trans e4
    have hh4 := hh2.ex e34
    have hd4 := hd.kt (Ex.kt e4)
    obtain ⟨ok, _⟩ := lawDeed_ok fit.all ns (k + 130 * (i : Int)) hkeys h0
    have hrl := recs_le fit.all.wf fit.keys
    have hfm := fit.mu
    have hfe := fit.ends
    have hr4 : H4 r = some (.lst ws) := e34 _ _ hw1
    have hwl := pr_len hw2
    have hdl : (drivenR ns k keys s i).length = i := by unfold drivenR; simp
    refine ⟨_, rfl, .inl ⟨rfl, ws, sq_of hr4⟩, _, rfl, _, rfl, _, rfl, ?_⟩
    refine ⟨p, driven ns k keys s i, z2, dv, _, rfl, hh4, hd4, ok, fit.all, by omega, by omega, by omega, fun H5 z5 hh5 k5 => ?_⟩
    refine ⟨(show 2 ≤ sizeLine by decide), fun t ht => ?_⟩
    have hr5 : H5 r = some (.lst ws) := k5.kp _ _ hr4 rf2
    have rf5 := k5.out hr4 rf2
    have htr : t ≠ r := fun e => by rw [e, hr5] at ht; cases ht
    have e6 : Ex H5 (upd H5 t (.tup [dv, (driven ns k keys s i).told (lawDeed ns (k + 130 * (i : Int)) keys (driven ns k keys s i).leases (driven ns k keys s i).last)])) := Ex.new ht
    refine ⟨r, ws, _, rfl, rfl, e6 _ _ hr5, Nat.lt_of_le_of_lt (show ws.length ≤ 4000 by omega) (by decide), ?_⟩
    have kt7 : Kt (upd H5 t (.tup [dv, (driven ns k keys s i).told (lawDeed ns (k + 130 * (i : Int)) keys (driven ns k keys s i).leases (driven ns k keys s i).last)])) (upd (upd H5 t (.tup [dv, (driven ns k keys s i).told (lawDeed ns (k + 130 * (i : Int)) keys (driven ns k keys s i).leases (driven ns k keys s i).last)])) r (.lst (ws ++ [.ref t]))) := (Kt.refl _).upd (ne_tup_of (e6 _ _ hr5) fun xs z => by cases z)
    have kt57 : Kt H5 _ := (Ex.kt e6).trans kt7
    have hh7 := hh5.move kt57 fun b hb o ho => by
      rw [upd_ne (fun e => rf5 (by rw [← e]; exact hb))]
      exact e6 b o ho
    refine ⟨z5, _, _, rfl, hh7, ?_, rf5, ws ++ [.ref t], upd_same, ?_⟩
    · have k24 : Keep (z.fp p) (z5.fp p) H H5 := (k2.trans (Keep.ex e34)).trans k5
      refine ⟨fun b o hb hn => ?_, k24.fr, k24.kt.trans kt57⟩
      have nb : b ≠ r := fun e => by rw [e, hr] at hb; cases hb
      rw [upd_ne nb]
      exact e6 b o (k24.kp b o hb hn)
    · have e : drivenR ns k keys s (i + 1) = drivenR ns k keys s i ++ [(drivenD ns k keys s i, (driven ns k keys s i).told (drivenD ns k keys s i))] := by
        unfold drivenR
        rw [List.range_succ, List.map_append]
        rfl
      rw [e]
      refine pr_append (pr_mono hw2 fun _ _ w => RowDV.kt ((Ex.kt e34).trans (k5.kt.trans kt57)) w) (.cons ⟨dv, ⟨t, rfl, ?_⟩, hd4.kt (k5.kt.trans kt57)⟩ .nil)
      rw [upd_ne htr, upd_same]
      rfl
  · rintro σ' H2 ⟨z2, v6, v7, rfl, hh2, k2, rf2, hw⟩
    rw [Int.toNat_natCast] at hh2 hw
    refine alw_here (alw_ret (ev_var rfl) fun H3 e3 => ?_)
    obtain ⟨ws, hw1, hw2⟩ := hw
    exact q H3 z2 r (hh2.ex e3) (k2.trans (Keep.ex e3)) hr rf2 ⟨ws, e3 _ _ hw1, pr_mono hw2 fun _ _ w => RowDV.kt (Ex.kt e3) w⟩
end
end KW

/-! records of a law: popped, asked, put -/
namespace KW
open PySem PySem.Spec PyProof.Rows L2 Evl
theorem wr_drop (s : HS) (k : Str) : s.write [.drop k] = if hasR s.recs k = true then { s with last := s.last + 1, log := s.log ++ [⟨s.last + 1, .drop k⟩], recs := dropR s.recs k } else s := by
  have e : realD s.recs [.drop k] = if hasR s.recs k = true then [.drop k] else [] := by
    unfold realD
    rw [List.filter_cons]
    show (if (false || hasR s.recs k) = true then _ else _) = _
    rw [Bool.false_or]
    rfl
  unfold HS.write
  dsimp only
  rw [e]
  by_cases h : hasR s.recs k = true
  · rw [if_pos h, if_pos h, if_neg (by simp)]
    rfl
  · rw [if_neg h, if_neg h, if_pos rfl]
theorem wr_put (s : HS) (k : Str) (v : Int) (l : Option Int) : s.write [.put k v l] = { s with last := s.last + 1, log := s.log ++ [⟨s.last + 1, .put k v l⟩], recs := putR s.recs k (newRec s.recs (s.last + 1) k v l) } := by
  unfold HS.write
  dsimp only
  rw [write_put, if_neg (by simp)]
  rfl
section
variable {K : PySem.W.Frag} {vs : List V} {H : Hp} {Q : VK} {E : XK}
/-- a pop that may find nothing -/
theorem pop2_recs {σ : L2.St} {D : Ends} {td ty : TE} {d : Addr} {rs : Recs} {k : Str} (hd : Ev td σ H (.ref d)) (ha : Ev ty σ H (.str k)) (h : RecsAt H d rs)
    (q : ∀ H1 H', Ex H H1 → Keep1 d H1 H' → Kt H1 H' → RecsAt H' d (dropR rs k) → D.nx σ H') : tDrop (tDPop2 td ty (tC .non)) D σ H :=
  hd H (Ex.refl H) _ fun H2 e2 => by
    have h2 := h.ex e2
    have h0 := h2
    obtain ⟨es, g1, g2⟩ := h0
    refine ⟨d, rfl, .inl ⟨es, .inl g1⟩, ha H2 e2 _ fun H3 e3 => ?_⟩
    obtain ⟨es, g1, g2⟩ := h2.ex e3
    refine ⟨es, Sum.inr k, g1, rfl, fun v hv => ?_, fun hn => ?_⟩
    · exact q H3 _ (e2.trans e3) (keep1_upd (Ex.refl H3)) ((Kt.refl H3).upd (ne_tup_of g1 fun xs z => by cases z)) (recs_drop (H' := H3) g1 g2)
    · refine q H3 H3 (e2.trans e3) (fun b o _ h => h) (Kt.refl _) ?_
      rcases val_of inr_inj g2 k with ⟨v, r, z1, z2, z3⟩ | ⟨z1, z2⟩
      · rw [hn] at z1
        cases z1
      · have : dropR rs k = rs := by
          have hk := lookA_none.mp z2
          exact List.filter_eq_self.mpr fun p hp => by
            simp
            exact fun e => hk (by rw [← e]; exact List.mem_map.mpr ⟨p, hp, rfl⟩)
        rw [this]
        exact ⟨es, g1, g2⟩
def oldVs (n : Int) : Option Rec → List V
  | some r => recVs r
  | none => [.int 0, .int n, .int 0, .int 0, .non]
theorem evp_get2 {σ : L2.St} {td ty tn : TE} {d : Addr} {rs : Recs} {k : Str} {n : Int} (hd : Ev td σ H (.ref d)) (ha : Ev ty σ H (.str k)) (hn : Ev tn σ H (.int n)) (h : RecsAt H d rs) :
    EvP (tDGet2 td ty (tTup (tCons (tC (.int 0)) (tCons tn (tCons (tC (.int 0)) (tCons (tC (.int 0)) (tCons (tC .non) tNil))))))) σ H (fun H v => TAt H v (oldVs n (lookR rs k))) := fun H1 e Q q =>
  hd H1 e _ fun H2 e2 => by
    have h2 := h.ex (e.trans e2)
    have h0 := h2
    obtain ⟨es, g1, g2⟩ := h0
    refine ⟨d, rfl, .inl ⟨es, .inl g1⟩, ha H2 (e.trans e2) _ fun H3 e3 => ?_⟩
    refine hn H3 ((e.trans e2).trans e3) _ fun H4 e4 => ⟨(show 5 ≤ sizeLine by decide), fun t ht => ?_⟩
    rcases dget_recs (h2.ex ((e3.trans e4).trans (Ex.new ht))) k with ⟨v, r, g, l, hr⟩ | ⟨g, l⟩
    · exact ⟨some v, g, q v _ (((e2.trans e3).trans e4).trans (Ex.new ht)) (by rw [l]; exact hr)⟩
    · exact ⟨none, g, q (.ref t) _ (((e2.trans e3).trans e4).trans (Ex.new ht)) (by rw [l]; exact ⟨t, rfl, upd_same⟩)⟩
/-- records[k] = a new tuple -/
theorem put_recs {σ : L2.St} {D : Ends} {td ty te : TE} {d : Addr} {rs : Recs} {k : Str} {r : Rec} {tw : TS} (hd : Ev td σ H (.ref d)) (ha : Ev ty σ H (.str k)) (hu : EvU te σ H (recVs r)) (h : RecsAt H d rs) (hl : rs.length ≤ 100000)
    (q : ∀ H1 H', Ex H H1 → Keep1 d H1 H' → Kt H1 H' → RecsAt H' d (putR rs k r) → tw D σ H') : tSeq (sDPut td ty te) tw D σ H :=
  hu H (Ex.refl H) _ fun p H1 hp e1 hp1 => hd H1 e1 _ fun H2 e2 => ha H2 (e1.trans e2) _ fun H3 e3 => by
    obtain ⟨es, h1, h2⟩ := h.ex ((e1.trans e2).trans e3)
    have hlen := pr_len h2
    exact ⟨d, _, rfl, .inl ⟨es, Sum.inr k, h1, rfl, Nat.lt_of_le_of_lt (Nat.le_of_eq hlen) (Nat.lt_of_le_of_lt hl (by decide)), rfl⟩, q H3 _ ((e1.trans e2).trans e3) (keep1_upd (Ex.refl H3)) ((Kt.refl H3).upd (ne_tup_of h1 fun xs z => by cases z)) (recs_put (H' := H3) h1 h2 ⟨p, rfl, (e2.trans e3) p _ hp1⟩)⟩
end
end KW

/-! what the laws' walks share -/
namespace KW
open PySem PySem.Spec PyProof.Rows L2 Evl
/-! ### all keys lie between / and zzzzzzzzzzzz -/
theorem le_zs : ∀ (l : List Nat) (n : Nat), l.length ≤ n → (∀ c ∈ l, c ≤ 122) → l ≤ List.replicate n 122
  | [], n, _, _ => List.nil_le _
  | c :: r, 0, h, _ => absurd h (by simp)
  | c :: r, n + 1, h, hc => by
    rw [List.replicate_succ]
    have h1 := hc c List.mem_cons_self
    refine List.cons_le_cons_iff.mpr ?_
    by_cases e : c = 122
    · exact .inr ⟨e, le_zs r n (by simpa using h) fun x hx => hc x (List.mem_cons_of_mem _ hx)⟩
    · exact .inl (by omega)
theorem sign_le : ∀ c ∈ signL, 47 ≤ c ∧ c ≤ 122 := by
  rw [signL_eq]
  decide
theorem within_all {k : Str} (h : isKey k = true) : within k "/" "zzzzzzzzzzzz" = true := by
  obtain ⟨h1, h2, h3⟩ := isKey_iff.mp h
  unfold within
  rw [Bool.and_eq_true, sLe_iff, sLe_iff]
  constructor
  · have e : ("/" : Str).cps.toList = [47] := by decide +kernel
    rw [e]
    rw [str_len] at h1
    cases hk : k.cps.toList with
    | nil => rw [hk] at h1; simp at h1
    | cons c r =>
      have hc := (sign_le c (h3 c (by rw [hk]; exact List.mem_cons_self))).1
      refine List.cons_le_cons_iff.mpr ?_
      by_cases e : 47 = c
      · exact .inr ⟨e, List.nil_le _⟩
      · exact .inl (by omega)
  · have e : ("zzzzzzzzzzzz" : Str).cps.toList = List.replicate 12 122 := by decide +kernel
    rw [e]
    exact le_zs _ 12 (by rw [← str_len]; exact h2) fun c hc => (sign_le c (h3 c hc)).2
theorem key_lo : isKey "/" = true := by decide +kernel
theorem key_hi : isKey "zzzzzzzzzzzz" = true := by decide +kernel
theorem mem_inRows {rs : Recs} {p : Str × Rec} (h : p ∈ inRows rs) : p.1 ∈ keysA rs := by
  obtain ⟨k, hk, rfl⟩ := List.mem_map.mp h
  exact mem_sortS.mp hk
theorem rows_all {rs : Recs} (h : ∀ k ∈ keysA rs, isKey k = true) : spanRows rs "/" "zzzzzzzzzzzz" = inRows rs :=
  List.filter_eq_self.mpr fun p hp => within_all (h _ (mem_inRows hp))
theorem since_all {s : HS} (h : ∀ e ∈ s.log, isKey e.deed.key = true) (n : Int) : s.since "/" "zzzzzzzzzzzz" n = s.log.filter fun e => decide (n ≤ e.num) :=
  List.filter_congr fun e he => by rw [within_all (h e he), Bool.and_true]
/-! ### things as data -/
structure Enc {α : Type} (P : Hp → V → α → Prop) where
  D : α → PyData
  dp : ∀ {K : PySem.W.Frag} {H : Hp} {v : V} {x : α}, P H v x → Dp K H v (D x)
  plain : ∀ x, (D x).plain = true
  depth : ∀ x, (D x).depth ≤ 20
  kt : ∀ {H H' : Hp} {v : V} {x : α}, Kt H H' → P H v x → P H' v x
section
variable {α : Type} {P : Hp → V → α → Prop} (N : Enc P)
theorem Enc.dps {K : PySem.W.Frag} {H : Hp} : ∀ {vs : List V} {xs : List α}, Paired (P H) vs xs → DpAll K H vs (xs.map N.D)
  | _, _, .nil => .nil
  | _, _, .cons r t => .cons (N.dp r) (Enc.dps t)
theorem Enc.plains : ∀ xs : List α, PyData.plainAll (xs.map N.D) = true
  | [] => rfl
  | x :: r => by
    rw [List.map_cons, PyData.plainAll, N.plain, Enc.plains r]
    rfl
theorem Enc.depths : ∀ xs : List α, PyData.depthAll (xs.map N.D) ≤ 20
  | [] => Nat.zero_le _
  | x :: r => by
    rw [List.map_cons, PyData.depthAll]
    exact Nat.max_le.mpr ⟨N.depth x, Enc.depths r⟩
def Enc.L (xs : List α) : PyData := .list (xs.map N.D)
theorem Enc.plainL (xs : List α) : (N.L xs).plain = true := N.plains xs
theorem Enc.depthL (xs : List α) : (N.L xs).depth ≤ 60 := by
  have h := N.depths xs
  show PyData.depthAll _ + 1 ≤ 60
  omega
theorem Enc.dpL {K : PySem.W.Frag} {H : Hp} {l : Addr} {xs : List α} (h : LsAt P H l xs) : Dp K H (.ref l) (N.L xs) := by
  obtain ⟨vs, h1, h2⟩ := h
  exact .lst (sq_of h1) (N.dps h2)
end
def encRow : Enc RowV where
  D := rowD
  dp := dp_row
  plain := fun p => by
    show (true && ((recD p.2).plain && true)) = true
    rw [plain_rec]
    rfl
  depth := fun p => by
    show max 0 (max (recD p.2).depth 0) + 1 ≤ 20
    rw [depth_rec]
    decide
  kt := RowV.kt
theorem ev_flat (e : Evt) : (evVs e).all isFlat = true := by
  obtain ⟨n, d⟩ := e
  cases d with
  | put k v l => cases l <;> rfl
  | drop k => rfl
def flatT (xs : List V) : PyData := .tuple (xs.map flatD)
theorem dp_flatT {K : PySem.W.Frag} {H : Hp} {v : V} {xs : List V} (h : TAt H v xs) (hf : xs.all isFlat = true) : Dp K H v (flatT xs) := by
  obtain ⟨a, rfl, h⟩ := h
  exact .tup (st_of h) (dp_flats hf)
theorem plain_flatT (xs : List V) : (flatT xs).plain = true := plain_flats xs
theorem depth_flatT (xs : List V) : (flatT xs).depth ≤ 20 := by
  show PyData.depthAll _ + 1 ≤ 20
  rw [depth_flats]
  decide
def encEvt : Enc EvV where
  D := fun e => flatT (evVs e)
  dp := fun {K H v e} h => dp_flatT h (ev_flat e)
  plain := fun e => plain_flatT _
  depth := fun e => depth_flatT _
  kt := EvV.kt
def IntV (_ : Hp) (v : V) (i : Int) : Prop := v = .int i
def StrV (_ : Hp) (v : V) (x : Str) : Prop := v = .str x
def encInt : Enc IntV where
  D := fun i => .int i
  dp := fun {K H v i} h => by rw [show v = .int i from h]; exact .int i
  plain := fun _ => rfl
  depth := fun _ => Nat.zero_le _
  kt := fun _ h => h
def encStr : Enc StrV where
  D := fun i => .str i
  dp := fun {K H v i} h => by rw [show v = .str i from h]; exact .str i
  plain := fun _ => rfl
  depth := fun _ => Nat.zero_le _
  kt := fun _ h => h
section
variable {α : Type} {K : PySem.W.Frag} {σ : L2.St} {H : Hp} {ta tb te td ty : TE} {D : Ends} {tw : TS}
theorem ev_eqSame {d : PyData} (ha : EvP ta σ H (fun H v => Dp K H v d)) (hb : EvP tb σ H (fun H v => Dp K H v d)) (pd : d.plain = true) (dd : d.depth ≤ 60) : Ev (tOp (rEqP K) ta tb) σ H (.bl true) := by
  have h := ev_eqPP ha hb pd pd dd
  rw [PySem.SeqAt.eqv_refl_plain _ pd] at h
  exact h
theorem ev_neSame {d : PyData} (ha : EvP ta σ H (fun H v => Dp K H v d)) (hb : EvP tb σ H (fun H v => Dp K H v d)) (pd : d.plain = true) (dd : d.depth ≤ 60) : Ev (tOp (rNeP K) ta tb) σ H (.bl false) := by
  have h := ev_nePP ha hb pd pd dd
  rw [PySem.SeqAt.eqv_refl_plain _ pd] at h
  exact h
variable {P : Hp → V → α → Prop} {xs : List α}
theorem EvLP.dp (N : Enc P) (h : EvLP te σ H P xs) : EvP te σ H (fun H v => Dp K H v (N.L xs)) := EvP.imp h.p fun H v ⟨l, e, hl⟩ => by
  rw [e]
  exact N.dpL hl
theorem Ev.dpL (N : Enc P) {l : Addr} (h : Ev te σ H (.ref l)) (hl : LsAt P H l xs) : EvP te σ H (fun H v => Dp K H v (N.L xs)) := Ev.p h fun H1 e => by
  obtain ⟨vs, h1, h2⟩ := hl
  exact N.dpL ⟨vs, e _ _ h1, pr_mono h2 fun _ _ z => N.kt (Ex.kt e) z⟩
theorem Ev.dpI {i : Int} (h : Ev te σ H (.int i)) : EvP te σ H (fun H v => Dp K H v (.int i)) := Ev.p h fun H1 e => .int i
theorem EvL.lp {β : Type} {f : β → V} {ys : List β} (h : EvL te σ H (ys.map f)) : EvLP te σ H (fun _ v y => v = f y) ys := fun H1 e Q q => h H1 e Q fun p H2 hp e2 h2 => q p H2 hp e2 ⟨_, h2, paired_map f ys⟩
/-- rows that are the same -/
theorem ev_neL (N : Enc P) (ha : EvP ta σ H (fun H v => Dp K H v (N.L xs))) (hb : EvP tb σ H (fun H v => Dp K H v (N.L xs))) : Ev (tOp (rNeP K) ta tb) σ H (.bl false) := ev_neSame ha hb (N.plainL xs) (N.depthL xs)
theorem ev_eqL (N : Enc P) (ha : EvP ta σ H (fun H v => Dp K H v (N.L xs))) (hb : EvP tb σ H (fun H v => Dp K H v (N.L xs))) : Ev (tOp (rEqP K) ta tb) σ H (.bl true) := ev_eqSame ha hb (N.plainL xs) (N.depthL xs)
end
/-! ### a house, the script and the keys beside it -/
structure Base (K : PySem.W.Frag) (ns : List Int) (ks : List Str) (a l p : Addr) (n : Nat) (s : HS) (z : HCell) (H : Hp) : Prop where
  hh : HouseAt (clsHouse K) H p s z
  scr : ScrO K (z.fp p) H a ns
  keys : Out (z.fp p) H l (.lst (ks.map V.str))
  fit : s.Fit ks n
  old : s.old = []
  base : s.base = 0
section
variable {K : PySem.W.Frag} {ns : List Int} {keys : List Str} {a l p : Addr} {n : Nat} {s s' : HS} {z z' : HCell} {H H' : Hp}
theorem Base.ex (h : Base K ns keys a l p n s z H) (e : Ex H H') : Base K ns keys a l p n s z H' := ⟨h.hh.ex e, h.scr.keep (Keep.ex e), h.keys.keep (Keep.ex e), h.fit, h.old, h.base⟩
theorem Base.keep {m : Nat} (h : Base K ns keys a l p n s z H) (k : Keep (z.fp p) (z'.fp p) H H') (hh : HouseAt (clsHouse K) H' p s' z') (f : s'.Fit keys m) (o : s'.old = []) (b : s'.base = 0) : Base K ns keys a l p m s' z' H' := ⟨hh, h.scr.keep k, h.keys.keep k, f, o, b⟩
theorem Base.wf (h : Base K ns keys a l p n s z H) : s.Wf := h.fit.all.wf
theorem Base.recs_le (h : Base K ns keys a l p n s z H) : s.recs.length ≤ keys.length := KW.recs_le h.wf h.fit.keys
theorem Base.log_le (h : Base K ns keys a l p n s z H) : s.log.length ≤ 8 * n := Nat.le_trans (Nat.le_add_right _ _) h.fit.mu
theorem Base.last0 (h : Base K ns keys a l p n s z H) : 0 ≤ s.last := h.fit.all.last0
/-- keys = _law_keys(script, 20); house = House() -/
theorem law_begin {tw : TS} {D : Ends} {σ : L2.St} {i1 i2 : Nat} (h0 : σ[0]? = some (some (.ref a))) (hs : Scr K H a ns) (k : ∀ l p z H2, Base K ns (lawKeys ns 20) a l p 0 HS.new z H2 → tw D ((σ.set i1 (some (.ref l))).set i2 (some (.ref p))) H2) :
    tSeq (tAsg (tCall (sp_l_keys K) [] E0 (tCons (tVar 0) (tCons (tC (.int 20)) tNil))) (gName i1)) (tSeq (tAsg (tMake (clsHouse K) (sp_h_init K) [] E0 tNil) (gName i2)) tw) D σ H := by
  refine ⟨_, h0, a, ns, 20, rfl, hs, by decide, fun H1 l e1 hl0 hl1 => ?_⟩
  refine seq_new fun p z H2 hh2 k2 => ?_
  have e2 : ∀ {b : Addr} {o : HO}, H1 b = some o → H2 b = some o ∧ b ∉ z.fp p := fun {b o} hb => ⟨k2.kp b o hb (by simp), fun hm => (k2.fr b hm).elim (by simp) fun q => by rw [hb] at q; cases q⟩
  refine k l p z H2 ⟨hh2, ?_, ⟨(e2 hl1).1, (e2 hl1).2⟩, fit_new _, rfl, rfl⟩
  refine ⟨?_, hs.2⟩
  rcases (hs.ex e1).1 with ⟨o, h⟩ | h
  · exact .inl ⟨o, (e2 h).1, (e2 h).2⟩
  · exact .inr h
variable {σ : L2.St} {te ta tb tm : TE} {E : XK} {D : Ends} {tw : TS}
/-- _law_drive(script, at, house, keys, many) -/
theorem drive_call {tat tk th : TE} {at_ : Int} {m : Nat} {Q : VK} (h : Base K ns keys a l p n s z H) (h0 : 0 < keys.length) (h64 : keys.length < 64) (hk : ∀ x ∈ keys, isKey x = true) (ha : Ev te σ H (.ref a)) (hat : Ev tat σ H (.int at_)) (hth : Ev th σ H (.ref p)) (htk : Ev tk σ H (.ref l)) (hm : Ev tm σ H (.int (m : Nat))) (hat0 : 0 ≤ at_) (hnm : n + m ≤ 4000)
    (q : ∀ r z' H', Base K ns keys a l p (n + m) (driven ns at_ keys s m) z' H' → Keep (z.fp p) (z'.fp p) H H' → H r = none → r ∉ z'.fp p → LsAt RowDV H' r (drivenR ns at_ keys s m) → Q (.ref r) H') :
    tCall (sp_l_drive K) [] E (tCons te (tCons tat (tCons th (tCons tk (tCons tm tNil))))) σ H Q := by
  refine (ea_cons ha (ea_cons hat (ea_cons hth (ea_cons htk (ea_cons hm ea_nil))))) H (Ex.refl H) _ fun H1 e1 => ?_
  have h1 := h.ex e1
  refine ⟨a, ns, at_, p, s, z, l, keys, m, n, rfl, h1.hh, h1.scr, hat0, h1.keys, h0, h64, hk, h.fit, hnm, fun H2 z2 r hh2 k2 hr rf hrows => ?_⟩
  obtain ⟨d1, d2, _, _⟩ := driven_same h.fit hk h0 ns at_ m
  exact q r z2 H2 (h1.keep k2 hh2 (fit_driven h.fit hk h0 ns at_ m) (d1.trans h.old) (d2.trans h.base)) ((Keep.ex e1).trans k2) (fresh_back e1 hr) rf hrows
/-- rows of all keys -/
theorem Base.rows (h : Base K ns keys a l p n s z H) (hk : ∀ x ∈ keys, isKey x = true) (h64 : keys.length < 64) (hn : n ≤ 4000) (he : Ev te σ H (.ref p)) :
    EvLP (tMeth (clsHouse K) "rows" (sp_h_rows K) [.non] E te (tCons (tC (.str "/")) (tCons (tC (.str "zzzzzzzzzzzz")) tNil))) σ H RowV (inRows s.recs) := by
  have h1 := evp_rows (K := K) (E := E) (a := "/") (b := "zzzzzzzzzzzz") (ta := tC (.str "/")) (tb := tC (.str "zzzzzzzzzzzz")) he h.hh ev_c ev_c key_lo key_hi h.wf (by have := h.log_le; rw [h.old]; simp; omega) (by have := h.recs_le; omega)
  rw [rows_all fun k hk' => hk k (h.fit.keys k hk')] at h1
  exact h1
theorem Base.changes (h : Base K ns keys a l p n s z H) (hk : ∀ x ∈ keys, isKey x = true) (hn : n ≤ 4000) {i : Int} (he : Ev te σ H (.ref p)) (hi : Ev tb σ H (.int i)) (h1 : 1 ≤ i) :
    EvLP (tMeth (clsHouse K) "changes" (sp_h_changes K) [] E te (tCons (tC (.str "/")) (tCons (tC (.str "zzzzzzzzzzzz")) (tCons tb tNil)))) σ H EvV (s.log.filter fun e => decide (i ≤ e.num)) := fun H1 e1 Q q =>
  meth_call (he.mono e1) (h.hh.ex e1) (by decide +kernel) (ea_cons ev_c (ea_cons ev_c (ea_cons (hi.mono e1) ea_nil))) fun H2 e2 => ⟨p, s, z, _, _, i, rfl, h.hh.ex (e1.trans e2), key_lo, key_hi, by have := h.log_le; omega, fun H3 e3 => ⟨fun z => by omega, fun _ z => by rw [h.base] at z; omega, fun _ _ r hr hl => by
    rw [since_all fun e he => hk _ (h.fit.logk e he)] at hl
    exact q r H3 (fresh_back e2 hr) (e2.trans e3) hl⟩⟩
end
end KW

/-! records that tell the same -/
namespace KW
open PySem PySem.Spec PyProof.Rows L2 Evl
def SameR (rs qs : Recs) : Prop := ∀ k, lookR rs k = lookR qs k
theorem SameR.symm {rs qs : Recs} (h : SameR rs qs) : SameR qs rs := fun k => (h k).symm
theorem same_has {rs qs : Recs} (h : SameR rs qs) (k : Str) : hasR rs k = hasR qs k := by
  unfold hasR
  rw [h k]
theorem same_change {rs qs : Recs} (h : SameR rs qs) (e : Evt) : SameR (changeR rs e) (changeR qs e) := fun k => by
  rw [changeR_look, changeR_look, h k]
  have hn : ∀ j v l, newRec rs e.num j v l = newRec qs e.num j v l := fun j v l => by
    unfold newRec
    rw [h j]
  obtain ⟨n, d⟩ := e
  cases d with
  | put j v l =>
    show (if k = j then some (newRec rs n j v l) else lookR qs k) = if k = j then some (newRec qs n j v l) else lookR qs k
    rw [show newRec rs n j v l = newRec qs n j v l from hn j v l]
  | drop j => rfl
theorem same_foldE : ∀ (es : List Evt) {rs qs : Recs}, SameR rs qs → SameR (es.foldl changeR rs) (es.foldl changeR qs)
  | [], _, _, h => h
  | e :: r, _, _, h => same_foldE r (same_change h e)
theorem same_fold (n : Int) : ∀ (ds : List Deed) {rs qs : Recs}, SameR rs qs → SameR (ds.foldl (fun rs d => changeR rs ⟨n, d⟩) rs) (ds.foldl (fun rs d => changeR rs ⟨n, d⟩) qs)
  | [], _, _, h => h
  | d :: r, _, _, h => same_fold n r (same_change h ⟨n, d⟩)
theorem same_real {rs qs : Recs} (h : SameR rs qs) (ds : List Deed) : realD rs ds = realD qs ds := List.filter_congr fun d _ => by rw [same_has h]
theorem same_holds {rs qs : Recs} (h : SameR rs qs) : ∀ c, holdsC rs c = holdsC qs c
  | .value k n => by unfold holdsC; rw [h k]
  | .changed k n => by unfold holdsC; rw [h k]
  | .version k n => by unfold holdsC; rw [h k]
  | .less k n => by unfold holdsC; rw [h k]
  | .neg c => by
    unfold holdsC
    rw [same_holds h c]
theorem same_keys {rs qs : Recs} (h : SameR rs qs) (k : Str) : k ∈ keysA rs ↔ k ∈ keysA qs := by
  rw [← lookA_some, ← lookA_some]
  rw [show lookA rs k = lookA qs k from h k]
theorem same_rows {rs qs : Recs} (h : SameR rs qs) (n1 : (keysA rs).Nodup) (n2 : (keysA qs).Nodup) : inRows rs = inRows qs :=
  inRows_congr ((List.perm_ext_iff_of_nodup n1 n2).mpr fun k => same_keys h k) fun k _ => h k
theorem inRows_keys (rs : Recs) : keysA (inRows rs) = sortS (keysA rs) := by
  show ((sortS (keysA rs)).map _).map _ = _
  rw [List.map_map]
  exact List.map_id _
theorem inRows_nodup {rs : Recs} (h : (keysA rs).Nodup) : (keysA (inRows rs)).Nodup := by
  rw [inRows_keys]
  exact nodup_sortS h
theorem inRows_same {rs : Recs} (h : (keysA rs).Nodup) : SameR (inRows rs) rs := fun k => by
  by_cases hk : k ∈ keysA rs
  · obtain ⟨r, hr⟩ := Option.isSome_iff_exists.mp (lookA_some.mpr hk)
    have hm : (k, r) ∈ inRows rs := List.mem_map.mpr ⟨k, mem_sortS.mpr hk, by
      unfold getR
      rw [show lookR rs k = some r from hr]
      rfl⟩
    rw [show lookR (inRows rs) k = some r from lookA_of_mem (inRows_nodup h) hm, show lookR rs k = some r from hr]
  · rw [show lookR rs k = none from lookA_none.mpr hk]
    refine lookA_none.mpr ?_
    rw [inRows_keys, mem_sortS]
    exact hk
/-- dict(rows) -/
theorem fold_put : ∀ (rows acc : Recs), (keysA (acc ++ rows)).Nodup → rows.foldl (fun acc p => putA acc p.1 p.2) acc = acc ++ rows
  | [], acc, _ => by simp
  | p :: r, acc, h => by
    rw [List.foldl_cons, putA_new, fold_put r]
    · simp
    · simpa using h
    · refine lookA_none.mpr fun hm => ?_
      unfold keysA at h
      rw [List.map_append, List.nodup_append] at h
      exact h.2.2 p.1 hm p.1 (by simp) rfl
theorem dict_pairs {H : Hp} : ∀ {es : List (Key × V)} {rs : Recs} (more : List (Key × V)) (rows : Recs), Paired (fun (e : Key × V) (p : Str × Rec) => e.1 = Sum.inr p.1 ∧ RecV H e.2 p.2) es rs → Paired (fun (e : Key × V) (p : Str × Rec) => e.1 = Sum.inr p.1 ∧ RecV H e.2 p.2) more rows →
    Paired (fun (e : Key × V) (p : Str × Rec) => e.1 = Sum.inr p.1 ∧ RecV H e.2 p.2) (mergeK es more) (rows.foldl (fun acc p => putA acc p.1 p.2) rs)
  | _, _, _, _, h, .nil => h
  | es, rs, _, _, h, .cons (a := a) (b := b) (l₁ := l₁) (l₂ := l₂) r t => by
    rw [List.foldl_cons]
    show Paired _ (mergeK (putK es a.1 a.2) l₁) _
    rw [r.1]
    exact dict_pairs l₁ l₂ (put_of (f := fun k : Str => (Sum.inr k : Key)) (R := RecV H) inr_inj h b.1 r.2) t
theorem row_refs {K : PySem.W.Frag} {H : Hp} : ∀ {ws : List V} {rows : Recs}, Paired (RowV H) ws rows → ∃ (ps : List Addr) (kvs : List (Key × V)), ws = ps.map V.ref ∧ Paired (fun p kv => SqT K H p [kV kv.1, kv.2]) ps kvs ∧ Paired (fun (e : Key × V) (p : Str × Rec) => e.1 = Sum.inr p.1 ∧ RecV H e.2 p.2) kvs rows
  | _, _, .nil => ⟨[], [], rfl, .nil, .nil⟩
  | _, _, .cons r t => by
    obtain ⟨ps, kvs, h1, h2, h3⟩ := row_refs t
    obtain ⟨w, ⟨a, rfl, ha⟩, hw⟩ := r
    exact ⟨a :: ps, (Sum.inr _, w) :: kvs, by rw [h1]; rfl, .cons (st_of ha) h2, .cons ⟨rfl, hw⟩ h3⟩
theorem evp_dictRows {K : PySem.W.Frag} {σ : L2.St} {H : Hp} {te : TE} {rows : Recs} (h : EvLP te σ H RowV rows) (nd : (keysA rows).Nodup) : EvP (tCB (rDictP K) (tCons te tNil)) σ H (fun H' v => ∃ d, v = .ref d ∧ H d = none ∧ RecsAt H' d rows) := fun H1 e1 Q q =>
  h H1 e1 _ fun l H2 hl e2 ⟨ws, l1, l2⟩ => by
    obtain ⟨ps, kvs, w1, w2, w3⟩ := row_refs (K := K) l2
    refine ⟨l, ps, kvs, rfl, by rw [← w1]; exact sq_of l1, w2, fun d hd => q _ _ (e2.trans (Ex.new hd)) ⟨d, rfl, fresh_back (e1.trans e2) hd, _, upd_same, ?_⟩⟩
    have h4 := dict_pairs kvs rows .nil w3
    rw [fold_put rows [] (by simpa using nd), List.nil_append] at h4
    exact pr_mono h4 fun _ _ z => ⟨z.1, RecV.kt (Ex.kt (Ex.new hd)) z.2⟩
/-- a method's call, the arguments known by what is true of them -/
theorem meth_callP {K : PySem.W.Frag} {σ : L2.St} {H : Hp} {te : TE} {ta : TA} {sp : Sp} {dvs : List V} {m : Str} {E : XK} {Q : VK} {p : Addr} {s : HS} {z : HCell} {R : Hp → List V → Prop} (he : Ev te σ H (.ref p)) (hh : HouseAt (clsHouse K) H p s z) (hm : m ∈ houseMeths)
    (h : EvAP ta σ H R) (k : ∀ vs H1, Ex H H1 → R H1 vs → sp (.ref p :: (vs ++ dvs)) H1 Q E) : tMeth (clsHouse K) m sp dvs E te ta σ H Q :=
  he H (Ex.refl H) _ fun H1 e1 => by
    obtain ⟨dx, ho⟩ := (hh.ex e1).ob
    exact ⟨p, dx, _, rfl, ho, hf_meth _ _ _ _ _ _ _ _ _ _ hm, h H1 e1 _ fun vs H2 e2 hr => k vs H2 (e1.trans e2) hr⟩
/-- the changes behind a number -/
theorem log_new {s : HS} (w : s.Wf) (ds : List Deed) : (s.write ds).log.filter (fun e => decide (s.last + 1 ≤ e.num)) = (realD s.recs ds).map fun d => ⟨s.last + 1, d⟩ := by
  rw [write_log, List.filter_append]
  rw [List.filter_eq_nil_iff.mpr fun e he => by
    have := (w.bnd e he).2
    simp
    omega]
  rw [List.nil_append]
  refine List.filter_eq_self.mpr fun e he => ?_
  obtain ⟨d, _, rfl⟩ := List.mem_map.mp he
  exact decide_eq_true (Int.le_refl _)
end KW

/-! a chain of three comparisons, as a test -/
namespace KW
open PySem PySem.Spec PyProof.Rows L2 Evl
def tChain3 (r1 r2 r3 : R2) (ta tb tc td : TE) : TE := fun σ H Q => ta σ H fun x H1 => tb σ H1 fun y H2 => r1 x y H2 fun z H3 => ∃ k, z = .bl k ∧
  (if k = true then tc σ H3 fun w H4 => r2 y w H4 fun z' H5 => ∃ k', z' = .bl k' ∧ (if k' = true then td σ H5 fun u H6 => r3 w u H6 Q else Q (.bl false) H5) else Q (.bl false) H3)
section
variable {X : Cx} {a b c d : Expr} {ta tb tc td : TE} {pos : Pos}
theorem pt_chain3 {o1 o2 o3 : CmpOp} {r1 r2 r3 : R2} (h1 : OpR X (compareOp o1) r1) (h2 : OpR X (compareOp o2) r2) (h3 : OpR X (compareOp o3) r3) (ha : PE X a ta) (hb : PE X b tb) (hc : PE X c tc) (hd : PE X d td)
    (hm : lastMarks [o1, o2, o3] [b, c, d] = false := by with_unfolding_all rfl) : PT X (.Compare a [o1, o2, o3] [b, c, d] pos) (tTest (tChain3 r1 r2 r3 ta tb tc td)) :=
  ⟨fun pins s σ H Q I h => isTrue_chain (thn (ha.run pins s σ H _ I h) fun v s1 ⟨x, H1, I1, e1, q1⟩ => test_link (thn (hb.run pins s1 σ H1 _ I1 q1) fun u s2 ⟨y, H2, I2, e2, q2⟩ =>
    thn (h1 pins s2 σ H2 x y v u _ I2 e1 e2 q2) fun g s3 ⟨z, H3, I3, e3, k, ek, q3⟩ => by
      subst ek
      cases e3
      refine wpAny_truthy_bool ?_
      cases k with
      | false =>
        obtain ⟨k', e', q'⟩ := q3
        cases e'
        exact ite_ff ⟨H3, I3, q'⟩
      | true =>
        refine ite_tt (test_link (thn (hc.run pins s3 σ H3 _ I3 q3) fun w s4 ⟨y', H4, I4, e4, q4⟩ => thn (h2 pins s4 σ H4 y y' u w _ I4 e2 e4 q4) fun g' s5 ⟨z', H5, I5, e5, k', ek', q5⟩ => ?_))
        subst ek'
        cases e5
        refine wpAny_truthy_bool ?_
        cases k' with
        | false =>
          obtain ⟨k2, e', q'⟩ := q5
          cases e'
          exact ite_ff ⟨H5, I5, q'⟩
        | true =>
          refine ite_tt (test_last (thn (hd.run pins s5 σ H5 _ I5 q5) fun w' s6 ⟨y2, H6, I6, e6, q6⟩ => thn (h3 pins s6 σ H6 y' y2 w w' _ I6 e4 e6 q6) fun g2 s7 ⟨z2, H7, I7, e7, k3, ek3, q7⟩ => ?_))
          subst ek3
          cases e7
          exact wpAny_truthy_bool ⟨H7, I7, q7⟩)) hm⟩
variable {σ : L2.St} {H : Hp}
theorem ev_chain3 {i j k l : Int} (h1 : Ev ta σ H (.int i)) (h2 : Ev tb σ H (.int j)) (h3 : Ev tc σ H (.int k)) (h4 : Ev td σ H (.int l)) : Ev (tChain3 rLeI rLeI rLeI ta tb tc td) σ H (.bl (decide (i ≤ j) && (decide (j ≤ k) && decide (k ≤ l)))) := fun H1 e Q q =>
  h1 H1 e _ fun H2 e2 => h2 H2 (e.trans e2) _ fun H3 e3 => ⟨i, j, rfl, rfl, decide (i ≤ j), rfl, by
    by_cases c1 : i ≤ j
    · rw [if_pos (decide_eq_true c1)]
      refine h3 H3 ((e.trans e2).trans e3) _ fun H4 e4 => ⟨j, k, rfl, rfl, decide (j ≤ k), rfl, ?_⟩
      by_cases c2 : j ≤ k
      · rw [if_pos (decide_eq_true c2)]
        refine h4 H4 (((e.trans e2).trans e3).trans e4) _ fun H5 e5 => ⟨k, l, rfl, rfl, ?_⟩
        rw [decide_eq_true c1, decide_eq_true c2, Bool.true_and, Bool.true_and] at q
        exact q H5 (((e2.trans e3).trans e4).trans e5)
      · rw [if_neg (by simp [c2])]
        rw [decide_eq_false c2, Bool.false_and, Bool.and_false] at q
        exact q H4 ((e2.trans e3).trans e4)
    · rw [if_neg (by simp [c1])]
      rw [decide_eq_false c1, Bool.false_and] at q
      exact q H3 (e2.trans e3)⟩
end
end KW

/-! the house at a number -/
namespace KW
open PySem PySem.Spec PyProof.Rows L2 Evl
def upTo (n : Int) (es : List Evt) : List Evt := es.filter fun e => decide (e.num ≤ n)
theorem at_fold {s : HS} (w : s.Wf) (n : Int) : s.at n = (upTo n s.log).foldl changeR s.old := by
  unfold HS.at
  by_cases h : n = s.last
  · rw [if_pos h, w.eq]
    unfold upTo
    rw [List.filter_eq_self.mpr fun e he => by
      have := (w.bnd e he).2
      rw [h]
      exact decide_eq_true this]
  · rw [if_neg h]
    rfl
theorem at_nodup {s : HS} (w : s.Wf) (n : Int) : (keysA (s.at n)).Nodup := by
  rw [at_fold w]
  exact foldR_nodup _ w.ndo
theorem foldR_keysIn {keys : List Str} : ∀ (es : List Evt) {rs : Recs}, (∀ k ∈ keysA rs, k ∈ keys) → (∀ e ∈ es, e.deed.key ∈ keys) → ∀ k ∈ keysA (es.foldl changeR rs), k ∈ keys
  | [], _, h, _ => h
  | e :: r, rs, h, he => foldR_keysIn r (keysIn_change h e (he e List.mem_cons_self)) fun e' h' => he e' (List.mem_cons_of_mem _ h')
theorem at_keysIn {s : HS} (w : s.Wf) {keys : List Str} (hl : s.logIn keys) (ho : ∀ k ∈ keysA s.old, k ∈ keys) (n : Int) : ∀ k ∈ keysA (s.at n), k ∈ keys := by
  rw [at_fold w]
  exact foldR_keysIn _ ho fun e he => hl e (List.mem_filter.mp he).1
theorem keys_le {rs : Recs} {keys : List Str} (nd : (keysA rs).Nodup) (h : ∀ k ∈ keysA rs, k ∈ keys) : rs.length ≤ keys.length := by
  have h1 : (keysA rs).length ≤ keys.length := nd.length_le_of_subset h
  unfold keysA at h1
  rw [List.length_map] at h1
  exact h1
section
variable {K : PySem.W.Frag} {σ : L2.St} {H : Hp} {ta tb te td tn : TE} {p : Addr} {s : HS} {z : HCell} {E : XK} {k : Str} {ns : List Int} {keys : List Str} {a l : Addr} {n : Nat}
theorem evp_rowsN {x y : Str} {i : Int} (he : Ev te σ H (.ref p)) (hh : HouseAt (clsHouse K) H p s z) (h1 : Ev ta σ H (.str x)) (h2 : Ev tb σ H (.str y)) (hn : Ev tn σ H (.int i)) (ka : isKey x = true) (kb : isKey y = true) (wf : s.Wf) (hs : s.log.length + s.old.length ≤ 50000) (hr : (s.at i).length < 64) (ok : 0 ≤ i ∧ i ≤ s.last ∧ s.base ≤ i) :
    EvLP (tMeth (clsHouse K) "rows" (sp_h_rows K) [] E te (tCons ta (tCons tb (tCons tn tNil)))) σ H RowV (spanRows (s.at i) x y) := fun H1 e1 Q q =>
  meth_call (he.mono e1) (hh.ex e1) (by decide +kernel) (ea_cons (h1.mono e1) (ea_cons (h2.mono e1) (ea_cons (hn.mono e1) ea_nil))) fun H2 e2 => ⟨p, s, z, x, y, some i, rfl, hh.ex (e1.trans e2), ka, kb, wf.ok, hs, at_nodup wf i, hr,
    fun H3 e3 => ⟨fun ⟨j, hj, hb⟩ => by cases hj; omega, fun ⟨j, hj, _, _, hb⟩ => by cases hj; omega, fun _ r hr hv => q r H3 (fresh_back e2 hr) (e2.trans e3) hv⟩⟩
theorem evp_lookN {i : Int} (he : Ev te σ H (.ref p)) (hh : HouseAt (clsHouse K) H p s z) (h1 : Ev ta σ H (.str k)) (hn : Ev tn σ H (.int i)) (hk : isKey k = true) (wf : s.Wf) (hs : s.log.length + s.old.length ≤ 50000) (ok : 0 ≤ i ∧ i ≤ s.last ∧ s.base ≤ i) :
    EvP (tMeth (clsHouse K) "look" (sp_h_look K) [] E te (tCons ta (tCons tn tNil))) σ H (fun H v => recOV H v (lookR (s.at i) k)) := fun H1 e1 Q q =>
  meth_call (he.mono e1) (hh.ex e1) (by decide +kernel) (ea_cons (h1.mono e1) (ea_cons (hn.mono e1) ea_nil)) fun H2 e2 => ⟨p, s, z, k, some i, rfl, hh.ex (e1.trans e2), hk, wf.ok, hs,
    fun H3 e3 => ⟨fun ⟨j, hj, hb⟩ => by cases hj; omega, fun ⟨j, hj, _, _, hb⟩ => by cases hj; omega, fun _ v hv => q v H3 (e2.trans e3) hv⟩⟩
theorem Base.size (h : Base K ns keys a l p n s z H) (hn : n ≤ 4000) : s.log.length + s.old.length ≤ 50000 := by
  have := h.log_le
  rw [h.old]
  simp
  omega
theorem Base.at_keys (h : Base K ns keys a l p n s z H) (i : Int) : ∀ k ∈ keysA (s.at i), k ∈ keys := at_keysIn h.wf h.fit.logk (by rw [h.old]; intro k hk; cases hk) i
theorem Base.at_le (h : Base K ns keys a l p n s z H) (i : Int) : (s.at i).length ≤ keys.length := keys_le (at_nodup h.wf i) (h.at_keys i)
theorem Base.rowsN (h : Base K ns keys a l p n s z H) (h64 : keys.length < 64) (hn : n ≤ 4000) {x y : Str} {i : Int} (he : Ev te σ H (.ref p)) (h1 : Ev ta σ H (.str x)) (h2 : Ev tb σ H (.str y)) (hi : Ev tn σ H (.int i)) (ka : isKey x = true) (kb : isKey y = true) (ok : 0 ≤ i ∧ i ≤ s.last) :
    EvLP (tMeth (clsHouse K) "rows" (sp_h_rows K) [] E te (tCons ta (tCons tb (tCons tn tNil)))) σ H RowV (spanRows (s.at i) x y) :=
  evp_rowsN he h.hh h1 h2 hi ka kb h.wf (h.size hn) (by have := h.at_le i; omega) ⟨ok.1, ok.2, by rw [h.base]; exact ok.1⟩
theorem Base.lookN (h : Base K ns keys a l p n s z H) (hn : n ≤ 4000) {i : Int} (he : Ev te σ H (.ref p)) (h1 : Ev ta σ H (.str k)) (hi : Ev tn σ H (.int i)) (hk : isKey k = true) (ok : 0 ≤ i ∧ i ≤ s.last) :
    EvP (tMeth (clsHouse K) "look" (sp_h_look K) [] E te (tCons ta (tCons tn tNil))) σ H (fun H v => recOV H v (lookR (s.at i) k)) := evp_lookN he h.hh h1 hi hk h.wf (h.size hn) ⟨ok.1, ok.2, by rw [h.base]; exact ok.1⟩
end
end KW

/-! statements that the laws share -/
namespace KW
open PySem PySem.Spec PyProof.Rows L2 Evl
section
variable {α : Type} {K : PySem.W.Frag} {σ : L2.St} {H : Hp} {ta tb te tl : TE} {D : Ends} {tu tw : TS} {g : TG} {a l : Addr} {ns : List Int} {keys : List Str}
/-- [x, y][int(b)] -/
theorem ev_pickI {x y : Int} {b : Bool} (h : ∀ H1, Ex H H1 → Ev te σ H1 (.bl b)) : Ev (tOp (rIxL K) (tLst (tCons (tC (.int x)) (tCons (tC (.int y)) tNil))) (tCB rInt1 (tCons te tNil))) σ H (.int (if b = true then y else x)) := by
  refine ev_ixN (xs := [.int x, .int y]) (i := if b = true then 1 else 0) (el_lst (ea_cons ev_c (ea_cons ev_c ea_nil)) (show 2 ≤ 100000 by decide)) (fun H4 e4 H5 e5 Q q => (h H4 e4) H5 e5 _ fun H6 e6 => .inr ⟨_, rfl, q H6 e6⟩) ?_
  cases b with
  | true => rfl
  | false => rfl
/-- how many deeds: fewer than 25, now and then fewer than m -/
def manyOf (ns : List Int) (m : Int) : Int := mixed ns 0 (if decide (mixed ns 90007 8 = 0) = true then m else 25)
theorem many_nn (ns : List Int) {m : Int} (hm : 25 ≤ m) : 0 ≤ manyOf ns m := mixed_nn _ _ (by split <;> omega)
theorem many_lt (ns : List Int) {m : Int} (hm : 25 ≤ m) : manyOf ns m < m := by
  unfold manyOf
  split
  · exact mixed_lt _ _ (by omega)
  · have := mixed_lt ns 0 (m := 25) (by decide)
    omega
theorem ev_many {m : Int} (hm : 25 ≤ m) (ha : ∀ H1, Ex H H1 → Ev ta σ H1 (.ref a)) (hs : Scr K H a ns) : Ev (tCall (sp_l_mixed K) [] E0 (tCons ta (tCons (tC (.int 0)) (tCons (tOp (rIxL K) (tLst (tCons (tC (.int 25)) (tCons (tC (.int m)) tNil))) (tCB rInt1 (tCons (tOp rEq (tCall (sp_l_mixed K) [] E0 (tCons ta (tCons (tC (.int 90007)) (tCons (tC (.int 8)) tNil)))) (tC (.int 0))) tNil))) tNil)))) σ H (.int (manyOf ns m)) :=
  ev_mx (ha H (Ex.refl H)) ev_c (ev_pickI fun H1 e1 => ev_eqI (ev_mx (ha H1 e1) ev_c ev_c (hs.ex e1) (by decide) (by decide)) ev_c) hs (by decide) (by split <;> omega)
/-- first, last = _law_span(script, at, keys) -/
theorem span_stmt {tk tat : TE} {i j : Nat} {k : Int} (ha : Ev ta σ H (.ref a)) (hat : Ev tat σ H (.int k)) (hk : Ev tk σ H (.ref l)) (hs : Scr K H a ns) (h0 : 0 ≤ k) (hl : H l = some (.lst (keys.map V.str))) (hp : 0 < keys.length) (hkk : ∀ x ∈ keys, isKey x = true)
    (q : ∀ H', Ex H H' → tw D ((σ.set i (some (.str (lawSpan ns k keys).1))).set j (some (.str (lawSpan ns k keys).2))) H') :
    tSeq (tAsg (tCall (sp_l_span K) [] E0 (tCons ta (tCons tat (tCons tk tNil)))) (gTup K 2 (gCons (gName i) (gCons (gName j) gNil)))) tw D σ H :=
  ha H (Ex.refl H) _ fun H1 e1 => hat H1 e1 _ fun H2 e2 => hk H2 (e1.trans e2) _ fun H3 e3 => ⟨a, ns, k, l, keys, rfl, hs.ex ((e1.trans e2).trans e3), h0, ((e1.trans e2).trans e3) _ _ hl, hp, hkk, fun H4 t e4 ht => ⟨t, _, rfl, st_of ht, rfl, _, _, rfl, _, _, rfl, rfl, q H4 (((e1.trans e2).trans e3).trans e4)⟩⟩
/-- a loop over a list whose turns change nothing but the slots -/
theorem for_pure {P : Hp → V → α → Prop} {ys : List α} (st : ∀ H H' v y, Kt H H' → P H v y → P H' v y) (h : EvLP tl σ H P ys) (S : Nat → L2.St → Prop) (h0 : S 0 σ)
    (hs : ∀ B i x y σ' H', Ex H B → Ex B H' → S i σ' → ys[i]? = some y → P H' x y → g x σ' H' fun σ2 H2 => tu { D with nx := fun σ3 H3 => S (i + 1) σ3 ∧ Ex B H3, ct := fun σ3 H3 => S (i + 1) σ3 ∧ Ex B H3, bk := D.nx } σ2 H2) (hd : ∀ σ' H', S ys.length σ' → Ex H H' → D.nx σ' H') : tFor (iList K tl) g tu D σ H :=
  h H (Ex.refl H) _ fun r H1 hr e1 ⟨ws, w1, w2⟩ => by
    refine ⟨r, rfl, ⟨ws, sq_of w1⟩, for_list (K := K) (a := r) (xs := ws) (fun i σ' H' => S i σ' ∧ Ex H1 H') ⟨h0, Ex.refl _⟩ (fun i σ' H' _ ⟨_, e⟩ => sq_of (e _ _ w1)) (fun i x σ' H' hx ⟨h1, e⟩ => ?_) fun σ' H' ⟨h1, e⟩ => ?_⟩
    · obtain ⟨y, hy, hp⟩ := pr_get w2 hx
      exact hs H1 i x y σ' H' e1 e h1 hy (st _ _ _ _ (Ex.kt e) hp)
    · rw [pr_len w2] at h1
      exact hd σ' H' h1 (e1.trans e)
end
end KW

/-! a house beside the script and the keys: its methods -/
namespace KW
open PySem PySem.Spec PyProof.Rows L2 Evl
theorem inV_int (i : Int) (ls : List Int) : inV (.int i) (ls.map V.int) = decide (i ∈ ls) := by
  unfold inV
  rw [List.any_map]
  induction ls with
  | nil => rfl
  | cons a r ih =>
    rw [List.any_cons, ih]
    have e : ((fun y => eqV y (V.int i)) ∘ V.int) a = decide (i = a) := by
      show (a == i) = decide (i = a)
      by_cases h : a = i
      · simp [h]
      · have h' : ¬ i = a := fun z => h z.symm
        simp [h, h']
    rw [e]
    by_cases h : i = a
    · simp [h]
    · simp [h]
theorem eqvAll_ints : ∀ xs ys : List Int, PyData.eqvAll (xs.map PyData.int) (ys.map PyData.int) = decide (xs = ys)
  | [], [] => rfl
  | [], _ :: _ => by simp [PyData.eqvAll]
  | _ :: _, [] => by simp [PyData.eqvAll]
  | x :: xs, y :: ys => by
    rw [List.map_cons, List.map_cons]
    show (PyData.eqv (.int x) (.int y) && PyData.eqvAll _ _) = _
    rw [eqvAll_ints xs ys]
    show ((x == y) && decide (xs = ys)) = _
    by_cases h : x = y
    · simp [h]
    · simp [h]
theorem eqvAll_strs : ∀ xs ys : List Str, PyData.eqvAll (xs.map PyData.str) (ys.map PyData.str) = decide (xs = ys)
  | [], [] => rfl
  | [], _ :: _ => by simp [PyData.eqvAll]
  | _ :: _, [] => by simp [PyData.eqvAll]
  | x :: xs, y :: ys => by
    rw [List.map_cons, List.map_cons]
    show (PyData.eqv (.str x) (.str y) && PyData.eqvAll _ _) = _
    rw [eqvAll_strs xs ys]
    show ((x == y) && decide (xs = ys)) = _
    by_cases h : x = y
    · simp [h]
    · simp [h]
/-- only one lease is due -/
theorem fold_one (goal lease w : Int) : ∀ (ps : List (Int × Int)) (s : HS), (ps.map (·.2)).Nodup → (∀ p ∈ ps, p.1 ≤ goal ↔ p.2 = lease) → (∀ p ∈ ps, p.2 = lease → p.1 = w) →
    ps.foldl (HS.step goal) s = if lease ∈ ps.map (·.2) then ({ s with now := w } : HS).endL lease else s
  | [], s, _, _, _ => rfl
  | p :: r, s, nd, h1, h2 => by
    rw [List.map_cons] at nd
    obtain ⟨n1, n2⟩ := List.nodup_cons.mp nd
    rw [List.foldl_cons]
    by_cases e : p.2 = lease
    · have hp := (h1 p List.mem_cons_self).mpr e
      rw [step_yes hp, e, h2 p List.mem_cons_self e]
      rw [fold_one goal lease w r _ n2 (fun q hq => h1 q (List.mem_cons_of_mem _ hq)) (fun q hq => h2 q (List.mem_cons_of_mem _ hq))]
      rw [if_neg (by rw [← e]; exact n1), if_pos (by simp [e])]
    · have hp : ¬ p.1 ≤ goal := fun z => e ((h1 p List.mem_cons_self).mp z)
      rw [step_no hp, fold_one goal lease w r _ n2 (fun q hq => h1 q (List.mem_cons_of_mem _ hq)) (fun q hq => h2 q (List.mem_cons_of_mem _ hq))]
      by_cases hm : lease ∈ r.map (·.2)
      · rw [if_pos hm, if_pos (by simp [hm])]
      · rw [if_neg hm, if_neg (by
          rw [List.map_cons, List.mem_cons]
          rintro (z | z)
          · exact e z.symm
          · exact hm z)]
theorem due_snd (s : HS) : (s.due.map (·.2)).Perm (keysA s.ends) := by
  have h4 := (due_perm s).map (·.2)
  rw [List.map_map] at h4
  exact h4
theorem endL_now (s : HS) (n l : Int) : (({ s with now := n } : HS).endL l).recs = (s.endL l).recs ∧ (({ s with now := n } : HS).endL l).log = (s.endL l).log ∧ (({ s with now := n } : HS).endL l).last = (s.endL l).last := by
  refine ⟨endL_now_recs s n l, ?_, ?_⟩
  · rw [endL_log, endL_log]
    rfl
  · show (HS.write _ _).last = (HS.write _ _).last
    rw [write_last, write_last]
    rfl
theorem endL_last (s : HS) (l : Int) : (s.endL l).last = if s.keysOf l = [] then s.last else s.last + 1 := by
  show (HS.write _ _).last = _
  rw [write_last, real_keysOf]
  by_cases h : s.keysOf l = []
  · rw [if_pos h, h]
    rfl
  · rw [if_neg h, if_neg (by simpa using h)]
section
variable {K : PySem.W.Frag} {σ : L2.St} {H : Hp} {ta tb tc te : TE} {p : Addr} {s : HS} {z : HCell} {E : XK} {ns : List Int} {keys : List Str} {a l : Addr} {n : Nat} {Q : VK}
theorem Base.act (B : Base K ns keys a l p n s z H) {d : LDeed} (ok : d.ok s) (hk : d.keysIn keys) {z' : HCell} {H' : Hp} (hh : HouseAt (clsHouse K) H' p (s.act d) z') (k : Keep (z.fp p) (z'.fp p) H H') : Base K ns keys a l p (n + 1) (s.act d) z' H' := by
  obtain ⟨w1, w2, _, _⟩ := act_same B.wf d
  exact B.keep k hh (fit_act B.fit ok hk) (w1.trans B.old) (w2.trans B.base)
theorem Base.mu (B : Base K ns keys a l p n s z H) (hn : n ≤ 4000) : s.mu ≤ 40000 := by
  have := B.fit.mu
  omega
theorem Base.small (B : Base K ns keys a l p n s z H) (hn : n ≤ 4000) : s.small 4 := by
  have h1 := B.mu hn
  unfold HS.mu at h1
  exact ⟨by omega, by omega⟩
theorem Base.small1 (B : Base K ns keys a l p n s z H) (hn : n ≤ 4000) : s.small 1 := by
  have h1 := B.mu hn
  unfold HS.mu at h1
  exact ⟨by omega, by omega⟩
theorem Base.grant (B : Base K ns keys a l p n s z H) {t : Int} (h1 : 1 ≤ t) (h2 : t ≤ 99) (hn : n ≤ 4000) (he : Ev te σ H (.ref p)) (ht : Ev ta σ H (.int t)) (q : ∀ z' H', Base K ns keys a l p (n + 1) (s.grant t) z' H' → Keep (z.fp p) (z'.fp p) H H' → Q (.int (s.granted + 1)) H') :
    tMeth (clsHouse K) "grant" (sp_h_grant K) [] E te (tCons ta tNil) σ H Q :=
  meth_call he B.hh (by decide +kernel) (ea_cons ht ea_nil) fun H1 e1 => ⟨p, s, z, t, rfl, B.hh.ex e1, h1, h2, by have := B.fit.ends; omega, fun H2 z2 hh2 k2 => q z2 H2 (B.act (d := .grant t) ⟨h1, h2⟩ trivial hh2 ((Keep.ex e1).trans k2)) ((Keep.ex e1).trans k2)⟩
theorem Base.put (B : Base K ns keys a l p n s z H) {k : Str} {v : Int} {o : Option Int} (hk : isKey k = true) (hm : k ∈ keys) (h0 : 0 ≤ v) (h1 : v ≤ 9999) (hl : leaseOk s o) (hn : n ≤ 4000) (he : Ev te σ H (.ref p)) (e1 : Ev ta σ H (.str k)) (e2 : Ev tb σ H (.int v)) (e3 : Ev tc σ H (optV o))
    (q : ∀ z' H', Base K ns keys a l p (n + 1) (s.write [.put k v o]) z' H' → Keep (z.fp p) (z'.fp p) H H' → Q (.int (s.last + 1)) H') : tMeth (clsHouse K) "put" (sp_h_put K) [] E te (tCons ta (tCons tb (tCons tc tNil))) σ H Q :=
  meth_call he B.hh (by decide +kernel) (ea_cons e1 (ea_cons e2 (ea_cons e3 ea_nil))) fun H1 x1 => ⟨p, s, z, k, v, o, rfl, B.hh.ex x1, hk, h0, h1, hl, B.small1 hn, fun H2 z2 hh2 k2 => q z2 H2 (B.act (d := .one (.put k v o)) ⟨⟨hk, h0, h1, fun i hi => (hl i hi).1⟩, hl⟩ hm hh2 ((Keep.ex x1).trans k2)) ((Keep.ex x1).trans k2)⟩
theorem Base.put2 (B : Base K ns keys a l p n s z H) {k : Str} {v : Int} (hk : isKey k = true) (hm : k ∈ keys) (h0 : 0 ≤ v) (h1 : v ≤ 9999) (hn : n ≤ 4000) (he : Ev te σ H (.ref p)) (e1 : Ev ta σ H (.str k)) (e2 : Ev tb σ H (.int v))
    (q : ∀ z' H', Base K ns keys a l p (n + 1) (s.write [.put k v none]) z' H' → Keep (z.fp p) (z'.fp p) H H' → Q (.int (s.last + 1)) H') : tMeth (clsHouse K) "put" (sp_h_put K) [.non] E te (tCons ta (tCons tb tNil)) σ H Q :=
  meth_call he B.hh (by decide +kernel) (ea_cons e1 (ea_cons e2 ea_nil)) fun H1 x1 => ⟨p, s, z, k, v, none, rfl, B.hh.ex x1, hk, h0, h1, (fun _ h => nomatch h), B.small1 hn, fun H2 z2 hh2 k2 => q z2 H2 (B.act (d := .one (.put k v none)) ⟨⟨hk, h0, h1, (fun _ h => nomatch h)⟩, (fun _ h => nomatch h)⟩ hm hh2 ((Keep.ex x1).trans k2)) ((Keep.ex x1).trans k2)⟩
theorem Base.drop (B : Base K ns keys a l p n s z H) {k : Str} (hk : isKey k = true) (hm : k ∈ keys) (hn : n ≤ 4000) (he : Ev te σ H (.ref p)) (e1 : Ev ta σ H (.str k))
    (q : ∀ z' H', Base K ns keys a l p (n + 1) (s.write [.drop k]) z' H' → Keep (z.fp p) (z'.fp p) H H' → Q (.bl (hasR s.recs k)) H') : tMeth (clsHouse K) "drop" (sp_h_drop K) [] E te (tCons ta tNil) σ H Q :=
  meth_call he B.hh (by decide +kernel) (ea_cons e1 ea_nil) fun H1 x1 => ⟨p, s, z, k, rfl, B.hh.ex x1, hk, B.small1 hn, fun H2 z2 hh2 k2 => q z2 H2 (B.act (d := .one (.drop k)) ⟨hk, (fun _ h => nomatch h)⟩ hm hh2 ((Keep.ex x1).trans k2)) ((Keep.ex x1).trans k2)⟩
theorem Base.give (B : Base K ns keys a l p n s z H) {i : Int} (hi : i ∈ keysA s.ends) (h64 : keys.length < 64) (hn : n ≤ 4000) (he : Ev te σ H (.ref p)) (e1 : Ev ta σ H (.int i))
    (q : ∀ z' H', Base K ns keys a l p (n + 1) (s.endL i) z' H' → Keep (z.fp p) (z'.fp p) H H' → Q .non H') : tMeth (clsHouse K) "give_back" (sp_h_give_back K) [] E te (tCons ta tNil) σ H Q := by
  have h1 := (B.fit.all.lw.pos i hi).1
  have h2 := B.recs_le
  exact meth_call he B.hh (by decide +kernel) (ea_cons e1 ea_nil) fun H1 x1 => ⟨p, s, z, i, rfl, B.hh.ex x1, h1, hi, by omega, B.wf, B.mu hn, fun H2 z2 hh2 k2 => q z2 H2 (B.act (d := .give i) ⟨h1, hi⟩ trivial hh2 ((Keep.ex x1).trans k2)) ((Keep.ex x1).trans k2)⟩
theorem Base.renew (B : Base K ns keys a l p n s z H) {i : Int} (hi : i ∈ keysA s.ends) (hn : n ≤ 4000) (he : Ev te σ H (.ref p)) (e1 : Ev ta σ H (.int i))
    (q : ∀ z' H', Base K ns keys a l p (n + 1) (s.renew i) z' H' → Keep (z.fp p) (z'.fp p) H H' → Q .non H') : tMeth (clsHouse K) "renew" (sp_h_renew K) [] E te (tCons ta tNil) σ H Q := by
  have h1 := (B.fit.all.lw.pos i hi).1
  exact meth_call he B.hh (by decide +kernel) (ea_cons e1 ea_nil) fun H1 x1 => ⟨p, s, z, i, rfl, B.hh.ex x1, h1, hi, by have := B.fit.ends; omega, fun H2 z2 hh2 k2 => q z2 H2 (B.act (d := .renew i) ⟨h1, hi⟩ trivial hh2 ((Keep.ex x1).trans k2)) ((Keep.ex x1).trans k2)⟩
theorem Base.wait (B : Base K ns keys a l p n s z H) {t : Int} (h1 : 1 ≤ t) (h2 : t ≤ 99) (h64 : keys.length < 64) (hn : n ≤ 4000) (he : Ev te σ H (.ref p)) (e1 : Ev ta σ H (.int t))
    (q : ∀ z' H', Base K ns keys a l p (n + 1) (s.wait t) z' H' → Keep (z.fp p) (z'.fp p) H H' → Q .non H') : tMeth (clsHouse K) "wait" (sp_h_wait K) [] E te (tCons ta tNil) σ H Q := by
  have h3 := B.recs_le
  exact meth_call he B.hh (by decide +kernel) (ea_cons e1 ea_nil) fun H1 x1 => ⟨p, s, z, t, rfl, B.hh.ex x1, h1, h2, by omega, B.wf, B.fit.all.lw, B.mu hn, by have := B.fit.ends; omega, fun H2 z2 hh2 k2 => q z2 H2 (B.act (d := .wait t) ⟨h1, h2⟩ trivial hh2 ((Keep.ex x1).trans k2)) ((Keep.ex x1).trans k2)⟩
theorem Base.left (B : Base K ns keys a l p n s z H) {i : Int} (hi : i ∈ keysA s.ends) (he : Ev te σ H (.ref p)) (e1 : Ev ta σ H (.int i)) : Ev (tMeth (clsHouse K) "left" (sp_h_left K) [] E te (tCons ta tNil)) σ H (.int (s.left i)) := fun H1 x1 Q q =>
  meth_call (he.mono x1) (B.hh.ex x1) (by decide +kernel) (ea_cons (e1.mono x1) ea_nil) fun H2 x2 => ⟨p, s, z, i, rfl, B.hh.ex (x1.trans x2), (B.fit.all.lw.pos i hi).1, hi, fun H3 x3 => q H3 (x2.trans x3)⟩
theorem Base.keysOf (B : Base K ns keys a l p n s z H) {i : Int} (hi : i ∈ keysA s.ends) (h64 : keys.length < 64) (he : Ev te σ H (.ref p)) (e1 : Ev ta σ H (.int i)) : EvL (tMeth (clsHouse K) "keys_of" (sp_h_keys_of K) [] E te (tCons ta tNil)) σ H ((s.keysOf i).map V.str) := fun H1 x1 Q q =>
  meth_call (he.mono x1) (B.hh.ex x1) (by decide +kernel) (ea_cons (e1.mono x1) ea_nil) fun H2 x2 => ⟨p, s, z, i, rfl, B.hh.ex (x1.trans x2), (B.fit.all.lw.pos i hi).1, hi, by have := B.recs_le; omega, fun H3 r x3 hr h3 => q r H3 (fresh_back x2 hr) (x2.trans x3) h3⟩
theorem Base.clock (B : Base K ns keys a l p n s z H) (he : Ev te σ H (.ref p)) : Ev (tMeth (clsHouse K) "clock" (sp_h_clock K) [] E te tNil) σ H (.int s.now) := fun H1 e1 Q q =>
  meth_call (he.mono e1) (B.hh.ex e1) (by decide +kernel) ea_nil fun H2 e2 => ⟨p, s, z, rfl, B.hh.ex (e1.trans e2), q H2 e2⟩
end
def rMin2 : List V → Hp → VK → Prop := fun xs H Q => ∃ i j, xs = [.int i, .int j] ∧ Q (.int (if j < i then j else i)) H
theorem call_max2a {X : Cx} (hc : X.calm = true) : CallR X (.builtin "max") rMax2 := call_max2 hc
theorem call_min2a {X : Cx} (hc : X.calm = true) : CallR X (.builtin "min") rMin2 := call_min2 hc
theorem ev_min2 {σ : L2.St} {H : Hp} {ta tb : TE} {i j : Int} (ha : Ev ta σ H (.int i)) (hb : Ev tb σ H (.int j)) : Ev (tCB rMin2 (tCons ta (tCons tb tNil))) σ H (.int (if j < i then j else i)) := fun H1 e Q q =>
  ha H1 e _ fun H2 e2 => hb H2 (e.trans e2) _ fun H3 e3 => ⟨i, j, rfl, q H3 (e2.trans e3)⟩
end KW

/-! things that are told, as data -/
namespace KW
open PySem PySem.Spec PyProof.Rows L2 Evl
/-- arguments by their data -/
def EvDs (K : PySem.W.Frag) (ta : TA) (σ : L2.St) (H : Hp) (ds : List PyData) : Prop := ∀ H1, Ex H H1 → ∀ Q : List V → Hp → Prop, (∀ vs H2, Ex H1 H2 → DpAll K H2 vs ds → Q vs H2) → ta σ H1 Q
/-- a list by the data of its items -/
def DL (K : PySem.W.Frag) (H : Hp) (v : V) (ds : List PyData) : Prop := ∃ l vs, v = .ref l ∧ H l = some (.lst vs) ∧ DpAll K H vs ds
section
variable {α : Type} {K : PySem.W.Frag} {σ : L2.St} {H H' : Hp} {ta tb te : TE} {tr : TA} {ds es : List PyData} {d : PyData} {v : V}
theorem DL.ex (e : Ex H H') (h : DL K H v ds) : DL K H' v ds := by
  obtain ⟨l, vs, h1, h2, h3⟩ := h
  exact ⟨l, vs, h1, e _ _ h2, dpAll_ex e h3⟩
theorem DL.dp (h : DL K H v ds) : Dp K H v (.list ds) := by
  obtain ⟨l, vs, rfl, h2, h3⟩ := h
  exact .lst (sq_of h2) h3
theorem dpAll_len : ∀ {vs : List V} {ds : List PyData}, DpAll K H vs ds → vs.length = ds.length
  | _, _, .nil => rfl
  | _, _, .cons _ t => by rw [List.length_cons, List.length_cons, dpAll_len t]
theorem dpAll_app : ∀ {vs ws : List V} {ds es : List PyData}, DpAll K H vs ds → DpAll K H ws es → DpAll K H (vs ++ ws) (ds ++ es)
  | _, _, _, _, .nil, h => h
  | _, _, _, _, .cons r t, h => .cons r (dpAll_app t h)
theorem eds_nil : EvDs K tNil σ H [] := fun H1 _ Q q => q [] H1 (Ex.refl H1) .nil
theorem eds_cons (h : EvP te σ H (fun H v => Dp K H v d)) (hr : EvDs K tr σ H ds) : EvDs K (tCons te tr) σ H (d :: ds) := fun H1 e Q q =>
  h H1 e _ fun v H2 e2 hv => hr H2 (e.trans e2) _ fun r H3 e3 hr => q _ H3 (e2.trans e3) (.cons (dp_ex e3 hv) hr)
theorem ed_lst (h : EvDs K tr σ H ds) (hl : ds.length ≤ 100000) : EvP (tLst tr) σ H (fun H v => DL K H v ds) := fun H1 e Q q =>
  h H1 e _ fun vs H2 e2 hr => ⟨sz_of (by rw [dpAll_len hr]; exact hl), fun t ht => q _ _ (e2.trans (Ex.new ht)) ⟨t, vs, rfl, upd_same, dpAll_ex (Ex.new ht) hr⟩⟩
theorem ed_tup (h : EvDs K tr σ H ds) (hl : ds.length ≤ 100000) : EvP (tTup tr) σ H (fun H v => Dp K H v (.tuple ds)) := fun H1 e Q q =>
  h H1 e _ fun vs H2 e2 hr => ⟨sz_of (by rw [dpAll_len hr]; exact hl), fun t ht => q _ _ (e2.trans (Ex.new ht)) (.tup (st_of upd_same) (dpAll_ex (Ex.new ht) hr))⟩
theorem ed_cat (ha : EvP ta σ H (fun H v => DL K H v ds)) (hb : EvP tb σ H (fun H v => DL K H v es)) (hl : ds.length + es.length ≤ 100000) : EvP (tOp rCat ta tb) σ H (fun H v => DL K H v (ds ++ es)) := fun H1 e1 Q q =>
  ha H1 e1 _ fun x H2 e2 hx => hb H2 (e1.trans e2) _ fun y H3 e3 hy => by
    obtain ⟨l, vs, rfl, h1, h2⟩ := hx.ex e3
    obtain ⟨m, ws, rfl, g1, g2⟩ := hy
    refine ⟨l, m, vs, ws, rfl, rfl, h1, g1, sz_of (by rw [dpAll_len h2, dpAll_len g2]; exact hl), fun t ht => q _ _ ((e2.trans e3).trans (Ex.new ht)) ⟨t, _, rfl, upd_same, dpAll_ex (Ex.new ht) (dpAll_app h2 g2)⟩⟩
theorem EvP.dl (h : EvP te σ H (fun H v => DL K H v ds)) : EvP te σ H (fun H v => Dp K H v (.list ds)) := EvP.imp h fun _ _ z => z.dp
theorem Ev.dpS {x : Str} (h : Ev te σ H (.str x)) : EvP te σ H (fun H v => Dp K H v (.str x)) := Ev.p h fun H1 e => .str x
theorem Ev.dpB {b : Bool} (h : Ev te σ H (.bl b)) : EvP te σ H (fun H v => Dp K H v (.bool b)) := Ev.p h fun H1 e => .bl b
theorem Ev.dpV (h : Ev te σ H v) (hv : DL K H v ds) : EvP te σ H (fun H v => DL K H v ds) := Ev.p h fun H1 e => hv.ex e
end
/-- pairs of ints -/
def encPr : Enc PrV where
  D := fun q => .tuple [.int q.1, .int q.2]
  dp := fun {K H v q} h => by
    obtain ⟨a, rfl, h⟩ := h
    exact .tup (st_of h) (.cons (.int _) (.cons (.int _) .nil))
  plain := fun _ => rfl
  depth := fun _ => by show max 0 (max 0 0) + 1 ≤ 20; decide
  kt := fun k h => TAt.kt k h
/-! ### two houses -/
section
variable {K : PySem.W.Frag} {ns : List Int} {keys : List Str} {a l p1 p2 : Addr} {n1 n2 : Nat} {s1 s2 : HS} {z1 z2 : HCell} {H H' : Hp}
def Apart (F G : List Addr) : Prop := ∀ b ∈ F, b ∉ G
theorem Apart.symm {F G : List Addr} (h : Apart F G) : Apart G F := fun b hb hc => h b hc hb
/-- the other house stays -/
theorem Base.other {F F' : List Addr} (B2 : Base K ns keys a l p2 n2 s2 z2 H) (ap : Apart (z2.fp p2) F) (hs : ScrO K F H a ns) (hl : Out F H l (.lst (keys.map V.str))) (k : Keep F F' H H') : Base K ns keys a l p2 n2 s2 z2 H' ∧ Apart (z2.fp p2) F' := by
  refine ⟨⟨B2.hh.move k.kt fun b hb o h => k.kp b o h (ap b hb), ⟨?_, B2.scr.2⟩, ⟨k.kp l _ hl.1 hl.2, B2.keys.2⟩, B2.fit, B2.old, B2.base⟩, fun b hb => ?_⟩
  · rcases B2.scr.1 with ⟨o, h⟩ | h
    · rcases hs.1 with ⟨o', h'⟩ | h'
      · exact .inl ⟨o, k.kp a _ h.1 (by
          exact h'.2), h.2⟩
      · exact .inr h'
    · exact .inr h
  · obtain ⟨o, ho⟩ := B2.hh.some hb
    exact k.out ho (ap b hb)
end
section
variable {K : PySem.W.Frag} {vs : List V} {H : Hp} {Q : VK} {E : XK}
/-- a house is made, in an expression -/
theorem make_call {σ : L2.St} (k : ∀ p z H', HouseAt (clsHouse K) H' p HS.new z → Keep [] (z.fp p) H H' → Q (.ref p) H') : tMake (clsHouse K) (sp_h_init K) [] E tNil σ H Q := by
  have := seq_new (K := K) (H := H) (σ := [none]) (E := E) (i := 0) (D := { nx := fun _ _ => True, rt := fun _ _ => True }) (tw := fun _ σ H' => ∃ v, σ[0]? = some (some v) ∧ Q v H') fun p z H' h1 h2 => ⟨.ref p, rfl, k p z H' h1 h2⟩
  intro x dx nx ndx ne
  obtain ⟨p, dx', h1, h2, h3⟩ := this x dx nx ndx ne
  refine ⟨p, dx', h1, h2, fun H' z hh kk => ?_⟩
  obtain ⟨h4, v, h5, h6⟩ := h3 H' z hh kk
  refine ⟨h4, ?_⟩
  cases h5
  exact h6
/-- what was there stays, apart from a new house -/
theorem keep_new {H H' : Hp} {p : Addr} {z : HCell} (k : Keep [] (z.fp p) H H') {b : Addr} {o : HO} (h : H b = some o) : H' b = some o ∧ b ∉ z.fp p := ⟨k.kp b o h (by simp), fun hm => (k.fr b hm).elim (by simp) fun q => by rw [h] at q; cases q⟩
theorem scr_new {H H' : Hp} {p a : Addr} {z : HCell} {ns : List Int} (k : Keep [] (z.fp p) H H') (h : Scr K H a ns) : ScrO K (z.fp p) H' a ns := by
  refine ⟨?_, h.2⟩
  rcases h.1 with ⟨o, h⟩ | h
  · exact .inl ⟨o, (keep_new k h).1, (keep_new k h).2⟩
  · exact .inr h
/-- keys = _law_keys(script, 20); houses = [House(), House()] -/
theorem law_begin2 {tw : TS} {D : Ends} {σ : L2.St} {i1 i2 : Nat} {a : Addr} {ns : List Int} (h0 : σ[0]? = some (some (.ref a))) (hs : Scr K H a ns)
    (k : ∀ l p1 z1 p2 z2 r H', Base K ns (lawKeys ns 20) a l p1 0 HS.new z1 H' → Base K ns (lawKeys ns 20) a l p2 0 HS.new z2 H' → Apart (z1.fp p1) (z2.fp p2) → Out (z1.fp p1) H' r (.lst [.ref p1, .ref p2]) → Out (z2.fp p2) H' r (.lst [.ref p1, .ref p2]) → tw D ((σ.set i1 (some (.ref l))).set i2 (some (.ref r))) H') :
    tSeq (tAsg (tCall (sp_l_keys K) [] E0 (tCons (tVar 0) (tCons (tC (.int 20)) tNil))) (gName i1)) (tSeq (tAsg (tLst (tCons (tMake (clsHouse K) (sp_h_init K) [] E0 tNil) (tCons (tMake (clsHouse K) (sp_h_init K) [] E0 tNil) tNil))) (gName i2)) tw) D σ H := by
  refine ⟨_, h0, a, ns, 20, rfl, hs, by decide, fun H1 l e1 hl0 hl1 => ?_⟩
  refine make_call (K := K) (E := E0) (H := H1) (σ := σ.set i1 (some (.ref l))) (Q := fun x H2 => tMake (clsHouse K) (sp_h_init K) [] E0 tNil (σ.set i1 (some (.ref l))) H2 fun y H3 => [x, y].length ≤ sizeLine ∧ ∀ r, H3 r = none → tw D ((σ.set i1 (some (.ref l))).set i2 (some (.ref r))) (upd H3 r (.lst [x, y]))) fun p1 z1 H2 hh1 k1 => ?_
  refine make_call fun p2 z2 H3 hh2 k2 => ⟨(show 2 ≤ sizeLine by decide), fun r hr => ?_⟩
  have hs1 := hs.ex e1
  have hl2 := keep_new k1 hl1
  have sc2 := scr_new k1 hs1
  have ap : Apart (z1.fp p1) (z2.fp p2) := fun b hb => by
    obtain ⟨o, ho⟩ := hh1.some hb
    exact (keep_new k2 ho).2
  have hh1' : HouseAt (clsHouse K) H3 p1 HS.new z1 := hh1.move k2.kt fun b hb o h => (keep_new k2 h).1
  have e4 : Ex H3 (upd H3 r (.lst [.ref p1, .ref p2])) := Ex.new hr
  have sc1 : ScrO K (z1.fp p1) H3 a ns := by
    refine ⟨?_, hs.2⟩
    rcases sc2.1 with ⟨o, h⟩ | h
    · exact .inl ⟨o, (keep_new k2 h.1).1, h.2⟩
    · exact .inr h
  refine k l p1 z1 p2 z2 r _ ⟨hh1'.ex e4, sc1.keep (Keep.ex e4), ⟨e4 _ _ (keep_new k2 hl2.1).1, hl2.2⟩, fit_new _, rfl, rfl⟩ ⟨hh2.ex e4, (scr_new k2 sc2.scr).keep (Keep.ex e4), ⟨e4 _ _ (keep_new k2 hl2.1).1, (keep_new k2 hl2.1).2⟩, fit_new _, rfl, rfl⟩ ap ⟨upd_same, fun hm => ?_⟩ ⟨upd_same, fun hm => ?_⟩
  · obtain ⟨o, ho⟩ := hh1'.some hm
    rw [hr] at ho
    cases ho
  · obtain ⟨o, ho⟩ := hh2.some hm
    rw [hr] at ho
    cases ho
end
end KW

/-! one thing beside a house is changed -/
namespace KW
open PySem PySem.Spec PyProof.Rows L2 Evl
section
variable {K : PySem.W.Frag} {vs : List V} {H : Hp} {Q : VK} {E : XK}
theorem Scr.kp1 {H H' : Hp} {a c : Addr} {ns : List Int} (h : Scr K H a ns) (kp : ∀ b o, b ≠ c → H b = some o → H' b = some o) (hc : ∀ o u, H c ≠ some (.frz o u)) : Scr K H' a ns := by
  refine ⟨?_, h.2⟩
  rcases h.1 with ⟨o, h⟩ | h
  · exact .inl ⟨o, kp a _ (fun e => hc _ _ (by rw [← e]; exact h)) h⟩
  · exact .inr h
/-- one thing beside the house is changed -/
theorem Base.move1 {H H' : Hp} {ns : List Int} {keys : List Str} {a l p c : Addr} {n : Nat} {s : HS} {z : HCell} (B : Base K ns keys a l p n s z H) (hf : c ∉ z.fp p) (hlc : l ≠ c) (kp : ∀ b o, b ≠ c → H b = some o → H' b = some o) (kt : Kt H H') (hc : ∀ o u, H c ≠ some (.frz o u)) : Base K ns keys a l p n s z H' := by
  refine ⟨B.hh.move kt fun b hb o h => kp b o (fun e => hf (by rw [← e]; exact hb)) h, ⟨?_, B.scr.2⟩, ⟨kp l _ hlc B.keys.1, B.keys.2⟩, B.fit, B.old, B.base⟩
  rcases B.scr.1 with ⟨o, h⟩ | h
  · exact .inl ⟨o, kp a _ (fun e => hc _ _ (by rw [← e]; exact h.1)) h.1, h.2⟩
  · exact .inr h
theorem RecsO.move1 {F : List Addr} {H H' : Hp} {d c : Addr} {rs : Recs} (h : RecsO F H d rs) (hd : d ≠ c) (kp : ∀ b o, b ≠ c → H b = some o → H' b = some o) (kt : Kt H H') : RecsO F H' d rs := ⟨h.at_.move (fun v x q => RecV.kt kt q) fun o q => kp d o hd q, h.out⟩
theorem not_frz_lst {H : Hp} {c : Addr} {xs : List V} (h : H c = some (.lst xs)) : ∀ o u, H c ≠ some (.frz o u) := fun o u e => by rw [h] at e; cases e
theorem Base.fresh {H : Hp} {ns : List Int} {keys : List Str} {a l p c : Addr} {n : Nat} {s : HS} {z : HCell} (B : Base K ns keys a l p n s z H) (h : H c = none) : c ∉ z.fp p := fun hm => by
  obtain ⟨o, ho⟩ := B.hh.some hm
  rw [h] at ho
  cases ho
end
end KW

/-! watchers, plainly -/
namespace KW
open PySem PySem.Spec PyProof.Rows L2 Evl
abbrev Span := Str × Str × Int
def HS.spanOf (s : HS) (w : Int) : Option Span := if w < 0 then none else (s.spans[w.toNat]?).join
def HS.watch (s : HS) (a b : Str) (n : Int) : HS := { s with spans := s.spans ++ [some (a, b, n)] }
def maxI (i j : Int) : Int := if j > i then j else i
def HS.setSpan (s : HS) (w : Int) (o : Option Span) : HS := { s with spans := s.spans.set w.toNat o }
def HS.heardTo (s : HS) (w : Int) (p : Span) (n : Int) : HS := s.setSpan w (some (p.1, p.2.1, maxI p.2.2 n))
def HS.stop (s : HS) (w : Int) : HS := s.setSpan w none
def HS.watchers (s : HS) : List Int := s.spans.zipIdx.filterMap fun q => if q.1.isSome = true then some (q.2 : Int) else none
def HS.sinceP (s : HS) (p : Span) : List Evt := s.since p.1 p.2.1 p.2.2
/-- some of the changes, of whole numbers; and the number to go on from, if some are left -/
def someOf (evs : List Evt) (most : Int) : Nat → List Evt → List Evt × Option Int
  | 0, taken => (taken, none)
  | f + 1, taken =>
    if taken.length < evs.length then
      let number := ((evs[taken.length]?).map (·.num)).getD 0
      let more := evs.filter fun e => decide (e.num = number)
      if taken ≠ [] ∧ most < (taken.length : Int) + more.length then (taken, some number) else someOf evs most f (taken ++ more)
    else (taken, none)
def partOf (evs : List Evt) (most : Int) : List Evt × Option Int := someOf evs most evs.length []
theorem spanOf_some {s : HS} {w : Int} {p : Span} (h : s.spanOf w = some p) : 0 ≤ w ∧ s.spans[w.toNat]? = some (some p) := by
  unfold HS.spanOf at h
  split at h
  · cases h
  · rename_i hw
    refine ⟨by omega, ?_⟩
    cases hq : s.spans[w.toNat]? with
    | none => rw [hq] at h; cases h
    | some o =>
      rw [hq] at h
      have : o = some p := h
      rw [this]
/-- what is known of the house stays -/
theorem wf_spans {s : HS} (h : s.Wf) (sp : List (Option Span)) : ({ s with spans := sp } : HS).Wf := ⟨h.ndo, h.chain, h.eq, h.sorted, h.bnd, h.b0, h.bl⟩
theorem lw_spans {s : HS} (h : s.Lw) (sp : List (Option Span)) : ({ s with spans := sp } : HS).Lw := ⟨h.nd, h.pos, h.g0, h.n0, h.trm, h.recl⟩
theorem all_spans {s : HS} (h : s.All) (sp : List (Option Span)) : ({ s with spans := sp } : HS).All := ⟨wf_spans h.wf sp, lw_spans h.lw sp, h.st⟩
theorem fit_spans {s : HS} {keys : List Str} {n : Nat} (h : s.Fit keys n) (sp : List (Option Span)) : ({ s with spans := sp } : HS).Fit keys n := ⟨all_spans h.all sp, h.keys, h.mu, h.ends, h.logk, h.cnt⟩
end KW

/-! the promises of watchers -/
namespace KW
open PySem PySem.Spec PyProof.Rows L2 Evl
section
variable (K : PySem.W.Frag)
def noWatch (s : HS) (v : V) : Prop := ∀ w, v = .int w → s.spanOf w = none
def sp_h_need_watcher : Sp := fun vs H Q E => ∃ p s z v, vs = [.ref p, v] ∧ HouseAt (clsHouse K) H p s z ∧ Thing K H v ∧ ∀ H', Ex H H' → (∀ w sp, v = .int w → s.spanOf w = some sp → Q .non H') ∧ (noWatch s v → E (.ref (He.ga K "NoWatcher")) none H')
def sp_h_watch : Sp := fun vs H Q E => ∃ p s z a b n, vs = [.ref p, .str a, .str b, .int n] ∧ HouseAt (clsHouse K) H p s z ∧ isKey a = true ∧ isKey b = true ∧ s.spans.length ≤ 50000 ∧
  (n < 1 → ∀ H', Ex H H' → E (.ref (He.ga K "NoNumber")) none H') ∧ (1 ≤ n → n ≤ s.base → ∀ H', Ex H H' → E (.ref (He.ga K "Folded")) none H') ∧
  (1 ≤ n → s.base < n → ∀ H' z', HouseAt (clsHouse K) H' p (s.watch a b n) z' → Keep (z.fp p) (z'.fp p) H H' → Q (.int s.spans.length) H')
def sp_h_unheard : Sp := fun vs H Q _ => ∃ p s z w sp, vs = [.ref p, .int w] ∧ HouseAt (clsHouse K) H p s z ∧ s.spanOf w = some sp ∧ s.log.length ≤ 50000 ∧ ∀ H' r, Ex H H' → H r = none → LogAt H' r (s.sinceP sp) → Q (.ref r) H'
def sp_h_heard : Sp := fun vs H Q _ => ∃ p s z w sp n, vs = [.ref p, .int w, .int n] ∧ HouseAt (clsHouse K) H p s z ∧ s.spanOf w = some sp ∧ ∀ H' z', HouseAt (clsHouse K) H' p (s.heardTo w sp n) z' → Keep (z.fp p) (z'.fp p) H H' → Q .non H'
def sp_h_hear : Sp := fun vs H Q E => ∃ p s z v, vs = [.ref p, v] ∧ HouseAt (clsHouse K) H p s z ∧ Thing K H v ∧ s.log.length ≤ 50000 ∧
  (∀ w sp, v = .int w → s.spanOf w = some sp → w ∉ s.cut → ∀ H' z' r, HouseAt (clsHouse K) H' p (s.heardTo w sp (s.last + 1)) z' → Keep (z.fp p) (z'.fp p) H H' → H r = none → r ∉ z'.fp p → LogAt H' r (s.sinceP sp) → Q (.ref r) H') ∧
  (∀ w sp, v = .int w → s.spanOf w = some sp → w ∈ s.cut → ∀ H', Ex H H' → E (.ref (He.ga K "Folded")) none H') ∧ (noWatch s v → ∀ H', Ex H H' → E (.ref (He.ga K "NoWatcher")) none H')
/-- where a watcher goes on behind some of its changes -/
def someTo (s : HS) (w : Int) (sp : Span) (most : Int) : HS := s.heardTo w sp (((partOf (s.sinceP sp) most).2).getD (s.last + 1))
def sp_h_hear_some : Sp := fun vs H Q E => ∃ p s z v u, vs = [.ref p, v, u] ∧ HouseAt (clsHouse K) H p s z ∧ Thing K H v ∧ Thing K H u ∧ s.log.length ≤ 50000 ∧
  (∀ w sp most, v = .int w → u = .int most → s.spanOf w = some sp → 1 ≤ most → w ∉ s.cut → ∀ H' z' r, HouseAt (clsHouse K) H' p (someTo s w sp most) z' → Keep (z.fp p) (z'.fp p) H H' → H r = none → r ∉ z'.fp p → LogAt H' r (partOf (s.sinceP sp) most).1 → Q (.ref r) H') ∧
  (∀ w sp most, v = .int w → u = .int most → s.spanOf w = some sp → 1 ≤ most → w ∈ s.cut → ∀ H', Ex H H' → E (.ref (He.ga K "Folded")) none H') ∧
  (∀ w sp, v = .int w → s.spanOf w = some sp → isWholeV u 1 = false → ∀ H', Ex H H' → E (.ref (He.ga K "NoNumber")) none H') ∧ (noWatch s v → ∀ H', Ex H H' → E (.ref (He.ga K "NoWatcher")) none H')
def sp_h_stop : Sp := fun vs H Q E => ∃ p s z v, vs = [.ref p, v] ∧ HouseAt (clsHouse K) H p s z ∧ Thing K H v ∧
  (∀ w sp, v = .int w → s.spanOf w = some sp → ∀ H' z', HouseAt (clsHouse K) H' p (s.stop w) z' → Keep (z.fp p) (z'.fp p) H H' → Q .non H') ∧ (noWatch s v → ∀ H', Ex H H' → E (.ref (He.ga K "NoWatcher")) none H')
def sp_h_watchers : Sp := fun vs H Q _ => ∃ p s z, vs = [.ref p] ∧ HouseAt (clsHouse K) H p s z ∧ s.spans.length ≤ 50000 ∧ ∀ H' r, Ex H H' → H r = none → H' r = some (.lst (s.watchers.map V.int)) → Q (.ref r) H'
end
end KW

/-! readings, printed by mkT.py -/
namespace KW
open PySem PySem.Spec PyProof.Rows L2 Evl
def t_h_need_watcher (K : PySem.W.Frag) (E : XK) : TS := (tIfS (tOr (tNot (tB (tCall (sp_is_whole K) [] E0 (tCons (tVar 1) (tCons (tC (.int 0)) tNil))))) (tOr (tTest (tOp rGeI (tVar 1) (tCB (rLenS K) (tCons (tFld K (tVar 0) "spans") tNil)))) (tTest (tOp rIsN (tOp (rIxL K) (tFld K (tVar 0) "spans") (tVar 1)) (tC .non))))) (tRz E (He.ga K "NoWatcher")) tNext)
abbrev N_h_need_watcher : List Str := ["self", "watcher"]
def t_h_watch (K : PySem.W.Frag) (E : XK) : TS := (tSeq (tDrop (tCall (sp_need_key K) [] E (tCons (tVar 1) tNil)))
  (tSeq (tDrop (tCall (sp_need_key K) [] E (tCons (tVar 2) tNil)))
  (tSeq (tDrop (tCall (sp_need_whole K) [] E (tCons (tVar 3) (tCons (tC (.int 1)) tNil))))
  (tSeq (tIfS (tTest (tOp rLeI (tVar 3) (tFld K (tVar 0) "base"))) (tRz E (He.ga K "Folded")) tNext)
  (tSeq (tDrop (tBM K "list" rAppend (tFld K (tVar 0) "spans") (tCons (tTup (tCons (tVar 1) (tCons (tVar 2) (tCons (tVar 3) tNil)))) tNil)))
  (tRet (tOp rSubI (tCB (rLenS K) (tCons (tFld K (tVar 0) "spans") tNil)) (tC (.int 1)))))))))
abbrev N_h_watch : List Str := ["self", "first", "last", "number"]
def t_h_unheard (K : PySem.W.Frag) : TS := (tSeq (tAsg (tOp (rIxL K) (tFld K (tVar 0) "spans") (tVar 1)) (gTup K 3 (gCons (gName 2) (gCons (gName 3) (gCons (gName 4) gNil)))))
  (tRet (tMeth (clsHouse K) "since" (sp_h_since K) [] E0 (tVar 0) (tCons (tVar 2) (tCons (tVar 3) (tCons (tVar 4) tNil))))))
abbrev N_h_unheard : List Str := ["self", "watcher", "first", "last", "number"]
def t_h_heard (K : PySem.W.Frag) : TS := (tSeq (tAsg (tOp (rIxL K) (tFld K (tVar 0) "spans") (tVar 1)) (gTup K 3 (gCons (gName 3) (gCons (gName 4) (gCons (gName 5) gNil)))))
  (tAsg (tTup (tCons (tVar 3) (tCons (tVar 4) (tCons (tCB rMax2 (tCons (tVar 5) (tCons (tVar 2) tNil))) tNil)))) (gSub (tFld K (tVar 0) "spans") (tVar 1) rSetL)))
abbrev N_h_heard : List Str := ["self", "watcher", "number", "first", "last", "old"]
def t_h_hear (K : PySem.W.Frag) (E : XK) : TS := (tSeq (tDrop (tMeth (clsHouse K) "need_watcher" (sp_h_need_watcher K) [] E (tVar 0) (tCons (tVar 1) tNil)))
  (tSeq (tIfS (tB (tDIn (tVar 1) (tFld K (tVar 0) "cut"))) (tRz E (He.ga K "Folded")) tNext)
  (tSeq (tAsg (tMeth (clsHouse K) "unheard" (sp_h_unheard K) [] E0 (tVar 0) (tCons (tVar 1) tNil)) (gName 2))
  (tSeq (tDrop (tMeth (clsHouse K) "heard" (sp_h_heard K) [] E0 (tVar 0) (tCons (tVar 1) (tCons (tOp rAddI (tFld K (tVar 0) "last") (tC (.int 1))) tNil))))
  (tRet (tVar 2))))))
abbrev N_h_hear : List Str := ["self", "watcher", "events"]
def t_h_hear_some (K : PySem.W.Frag) (E : XK) : TS := (tSeq (tDrop (tMeth (clsHouse K) "need_watcher" (sp_h_need_watcher K) [] E (tVar 0) (tCons (tVar 1) tNil)))
  (tSeq (tDrop (tCall (sp_need_whole K) [] E (tCons (tVar 2) (tCons (tC (.int 1)) tNil))))
  (tSeq (tIfS (tB (tDIn (tVar 1) (tFld K (tVar 0) "cut"))) (tRz E (He.ga K "Folded")) tNext)
  (tSeq (tAsg (tMeth (clsHouse K) "unheard" (sp_h_unheard K) [] E0 (tVar 0) (tCons (tVar 1) tNil)) (gName 3))
  (tSeq (tAsg (tLst tNil) (gName 4))
  (tSeq (tWhile (tTest (tOp rLtI (tCB (rLenS K) (tCons (tVar 4) tNil)) (tCB (rLenS K) (tCons (tVar 3) tNil))))
 (tSeq (tAsg (tOp (rIxT K) (tOp (rIxL K) (tVar 3) (tCB (rLenS K) (tCons (tVar 4) tNil))) (tC (.int 0))) (gName 5))
  (tSeq (tAsg (tLc (iList K (tVar 3)) (gName 7) (tTest (tOp rEq (tOp (rIxT K) (tVar 7) (tC (.int 0))) (tVar 5))) (tVar 7) [7]) (gName 6))
  (tSeq (tIfS (tAnd (tTest (tOp (rNeP K) (tVar 4) (tLst tNil))) (tTest (tOp rGtI (tOp rAddI (tCB (rLenS K) (tCons (tVar 4) tNil)) (tCB (rLenS K) (tCons (tVar 6) tNil))) (tVar 2)))) (tSeq (tDrop (tMeth (clsHouse K) "heard" (sp_h_heard K) [] E0 (tVar 0) (tCons (tVar 1) (tCons (tVar 5) tNil))))
  (tRet (tVar 4))) tNext)
  (tAsg (tOp rCat (tVar 4) (tVar 6)) (gName 4))))))
  (tSeq (tDrop (tMeth (clsHouse K) "heard" (sp_h_heard K) [] E0 (tVar 0) (tCons (tVar 1) (tCons (tOp rAddI (tFld K (tVar 0) "last") (tC (.int 1))) tNil))))
  (tRet (tVar 4)))))))))
abbrev N_h_hear_some : List Str := ["self", "watcher", "most", "events", "taken", "number", "more", "event"]
def t_h_stop (K : PySem.W.Frag) (E : XK) : TS := (tSeq (tDrop (tMeth (clsHouse K) "need_watcher" (sp_h_need_watcher K) [] E (tVar 0) (tCons (tVar 1) tNil)))
  (tAsg (tC .non) (gSub (tFld K (tVar 0) "spans") (tVar 1) rSetL)))
abbrev N_h_stop : List Str := ["self", "watcher"]
def t_h_watchers (K : PySem.W.Frag) : TS := (tRet (tLc (iEnum K (tCons (tFld K (tVar 0) "spans") tNil)) (gTup K 2 (gCons (gName 1) (gCons (gName 2) gNil))) (tTest (tOp rNotN (tVar 2) (tC .non))) (tVar 1) [1, 2]))
abbrev N_h_watchers : List Str := ["self", "k", "span"]
end KW

/-! watchers -/
namespace KW
open PySem PySem.Spec PyProof.Rows L2 Evl
section
variable {C : Addr} {H H' : Hp} {p : Addr} {s : HS} {z : HCell}
theorem house_spans (h : HouseAt C H p s z) {sp : List (Option Span)} (hr : SpansAt H' z.s sp) (k1 : Keep1 z.s H H') (kt : Kt H H') : HouseAt C H' p { s with spans := sp } z := by
  obtain ⟨⟨dx0, fs, h0⟩, ⟨e1, h1⟩, ⟨e2, h2⟩, ⟨e3, h3⟩, ⟨e4, h4⟩, ⟨e5, h5⟩, ⟨e6, h6⟩⟩ := h.cells
  obtain ⟨dx, ho⟩ := h.ob
  exact ⟨⟨dx, k1 _ _ (ne_of h0 h5 (by intro q; cases q)) ho⟩, h.recs.move (fun v x q => RecV.kt kt q) fun o => k1 _ _ (ne_of h1 h5 (by intro q; cases q)), h.old.move (fun v x q => RecV.kt kt q) fun o => k1 _ _ (ne_of h2 h5 (by intro q; cases q)), h.log.move kt (fun v x q => EvV.kt kt q) fun o => k1 _ _ h.ls,
    h.ends.move (fun v x q => TAt.kt kt q) fun o => k1 _ _ (ne_of h4 h5 (by intro q; cases q)), hr, h.cut.move (fun v x q => q) fun o => k1 _ _ (ne_of h6 h5 (by intro q; cases q)), h.ro, h.re, h.rc, h.oe, h.oc, h.ec, h.ls⟩
theorem pr_set {α β : Type} {F : α → β → Prop} : ∀ {l : List α} {m : List β} (i : Nat) {a : α} {b : β}, Paired F l m → F a b → Paired F (l.set i a) (m.set i b)
  | _, _, _, _, _, .nil, _ => .nil
  | _, _, 0, _, _, .cons _ t, h => .cons h t
  | _, _, i + 1, _, _, .cons r t, h => .cons r (pr_set i t h)
end
section
variable {K : PySem.W.Frag} {vs : List V} {H : Hp} {Q : VK} {E : XK}
theorem span_at {p : Addr} {s : HS} {z : HCell} {w : Int} {sp : Span} (hh : HouseAt (clsHouse K) H p s z) (h : s.spanOf w = some sp) : ∃ ws v, H z.s = some (.lst ws) ∧ Paired (SpanV H) ws s.spans ∧ ws[w.toNat]? = some v ∧ 0 ≤ w ∧ w.toNat < ws.length ∧ TAt H v [.str sp.1, .str sp.2.1, .int sp.2.2] := by
  obtain ⟨ws, w1, w2⟩ := hh.spans
  obtain ⟨h0, h1⟩ := spanOf_some h
  obtain ⟨v, hv, hs⟩ := pr_get' w2 h1
  exact ⟨ws, v, w1, w2, hv, h0, (List.getElem?_eq_some_iff.mp hv).1, hs⟩
theorem atI_int' {xs : List V} {w : Int} {v : V} (h0 : 0 ≤ w) (h : xs[w.toNat]? = some v) : atI xs w = some v := by
  obtain ⟨n, rfl⟩ := Int.eq_ofNat_of_zero_le h0
  exact atI_nat h
theorem pure_h_need_watcher (HC : HCls K) (h : sp_h_need_watcher K vs H Q E) : t_h_need_watcher K E { nx := fun _ H' => Q .non H', rt := Q } (start N_h_need_watcher vs) H := by
  obtain ⟨p, s, z, v, rfl, hh, ht, q⟩ := h
  cases hw : isWholeV v 0 with
  | false =>
    have h1 := ev_isWhole (K := K) (σ := start N_h_need_watcher [.ref p, v]) (E := E0) (ev_var (i := 1) rfl) (ev_c (v := .int 0)) ht
    rw [hw] at h1
    refine alw_here (alw_if (et_or (b := true) (et_not (et_B h1)) fun z => by cases z) (fun _ H1 e1 => ?_) fun z => by cases z)
    refine (q H1 e1).2 fun w e => ?_
    subst e
    have hn : ¬ (0 : Int) ≤ w := of_decide_eq_false hw
    unfold HS.spanOf
    rw [if_pos (by omega)]
  | true =>
    obtain ⟨w, rfl⟩ : ∃ i, v = .int i := by
      cases v with
      | int i => exact ⟨i, rfl⟩
      | _ => cases hw
    have h0 : 0 ≤ w := of_decide_eq_true hw
    have h1 := ev_isWhole (K := K) (σ := start N_h_need_watcher [.ref p, .int w]) (E := E0) (ev_var (i := 1) rfl) (ev_c (v := .int 0)) ht
    rw [hw] at h1
    obtain ⟨ws, w1, w2⟩ := hh.spans
    have hlen := pr_len w2
    have hl := ev_len (K := K) (ev_spans HC (ev_var (σ := start N_h_need_watcher [.ref p, .int w]) (i := 0) rfl) hh) (sq_of w1)
    by_cases hlt : w < (ws.length : Int)
    · have hix : w.toNat < ws.length := by omega
      obtain ⟨u, hu⟩ : ∃ u, ws[w.toNat]? = some u := ⟨_, List.getElem?_eq_getElem hix⟩
      obtain ⟨o, ho, hs⟩ := pr_get w2 hu
      have hsp : s.spanOf w = o := by
        unfold HS.spanOf
        rw [if_neg (by omega), ho]
        rfl
      have hge := ev_ge (ev_var (σ := start N_h_need_watcher [.ref p, .int w]) (i := 1) rfl) hl
      rw [decide_eq_false (by omega)] at hge
      have hN := ev_isN (ev_ixL (K := K) (ev_spans HC (ev_var (σ := start N_h_need_watcher [.ref p, .int w]) (i := 0) rfl) hh) (ev_var (i := 1) rfl) (sq_of w1) (atI_int' h0 hu))
      refine alw_here (alw_if (et_or (et_not (et_B h1)) fun _ => et_or (et_test hge) fun _ => et_test hN) (fun hb H1 e1 => ?_) fun hb H1 e1 => ?_)
      · have hb2 : u = .non := by simpa using hb
        cases o with
        | none => exact (q H1 e1).2 fun w' e => by cases e; exact hsp
        | some sp =>
          obtain ⟨a, ha, _⟩ := hs
          rw [hb2] at ha
          cases ha
      · have hb2 : u ≠ .non := by simpa using hb
        cases o with
        | none => exact absurd hs hb2
        | some sp => exact (q H1 e1).1 w sp rfl hsp
    · have hge := ev_ge (ev_var (σ := start N_h_need_watcher [.ref p, .int w]) (i := 1) rfl) hl
      rw [decide_eq_true (by omega)] at hge
      refine alw_here (alw_if (et_or (et_not (et_B h1)) fun _ => et_or (b := true) (et_test hge) fun z => by cases z) (fun _ H1 e1 => ?_) fun z => by cases z)
      refine (q H1 e1).2 fun w' e => ?_
      cases e
      unfold HS.spanOf
      rw [if_neg (by omega), List.getElem?_eq_none (by omega)]
      rfl
/-- self.spans[w] = .. -/
theorem set_span (HC : HCls K) {σ : L2.St} {to ti te : TE} {D : Ends} {p : Addr} {s : HS} {z : HCell} {w : Int} {P : Hp → V → Prop} {o : Option Span} (hv : EvP te σ H P) (he : Ev to σ H (.ref p)) (hi : Ev ti σ H (.int w)) (hh : HouseAt (clsHouse K) H p s z) (h0 : 0 ≤ w) (hlt : w.toNat < s.spans.length) (hP : ∀ H v, P H v → SpanV H v o)
    (q : ∀ H', HouseAt (clsHouse K) H' p (s.setSpan w o) z → Keep (z.fp p) (z.fp p) H H' → D.nx σ H') : tAsg te (gSub (tFld K to "spans") ti rSetL) D σ H :=
  hv H (Ex.refl H) _ fun v H1 e1 hv1 => ev_spans HC (he.mono e1) (hh.ex e1) H1 (Ex.refl _) _ fun H2 e2 => hi H2 (e1.trans e2) _ fun H3 e3 => by
    have hh3 := hh.ex ((e1.trans e2).trans e3)
    obtain ⟨ws, w1, w2⟩ := hh3.spans
    have hlen := pr_len w2
    obtain ⟨n, rfl⟩ := Int.eq_ofNat_of_zero_le h0
    rw [Int.toNat_natCast] at hlt
    have kt : Kt H3 (upd H3 z.s (.lst (ws.set n v))) := (Kt.refl H3).upd (ne_tup_of w1 fun xs z => by cases z)
    have k1 : Keep1 z.s H3 (upd H3 z.s (.lst (ws.set n v))) := keep1_upd (Ex.refl H3)
    have hsv : SpanV (upd H3 z.s (.lst (ws.set n v))) v o := SpanV.kt ((Ex.kt (e2.trans e3)).trans kt) (hP _ _ hv1)
    refine ⟨z.s, ws, _, n, rfl, rfl, w1, ixN_nat (by omega), q _ (house_spans hh3 (sp := s.spans.set n o) ⟨_, upd_same, pr_set n (pr_mono w2 fun _ _ y => SpanV.kt kt y) hsv⟩ k1 kt) ((Keep.ex ((e1.trans e2).trans e3)).trans (keep_of1 (mem_fp p z).2.2.2.2.2.1 k1 kt))⟩
theorem spanOf_lt {s : HS} {w : Int} {sp : Span} (h : s.spanOf w = some sp) : 0 ≤ w ∧ w.toNat < s.spans.length := ⟨(spanOf_some h).1, (List.getElem?_eq_some_iff.mp (spanOf_some h).2).1⟩
theorem pure_h_heard (HC : HCls K) (h : sp_h_heard K vs H Q E) : t_h_heard K { nx := fun _ H' => Q .non H', rt := Q } (start N_h_heard vs) H := by
  obtain ⟨p, s, z, w, sp, n, rfl, hh, hs, q⟩ := h
  obtain ⟨ws, v, w1, w2, hv, h0, hlt, ht⟩ := span_at hh hs
  refine alw_here (al_tup3 (ev_ixL (ev_spans HC (ev_var rfl) hh) (ev_var rfl) (sq_of w1) (atI_int' h0 hv)) ht fun H1 e1 => ?_)
  refine set_span HC (o := some (sp.1, sp.2.1, maxI sp.2.2 n)) (EvU.p (eu_tup (ea_cons (ev_var rfl) (ea_cons (ev_var rfl) (ea_cons (ev_max2 (ev_var rfl) (ev_var rfl)) ea_nil))) (show 3 ≤ 100000 by decide))) (ev_var rfl) (ev_var rfl) (hh.ex e1) h0 (spanOf_lt hs).2 (fun H v hv => hv) fun H2 hh2 k2 => ?_
  exact q H2 z hh2 ((Keep.ex e1).trans k2)
theorem pure_h_unheard (HC : HCls K) (h : sp_h_unheard K vs H Q E) : t_h_unheard K { nx := fun _ H' => Q .non H', rt := Q } (start N_h_unheard vs) H := by
  obtain ⟨p, s, z, w, sp, rfl, hh, hs, hl, q⟩ := h
  obtain ⟨ws, v, w1, w2, hv, h0, hlt, ht⟩ := span_at hh hs
  refine alw_here (al_tup3 (ev_ixL (ev_spans HC (ev_var rfl) hh) (ev_var rfl) (sq_of w1) (atI_int' h0 hv)) ht fun H1 e1 => ?_)
  refine ret_meth (ev_var rfl) (hh.ex e1) (by decide +kernel) (ea_cons (ev_var rfl) (ea_cons (ev_var rfl) (ea_cons (ev_var rfl) ea_nil))) fun H2 e2 => ?_
  exact ⟨p, s, z, sp.1, sp.2.1, sp.2.2, rfl, hh.ex (e1.trans e2), hl, fun H3 r e3 hr h3 => q H3 r ((e1.trans e2).trans e3) (fresh_back (e1.trans e2) hr) h3⟩
theorem pure_h_stop (HC : HCls K) (h : sp_h_stop K vs H Q E) : t_h_stop K E { nx := fun _ H' => Q .non H', rt := Q } (start N_h_stop vs) H := by
  obtain ⟨p, s, z, v, rfl, hh, ht, q1, q2⟩ := h
  refine meth_call (ev_var rfl) hh (by decide +kernel) (ea_cons (ev_var rfl) ea_nil) fun H1 e1 => ⟨p, s, z, v, rfl, hh.ex e1, ht.ex e1, fun H2 e2 => ⟨fun w sp hv hs => ?_, fun hn => q2 hn H2 (e1.trans e2)⟩⟩
  subst hv
  refine set_span (D := { nx := _, rt := Q }) HC (o := none) (P := fun _ v => v = .non) (Ev.p ev_c fun _ _ => rfl) (ev_var rfl) (ev_var rfl) (hh.ex (e1.trans e2)) (spanOf_lt hs).1 (spanOf_lt hs).2 (fun H v hv => hv) fun H3 hh3 k3 => ?_
  exact q1 w sp rfl hs H3 z hh3 ((Keep.ex (e1.trans e2)).trans k3)
theorem pure_h_watch (HC : HCls K) (h : sp_h_watch K vs H Q E) : t_h_watch K E { nx := fun _ H' => Q .non H', rt := Q } (start N_h_watch vs) H := by
  obtain ⟨p, s, z, a, b, n, rfl, hh, ha, hb, hl, q1, q2, q3⟩ := h
  refine alw_here (al_need (ev_var rfl) (fun H1 e1 Q q => use_key ha q) (al_need (ev_var rfl) (fun H1 e1 Q q => use_key hb q) fun H1 e1 => ?_))
  refine drop_callN (ea_cons (ev_var rfl) (ea_cons ev_c ea_nil)) fun H2 e2 => ⟨_, 1, rfl, .int n, fun H3 e3 => ⟨fun hw => ?_, fun hw => ?_⟩⟩
  · have hn : 1 ≤ n := of_decide_eq_true hw
    have e13 := (e1.trans e2).trans e3
    refine alw_here (al_if (et_test (ev_le (ev_var rfl) (ev_base HC (ev_var rfl) (hh.ex e13)))) (fun hc H4 e4 => ?_) fun hc => al_skip fun H4 e4 => ?_)
    · exact q2 hn (of_decide_eq_true hc) H4 (e13.trans e4)
    · have hc := of_decide_eq_false hc
      have hh4 := hh.ex (e13.trans e4)
      obtain ⟨ws, w1, w2⟩ := hh4.spans
      have hlen := pr_len w2
      refine q_appU w1 (ev_spans HC (ev_var rfl) hh4) (eu_tup (ea_cons (ev_var rfl) (ea_cons (ev_var rfl) (ea_cons (ev_var rfl) ea_nil))) (show 3 ≤ 100000 by decide)) (by omega) fun t H5 ht e5 ht5 => ?_
      have hh5 := hh4.ex e5
      have w15 := e5 _ _ w1
      have kt : Kt H5 (upd H5 z.s (.lst (ws ++ [.ref t]))) := (Kt.refl H5).upd (ne_tup_of w15 fun xs z => by cases z)
      have k1 : Keep1 z.s H5 (upd H5 z.s (.lst (ws ++ [.ref t]))) := keep1_upd (Ex.refl H5)
      have hh6 := house_spans hh5 (sp := s.spans ++ [some (a, b, n)]) ⟨_, upd_same, pr_append (pr_mono w2 fun _ _ y => SpanV.kt ((Ex.kt e5).trans kt) y) (.cons (TAt.kt kt ⟨t, rfl, ht5⟩) .nil)⟩ k1 kt
      have hl6 := ev_len (K := K) (ev_spans HC (ev_var (σ := start N_h_watch [.ref p, .str a, .str b, .int n]) (i := 0) rfl) hh6) (sq_of upd_same)
      refine alw_here (alw_ret (ev_sub hl6 ev_c) fun H7 e7 => ?_)
      have e : ((ws ++ [V.ref t]).length : Int) - 1 = (s.spans.length : Int) := by
        rw [List.length_append, hlen]
        simp
      rw [e]
      exact q3 hn (by omega) H7 z (hh6.ex e7) ((Keep.ex ((e13.trans e4).trans e5)).trans ((keep_of1 (mem_fp p z).2.2.2.2.2.1 k1 kt).trans (Keep.ex e7)))
  · have hn : ¬ 1 ≤ n := of_decide_eq_false hw
    exact q1 (by omega) H3 ((e1.trans e2).trans e3)
theorem ev_inCut {σ : L2.St} {td ty : TE} {d : Addr} {cs : List Int} {k : Int} (ha : Ev ty σ H (.int k)) (hd : Ev td σ H (.ref d)) (h : CutAt H d cs) : Ev (tDIn ty td) σ H (.bl (decide (k ∈ cs))) := fun H1 e Q q =>
  ha H1 e _ fun H2 e2 => hd H2 (e.trans e2) _ fun H3 e3 => by
    obtain ⟨kv, h1, h2⟩ := h
    have h1 := ((e.trans e2).trans e3) _ _ h1
    have hg := DGet.k (k := Sum.inl k) h1
    have hk : keysA (cs.map fun c => (c, ())) = cs := by
      unfold keysA
      rw [List.map_map]
      exact List.map_id cs
    rcases val_of (f := fun k : Int => (Sum.inl k : Key)) (R := fun v (_ : Unit) => v = .bl true) inl_inj h2 k with ⟨v, r, g, l, _⟩ | ⟨g, l⟩
    · have hm : k ∈ cs := by
        have := lookA_some.mp (by rw [l]; rfl)
        rw [hk] at this
        exact this
      rw [g] at hg
      rw [decide_eq_true hm] at q
      exact ⟨d, some v, rfl, hg, q H3 (e2.trans e3)⟩
    · have hm : k ∉ cs := by
        have := lookA_none.mp l
        rw [hk] at this
        exact this
      rw [g] at hg
      rw [decide_eq_false hm] at q
      exact ⟨d, none, rfl, hg, q H3 (e2.trans e3)⟩
theorem pure_h_hear (HC : HCls K) (h : sp_h_hear K vs H Q E) : t_h_hear K E { nx := fun _ H' => Q .non H', rt := Q } (start N_h_hear vs) H := by
  obtain ⟨p, s, z, v, rfl, hh, ht, hl, q1, q2, q3⟩ := h
  refine meth_call (ev_var rfl) hh (by decide +kernel) (ea_cons (ev_var rfl) ea_nil) fun H1 e1 => ⟨p, s, z, v, rfl, hh.ex e1, ht.ex e1, fun H2 e2 => ⟨fun w sp hv hs => ?_, fun hn => q3 hn H2 (e1.trans e2)⟩⟩
  subst hv
  have e12 := e1.trans e2
  have hh2 := hh.ex e12
  refine alw_here (al_if (et_B (ev_inCut (ev_var rfl) (ev_cut HC (ev_var rfl) hh2) hh2.cut)) (fun hb H3 e3 => q2 w sp rfl hs (of_decide_eq_true hb) H3 (e12.trans e3)) fun hb => al_skip fun H3 e3 => ?_)
  have hb := of_decide_eq_false hb
  have hh3 := hh2.ex e3
  refine seq_meth (ev_var rfl) hh3 (by decide +kernel) (ea_cons (ev_var rfl) ea_nil) fun H4 e4 => ⟨p, s, z, w, sp, rfl, hh3.ex e4, hs, hl, fun H5 r e5 hr hr5 => ?_⟩
  have e35 := e4.trans e5
  have hh5 := hh3.ex e35
  have rf : r ∉ z.fp p := fun hm => by
    obtain ⟨o, ho⟩ := (hh3.ex e4).some hm
    rw [hr] at ho
    cases ho
  obtain ⟨lw, l1, l2⟩ := hr5
  refine meth_call (ev_var rfl) hh5 (by decide +kernel) (ea_cons (ev_var rfl) (ea_cons (ev_add (ev_last HC (ev_var rfl) hh5) ev_c) ea_nil)) fun H6 e6 => ⟨p, s, z, w, sp, s.last + 1, rfl, hh5.ex e6, hs, fun H7 z7 hh7 k7 => ?_⟩
  have k57 := (Keep.ex (F := z.fp p) e6).trans k7
  refine alw_here (alw_ret (ev_var rfl) fun H8 e8 => ?_)
  refine q1 w sp rfl hs hb H8 z7 r (hh7.ex e8) ((Keep.ex ((e12.trans e3).trans e35)).trans (k57.trans (Keep.ex e8))) (fresh_back ((e12.trans e3).trans e4) hr) (k57.out l1 rf) ⟨lw, e8 _ _ (k57.kp _ _ l1 rf), pr_mono l2 fun _ _ y => EvV.kt (k57.kt.trans (Ex.kt e8)) y⟩
theorem pure_h_watchers (HC : HCls K) (h : sp_h_watchers K vs H Q E) : t_h_watchers K { nx := fun _ H' => Q .non H', rt := Q } (start N_h_watchers vs) H := by
  obtain ⟨p, s, z, rfl, hh, hl, q⟩ := h
  obtain ⟨ws, w1, w2⟩ := hh.spans
  have hc := lc_gen (α := V) (P := fun _ v y => v = y) (tt := tTest (tOp rNotN (tVar 2) (tC .non))) (te := tVar 1) (g := gTup K 2 (gCons (gName 1) (gCons (gName 2) gNil))) (vs := [1, 2]) (σ := start N_h_watchers [.ref p]) (B := H)
    (ei_enum (K := K) (tl := tFld K (tVar 0) "spans") (P := fun v (x : Option Span) => SpanV H v x) (ev_spans HC (ev_var rfl) hh) (sq_of w1) w2) (fun q => if q.2.isSome = true then some (V.int (q.1 : Nat)) else none) (fun _ _ _ _ _ z => z)
    (fun x d H4 e4 hx _ => by
      obtain ⟨u, hu, hx⟩ := hx
      refine ⟨_, g_two hx, rfl, ?_, fun y hy => ?_⟩
      · have w : (if d.2.isSome = true then some (V.int (d.1 : Nat)) else none).isSome = !decide (u = V.non) := by
          cases hd : d.2 with
          | none =>
            rw [hd] at hu
            rw [show u = V.non from hu]
            rfl
          | some sp =>
            rw [hd] at hu
            obtain ⟨aa, ha, _⟩ := hu
            rw [ha]
            rfl
        rw [w]
        exact et_test (ev_notN (ev_var rfl))
      · split at hy
        · cases hy
          exact Ev.p (ev_var rfl) fun _ _ => rfl
        · cases hy)
    (by rw [List.length_map, List.length_zipIdx]; omega)
  have e : (s.spans.zipIdx.map fun q => (q.2, q.1)).filterMap (fun q : Nat × Option Span => if q.2.isSome = true then some (V.int (q.1 : Nat)) else none) = s.watchers.map V.int := by
    unfold HS.watchers
    rw [List.filterMap_map, List.map_filterMap]
    congr 1
    funext q
    show (if q.1.isSome = true then some (V.int (q.2 : Nat)) else none) = Option.map V.int (if q.1.isSome = true then some (q.2 : Int) else none)
    split <;> rfl
  rw [e] at hc
  exact hc.toL H (Ex.refl _) _ fun r H2 hr e2 h2 => q H2 r e2 hr h2
end
end KW

/-! things that stand apart from one another -/
namespace KW
open PySem PySem.Spec PyProof.Rows L2 Evl
/-- a thing with its cells -/
structure Asrt where
  holds : List Addr → Hp → Prop
  st : ∀ {F : List Addr} {H H' : Hp}, holds F H → Kt H H' → (∀ b ∈ F, ∀ o, H b = some o → H' b = some o) → holds F H'
  occ : ∀ {F : List Addr} {H : Hp}, holds F H → ∀ b ∈ F, ∃ o, H b = some o
def SepG : List Asrt → List Addr → Hp → Prop
  | [], F, _ => F = []
  | A :: As, F, H => ∃ F1 F2, F = F1 ++ F2 ∧ A.holds F1 H ∧ SepG As F2 H ∧ Apart F1 F2
def Sep (As : List Asrt) (H : Hp) : Prop := ∃ F, SepG As F H
def Has (A : Asrt) (H : Hp) : Prop := ∃ F, A.holds F H
theorem SepG.st : ∀ {As : List Asrt} {F : List Addr} {H H' : Hp}, SepG As F H → Kt H H' → (∀ b ∈ F, ∀ o, H b = some o → H' b = some o) → SepG As F H'
  | [], _, _, _, h, _, _ => h
  | A :: As, F, H, H', ⟨F1, F2, e, h1, h2, h3⟩, k, kp => ⟨F1, F2, e, A.st h1 k fun b hb => kp b (by rw [e]; exact List.mem_append_left _ hb), SepG.st h2 k fun b hb => kp b (by rw [e]; exact List.mem_append_right _ hb), h3⟩
theorem SepG.occ : ∀ {As : List Asrt} {F : List Addr} {H : Hp}, SepG As F H → ∀ b ∈ F, ∃ o, H b = some o
  | [], _, _, h, b, hb => by rw [h] at hb; cases hb
  | A :: As, F, H, ⟨F1, F2, e, h1, h2, h3⟩, b, hb => by
    rw [e] at hb
    rcases List.mem_append.mp hb with hb | hb
    · exact A.occ h1 b hb
    · exact SepG.occ h2 b hb
theorem SepG.sub : ∀ {As : List Asrt} {i : Nat} {A : Asrt} {F : List Addr} {H : Hp}, SepG As F H → As[i]? = some A → ∃ G, A.holds G H ∧ ∀ b ∈ G, b ∈ F
  | [], _, _, _, _, _, hi => by simp at hi
  | A :: As, 0, B, F, H, ⟨F1, F2, e, h1, h2, h3⟩, hi => by
    cases (show some A = some B from hi)
    exact ⟨F1, h1, fun b hb => by rw [e]; exact List.mem_append_left _ hb⟩
  | A :: As, i + 1, B, F, H, ⟨F1, F2, e, h1, h2, h3⟩, hi => by
    obtain ⟨G, g1, g2⟩ := SepG.sub (i := i) h2 (by simpa using hi)
    exact ⟨G, g1, fun b hb => by rw [e]; exact List.mem_append_right _ (g2 b hb)⟩
theorem SepG.focus : ∀ {As : List Asrt} {i : Nat} {A : Asrt} {F : List Addr} {H : Hp}, SepG As F H → As[i]? = some A → ∃ F1, A.holds F1 H ∧ (∀ b ∈ F1, b ∈ F) ∧ (∀ j B, j ≠ i → As[j]? = some B → ∃ G, B.holds G H ∧ Apart G F1) ∧ ∀ A' F1' H', A'.holds F1' H' → Keep F1 F1' H H' → ∃ F', SepG (As.set i A') F' H' ∧ ∀ b ∈ F', b ∈ F ∨ b ∈ F1'
  | [], _, _, _, _, _, hi => by simp at hi
  | A :: As, 0, B, F, H, ⟨F1, F2, e, h1, h2, h3⟩, hi => by
    cases (show some A = some B from hi)
    refine ⟨F1, h1, fun b hb => by rw [e]; exact List.mem_append_left _ hb, fun j B hj hB => by
      cases j with
      | zero => exact absurd rfl hj
      | succ j =>
        obtain ⟨G, g1, g2⟩ := h2.sub (i := j) (by simpa using hB)
        exact ⟨G, g1, fun b hb hb2 => h3 b hb2 (g2 b hb)⟩, fun A' F1' H' h' k => ⟨F1' ++ F2, ⟨F1', F2, rfl, h', h2.st k.kt fun b hb o ho => k.kp b o ho fun z => h3 b z hb, fun b hb hb2 => ?_⟩, fun b hb => ?_⟩⟩
    · rcases k.fr b hb with z | z
      · exact h3 b z hb2
      · obtain ⟨o, ho⟩ := h2.occ b hb2
        rw [ho] at z
        cases z
    · rcases List.mem_append.mp hb with hb | hb
      · exact .inr hb
      · exact .inl (by rw [e]; exact List.mem_append_right _ hb)
  | A :: As, i + 1, B, F, H, ⟨F1, F2, e, h1, h2, h3⟩, hi => by
    obtain ⟨G, g1, g2, gj, g3⟩ := SepG.focus (i := i) h2 (by simpa using hi)
    refine ⟨G, g1, fun b hb => by rw [e]; exact List.mem_append_right _ (g2 b hb), fun j B hj hB => by
      cases j with
      | zero =>
        cases (show some A = some B from hB)
        exact ⟨F1, h1, fun b hb hb2 => h3 b hb (g2 b hb2)⟩
      | succ j => exact gj j B (fun z => hj (by rw [z])) (by simpa using hB), fun A' G' H' h' k => ?_⟩
    obtain ⟨F2', f1, f2⟩ := g3 A' G' H' h' k
    refine ⟨F1 ++ F2', ⟨F1, F2', rfl, A.st h1 k.kt fun b hb o ho => k.kp b o ho fun z => h3 b hb (g2 b z), f1, fun b hb hb2 => ?_⟩, fun b hb => ?_⟩
    · rcases f2 b hb2 with z | z
      · exact h3 b hb z
      · rcases k.fr b z with z | z
        · exact h3 b hb (g2 b z)
        · obtain ⟨o, ho⟩ := A.occ h1 b hb
          rw [ho] at z
          cases z
    · rcases List.mem_append.mp hb with hb | hb
      · exact .inl (by rw [e]; exact List.mem_append_left _ hb)
      · rcases f2 b hb with z | z
        · exact .inl (by rw [e]; exact List.mem_append_right _ z)
        · exact .inr z
theorem SepG.new : ∀ {As : List Asrt} {A : Asrt} {F G : List Addr} {H H' : Hp}, SepG As F H → Kt H H' → (∀ b ∈ F, ∀ o, H b = some o → H' b = some o) → A.holds G H' → (∀ b ∈ G, b ∉ F) → SepG (As ++ [A]) (F ++ G) H'
  | [], A, F, G, H, H', h, _, _, ha, hg => by
    rw [show F = [] from h]
    exact ⟨G, [], by simp, ha, rfl, fun b _ hb => by cases hb⟩
  | B :: As, A, F, G, H, H', ⟨F1, F2, e, h1, h2, h3⟩, k, kp, ha, hg => by
    refine ⟨F1, F2 ++ G, by rw [e, List.append_assoc], B.st h1 k fun b hb => kp b (by rw [e]; exact List.mem_append_left _ hb), SepG.new h2 k (fun b hb => kp b (by rw [e]; exact List.mem_append_right _ hb)) ha fun b hb z => hg b hb (by rw [e]; exact List.mem_append_right _ z), fun b hb hb2 => ?_⟩
    rcases List.mem_append.mp hb2 with z | z
    · exact h3 b hb z
    · exact hg b z (by rw [e]; exact List.mem_append_left _ hb)
theorem SepG.left : ∀ {As Bs : List Asrt} {F : List Addr} {H : Hp}, SepG (As ++ Bs) F H → ∃ F', SepG As F' H ∧ ∀ b ∈ F', b ∈ F
  | [], _, F, _, _ => ⟨[], rfl, fun b hb => by cases hb⟩
  | A :: As, Bs, F, H, ⟨F1, F2, e, h1, h2, h3⟩ => by
    obtain ⟨F', g1, g2⟩ := SepG.left h2
    refine ⟨F1 ++ F', ⟨F1, F', rfl, h1, g1, fun b hb hb2 => h3 b hb (g2 b hb2)⟩, fun b hb => ?_⟩
    rw [e]
    rcases List.mem_append.mp hb with z | z
    · exact List.mem_append_left _ z
    · exact List.mem_append_right _ (g2 b z)
section
variable {As Bs : List Asrt} {A A' : Asrt} {H H' : Hp} {i : Nat}
theorem Sep.nil {H : Hp} : Sep [] H := ⟨[], rfl⟩
theorem Sep.ex (e : Ex H H') (h : Sep As H) : Sep As H' := by
  obtain ⟨F, h⟩ := h
  exact ⟨F, h.st (Ex.kt e) fun b _ o ho => e b o ho⟩
/-- one thing is changed -/
theorem Sep.focus (h : Sep As H) (hi : As[i]? = some A) : ∃ F, A.holds F H ∧ ∀ A' F' H', A'.holds F' H' → Keep F F' H H' → Sep (As.set i A') H' := by
  obtain ⟨F, h⟩ := h
  obtain ⟨F1, f1, _, _, f3⟩ := h.focus hi
  exact ⟨F1, f1, fun A' F' H' h' k => by
    obtain ⟨G, g, _⟩ := f3 A' F' H' h' k
    exact ⟨G, g⟩⟩
theorem Sep.focus3 (h : Sep As H) (hi : As[i]? = some A) : ∃ F, A.holds F H ∧ (∀ A' F' H', A'.holds F' H' → Keep F F' H H' → Sep (As.set i A') H') ∧ (∀ A' F' H' B G, A'.holds F' H' → Keep F F' H H' → Asrt.holds B G H' → (∀ b ∈ G, H b = none ∧ b ∉ F') → Sep (As.set i A' ++ [B]) H') ∧ ∀ j B, j ≠ i → As[j]? = some B → ∃ G, B.holds G H ∧ Apart G F := by
  obtain ⟨F, h⟩ := h
  obtain ⟨F1, f1, _, f4, f3⟩ := h.focus hi
  refine ⟨F1, f1, fun A' F' H' h' k => by
    obtain ⟨G, g, _⟩ := f3 A' F' H' h' k
    exact ⟨G, g⟩, fun A' F' H' B G h' k hB hG => ?_, f4⟩
  obtain ⟨G1, g1, g2⟩ := f3 A' F' H' h' k
  refine ⟨G1 ++ G, g1.new (Kt.refl _) (fun b _ o ho => ho) hB fun b hb hb1 => ?_⟩
  rcases g2 b hb1 with z | z
  · obtain ⟨o, ho⟩ := h.occ b z
    rw [(hG b hb).1] at ho
    cases ho
  · exact (hG b hb).2 z
theorem Sep.focus2 (h : Sep As H) (hi : As[i]? = some A) : ∃ F, A.holds F H ∧ (∀ A' F' H', A'.holds F' H' → Keep F F' H H' → Sep (As.set i A') H') ∧ ∀ A' F' H' B G, A'.holds F' H' → Keep F F' H H' → Asrt.holds B G H' → (∀ b ∈ G, H b = none ∧ b ∉ F') → Sep (As.set i A' ++ [B]) H' := by
  obtain ⟨F, f1, f2, f3, _⟩ := h.focus3 hi
  exact ⟨F, f1, f2, f3⟩
theorem Sep.has (h : Sep As H) (hi : As[i]? = some A) : Has A H := by
  obtain ⟨F, h, _⟩ := h.focus hi
  exact ⟨F, h⟩
/-- a new thing -/
theorem Sep.new (h : Sep As H) (e : Ex H H') {G : List Addr} (ha : A.holds G H') (hg : ∀ b ∈ G, H b = none) : Sep (As ++ [A]) H' := by
  obtain ⟨F, h⟩ := h
  refine ⟨F ++ G, h.new (Ex.kt e) (fun b _ o ho => e b o ho) ha fun b hb hf => ?_⟩
  obtain ⟨o, ho⟩ := h.occ b hf
  rw [hg b hb] at ho
  cases ho
/-- one is changed and one is new -/
theorem Sep.left (h : Sep (As ++ Bs) H) : Sep As H := by
  obtain ⟨F, h⟩ := h
  obtain ⟨F', g, _⟩ := h.left
  exact ⟨F', g⟩
theorem SepG.drop0 {F : List Addr} (h : SepG (A :: As) F H) : ∃ F', SepG As F' H ∧ ∀ b ∈ F', b ∈ F := by
  obtain ⟨F1, F2, e, h1, h2, h3⟩ := h
  exact ⟨F2, h2, fun b hb => by rw [e]; exact List.mem_append_right _ hb⟩
theorem SepG.erase : ∀ {As : List Asrt} {i : Nat} {F : List Addr} {H : Hp}, SepG As F H → ∃ F', SepG (As.eraseIdx i) F' H ∧ ∀ b ∈ F', b ∈ F
  | [], i, F, H, h => ⟨F, by simpa using h, fun b hb => hb⟩
  | A :: As, 0, F, H, h => by simpa using h.drop0
  | A :: As, i + 1, F, H, ⟨F1, F2, e, h1, h2, h3⟩ => by
    obtain ⟨F', g1, g2⟩ := SepG.erase (i := i) h2
    refine ⟨F1 ++ F', ⟨F1, F', rfl, h1, g1, fun b hb hb2 => h3 b hb (g2 b hb2)⟩, fun b hb => ?_⟩
    rw [e]
    rcases List.mem_append.mp hb with z | z
    · exact List.mem_append_left _ z
    · exact List.mem_append_right _ (g2 b z)
theorem Sep.erase (h : Sep As H) (i : Nat) : Sep (As.eraseIdx i) H := by
  obtain ⟨F, h⟩ := h
  obtain ⟨F', g, _⟩ := h.erase (i := i)
  exact ⟨F', g⟩
end
/-! ### kinds of things -/
class Stab {α : Type} (P : Hp → V → α → Prop) : Prop where
  st : ∀ {H H' : Hp} {v : V} {x : α}, Kt H H' → P H v x → P H' v x
/-- a value itself -/
def IsV (_ : Hp) (v w : V) : Prop := v = w
/-- a tuple of these -/
def TupV (H : Hp) (v : V) (xs : List V) : Prop := TAt H v xs
instance : Stab IsV := ⟨fun _ h => h⟩
instance : Stab TupV := ⟨fun k h => TAt.kt k h⟩
instance : Stab RowV := ⟨RowV.kt⟩
instance : Stab EvV := ⟨EvV.kt⟩
instance : Stab RecV := ⟨RecV.kt⟩
instance : Stab DeedV := ⟨DeedV.kt⟩
instance : Stab CondV := ⟨fun k h => CondV.kt k h⟩
instance : Stab LDeedV := ⟨LDeedV.kt⟩
instance : Stab RowDV := ⟨RowDV.kt⟩
instance : Stab SpanV := ⟨SpanV.kt⟩
instance : Stab IntV := ⟨fun _ h => h⟩
instance : Stab StrV := ⟨fun _ h => h⟩
instance : Stab PrV := ⟨fun k h => TAt.kt k h⟩
instance : Stab EndV := ⟨fun k h => TAt.kt k h⟩
def rScr (K : PySem.W.Frag) (a : Addr) (ns : List Int) : Asrt where
  holds := fun F H => ns.length ≤ 63 ∧ ((F = [] ∧ SqL K (fun _ => none) a (ns.map V.int)) ∨ (F = [a] ∧ ∃ o, H a = some (.frz o (.lst (ns.map V.int)))))
  st := fun ⟨h0, h⟩ k kp => ⟨h0, h.imp (fun z => z) fun ⟨z1, o, z2⟩ => ⟨z1, o, kp a (by rw [z1]; exact List.mem_singleton.mpr rfl) _ z2⟩⟩
  occ := fun ⟨h0, h⟩ b hb => by
    rcases h with ⟨z, _⟩ | ⟨z, o, zo⟩
    · rw [z] at hb
      cases hb
    · rw [z] at hb
      rw [List.mem_singleton.mp hb]
      exact ⟨_, zo⟩
def rL {α : Type} (P : Hp → V → α → Prop) [Stab P] (l : Addr) (xs : List α) : Asrt where
  holds := fun F H => F = [l] ∧ LsAt P H l xs
  st := fun ⟨z, h⟩ k kp => ⟨z, h.move k (fun v x q => Stab.st k q) (kp l (by rw [z]; exact List.mem_singleton.mpr rfl))⟩
  occ := fun ⟨z, vs, h, _⟩ b hb => by
    rw [z] at hb
    rw [List.mem_singleton.mp hb]
    exact ⟨_, h⟩
def rD {κ α : Type} (f : κ → Key) (P : Hp → V → α → Prop) [Stab P] (d : Addr) (rs : List (κ × α)) : Asrt where
  holds := fun F H => F = [d] ∧ DcAt f P H d rs
  st := fun ⟨z, h⟩ k kp => ⟨z, h.move (fun v x q => Stab.st k q) (kp d (by rw [z]; exact List.mem_singleton.mpr rfl))⟩
  occ := fun ⟨z, vs, h, _⟩ b hb => by
    rw [z] at hb
    rw [List.mem_singleton.mp hb]
    exact ⟨_, h⟩
theorem has_keys0 {rs : Recs} {k : Str} (h : hasR rs k = true) : k ∈ keysA rs := lookA_some.mp h
/-- every change in the log is of a good deed -/
def HS.LogD (s : HS) : Prop := ∀ e ∈ s.log, e.deed.okD
theorem logD_write {s : HS} (h : s.LogD) {ds : List Deed} (hd : ∀ d ∈ ds, d.okD) : (s.write ds).LogD := fun e he => by
  rw [write_log] at he
  rcases List.mem_append.mp he with z | z
  · exact h e z
  · obtain ⟨d, hm, rfl⟩ := List.mem_map.mp z
    exact hd d (List.mem_filter.mp hm).1
theorem logD_endL {s : HS} (h : s.LogD) {keys : List Str} (hk : s.keysIn keys) (hkk : ∀ x ∈ keys, isKey x = true) (l : Int) : (s.endL l).LogD := fun e he => by
  rw [endL_log] at he
  rcases List.mem_append.mp he with z | z
  · exact h e z
  · obtain ⟨k, hm, rfl⟩ := List.mem_map.mp z
    exact hkk k (hk k (has_keys0 (keysOf_has hm)))
theorem logD_fold {keys : List Str} (hkk : ∀ x ∈ keys, isKey x = true) (goal : Int) : ∀ (ps : List (Int × Int)) {s : HS}, s.LogD → s.keysIn keys → (ps.foldl (HS.step goal) s).LogD
  | [], _, h, _ => h
  | p :: r, s, h, hk => by
    rw [List.foldl_cons]
    by_cases hp : p.1 ≤ goal
    · rw [step_yes hp]
      exact logD_fold hkk goal r (logD_endL (s := { s with now := p.1 }) h hk hkk p.2) (keysIn_endL (s := { s with now := p.1 }) hk p.2)
    · rw [step_no hp]
      exact logD_fold hkk goal r h hk
theorem logD_act {s : HS} (h : s.LogD) {keys : List Str} (hk : s.keysIn keys) (hkk : ∀ x ∈ keys, isKey x = true) {d : LDeed} (hd : d.ok s) : (s.act d).LogD := by
  cases d with
  | one d => exact logD_write h fun x hx => by rw [List.mem_singleton.mp hx]; exact hd.1
  | deal cs ts os => exact logD_write h (pick_deal s cs (P := fun ds => ∀ d ∈ ds, d.okD) hd.2.1.2.1 hd.2.2.1.2.1)
  | grant t => exact h
  | wait n => exact logD_fold hkk (s.now + n) s.due h hk
  | renew l => exact h
  | give l => exact logD_endL h hk hkk l
/-- a good record, not changed behind n -/
structure RecG (n : Int) (r : Rec) : Prop where
  v0 : 0 ≤ r.value
  v1 : r.value ≤ 9999
  m1 : 1 ≤ r.made
  mc : r.made ≤ r.changed
  cn : r.changed ≤ n
  ver : 1 ≤ r.version
  ls : ∀ i, r.lease = some i → 1 ≤ i
def RecsG (n : Int) (rs : Recs) : Prop := ∀ k r, lookR rs k = some r → RecG n r
/-- what is true of a house in a law: n deeds so far, keys of ks alone -/
structure Sane (ks : List Str) (n : Nat) (s : HS) : Prop where
  fit : s.Fit ks n
  oldk : ∀ k ∈ keysA s.old, k ∈ ks
  key : ∀ x ∈ ks, isKey x = true
  few : ks.length < 64
  num : n ≤ 4000
  logd : s.LogD
  oldg : RecsG s.base s.old
section
variable {ks : List Str} {n m : Nat} {s : HS}
theorem Sane.wf (h : Sane ks n s) : s.Wf := h.fit.all.wf
theorem Sane.lw (h : Sane ks n s) : s.Lw := h.fit.all.lw
theorem Sane.last0 (h : Sane ks n s) : 0 ≤ s.last := h.fit.all.last0
theorem Sane.more (h : Sane ks n s) (hm : n ≤ m) (hm2 : m ≤ 4000) : Sane ks m s := ⟨fit_more h.fit hm, h.oldk, h.key, h.few, hm2, h.logd, h.oldg⟩
theorem Sane.recs_le (h : Sane ks n s) : s.recs.length ≤ ks.length := KW.recs_le h.wf h.fit.keys
theorem Sane.recs64 (h : Sane ks n s) : s.recs.length < 64 := Nat.lt_of_le_of_lt h.recs_le h.few
theorem Sane.old_le (h : Sane ks n s) : s.old.length ≤ ks.length := keys_le h.wf.ndo h.oldk
theorem Sane.log_le (h : Sane ks n s) : s.log.length ≤ 8 * n := Nat.le_trans (Nat.le_add_right _ _) h.fit.mu
theorem Sane.size (h : Sane ks n s) : s.log.length + s.old.length ≤ 50000 := by
  have h1 := h.log_le
  have h2 := h.old_le
  have h3 := h.few
  have h4 := h.num
  omega
theorem Sane.mu (h : Sane ks n s) : s.mu ≤ 40000 := by
  have h1 := h.fit.mu
  have h2 := h.num
  omega
theorem Sane.small (h : Sane ks n s) {j : Nat} (hj : j ≤ 100) : s.small j := by
  have h1 := h.mu
  unfold HS.mu at h1
  exact ⟨by omega, by omega⟩
theorem Sane.ends (h : Sane ks n s) : s.ends.length ≤ 40000 := by
  have h1 := h.fit.ends
  have h2 := h.num
  omega
theorem Sane.at_keys (h : Sane ks n s) (i : Int) : ∀ k ∈ keysA (s.at i), k ∈ ks := at_keysIn h.wf h.fit.logk h.oldk i
theorem Sane.at_le (h : Sane ks n s) (i : Int) : (s.at i).length < 64 := Nat.lt_of_le_of_lt (keys_le (at_nodup h.wf i) (h.at_keys i)) h.few
theorem Sane.act (h : Sane ks n s) {d : LDeed} (ok : d.ok s) (hk : d.keysIn ks) (hn : n + 1 ≤ 4000) : Sane ks (n + 1) (s.act d) := by
  obtain ⟨w1, w2, _, _⟩ := act_same h.wf d
  exact ⟨fit_act h.fit ok hk, by rw [w1]; exact h.oldk, h.key, h.few, hn, logD_act h.logd h.fit.keys h.key ok, by rw [w1, w2]; exact h.oldg⟩
theorem Sane.spans (h : Sane ks n s) (sp : List (Option Span)) : Sane ks n { s with spans := sp } := ⟨fit_spans h.fit sp, h.oldk, h.key, h.few, h.num, h.logd, h.oldg⟩
theorem sane_new (hk : ∀ x ∈ ks, isKey x = true) (h64 : ks.length < 64) : Sane ks 0 HS.new := ⟨fit_new _, (fun k h => nomatch h), hk, h64, by decide, (fun e h => nomatch h), fun k r h => nomatch h⟩
theorem sane_driven (h : Sane ks n s) (h0 : 0 < ks.length) (ns : List Int) (at_ : Int) : ∀ m, n + m ≤ 4000 → Sane ks (n + m) (driven ns at_ ks s m)
  | 0, _ => h
  | m + 1, hm => by
    have ih := sane_driven h h0 ns at_ m (by omega)
    obtain ⟨ok, hk⟩ := lawDeed_ok ih.fit.all ns (at_ + 130 * (m : Int)) h.key h0
    exact ih.act ok hk (by omega)
end
def rH (K : PySem.W.Frag) (ks : List Str) (n : Nat) (p : Addr) (s : HS) : Asrt where
  holds := fun F H => ∃ z : HCell, F = z.fp p ∧ HouseAt (clsHouse K) H p s z ∧ Sane ks n s
  st := fun ⟨z, e, h, ok⟩ k kp => ⟨z, e, h.move k fun b hb => kp b (by rw [e]; exact hb), ok⟩
  occ := fun ⟨z, e, h, _⟩ b hb => h.some (by rw [← e]; exact hb)
section
variable {K : PySem.W.Frag} {a l p : Addr} {ns : List Int} {H H' : Hp} {ks : List Str} {n : Nat} {s : HS} {α : Type} {P : Hp → V → α → Prop} [Stab P] {xs : List α} {As : List Asrt} {i : Nat}
theorem Has.ex {A : Asrt} (e : Ex H H') (h : Has A H) : Has A H' := by
  obtain ⟨F, h⟩ := h
  exact ⟨F, A.st h (Ex.kt e) fun b _ o ho => e b o ho⟩
theorem Has.scr (h : Has (rScr K a ns) H) : Scr K H a ns := by
  obtain ⟨F, h0, h⟩ := h
  refine ⟨?_, h0⟩
  rcases h with ⟨_, z⟩ | ⟨_, o, z⟩
  · exact .inr z
  · exact .inl ⟨o, z⟩
theorem Has.ls (h : Has (rL P l xs) H) : LsAt P H l xs := by
  obtain ⟨F, _, h⟩ := h
  exact h
theorem Has.dc {κ : Type} {f : κ → Key} {rs : List (κ × α)} (h : Has (rD f P l rs) H) : DcAt f P H l rs := by
  obtain ⟨F, _, h⟩ := h
  exact h
theorem Has.house (h : Has (rH K ks n p s) H) : ∃ z, HouseAt (clsHouse K) H p s z := by
  obtain ⟨F, z, _, h, _⟩ := h
  exact ⟨z, h⟩
theorem Has.sane (h : Has (rH K ks n p s) H) : Sane ks n s := by
  obtain ⟨F, z, _, _, h⟩ := h
  exact h
theorem scr_holds (h : Scr K H a ns) : ∃ F, (rScr K a ns).holds F H ∧ ∀ b ∈ F, b = a := by
  rcases h.1 with ⟨o, z⟩ | z
  · exact ⟨[a], ⟨h.2, .inr ⟨rfl, o, z⟩⟩, fun b hb => List.mem_singleton.mp hb⟩
  · exact ⟨[], ⟨h.2, .inl ⟨rfl, z⟩⟩, fun b hb => by cases hb⟩
/-- the things by their places -/
theorem Sep.at0 {A : Asrt} {As : List Asrt} (h : Sep (A :: As) H) : Has A H := h.has (i := 0) rfl
theorem Sep.at1 {A A0 : Asrt} {As : List Asrt} (h : Sep (A0 :: A :: As) H) : Has A H := h.has (i := 1) rfl
theorem Sep.at2 {A A0 A1 : Asrt} {As : List Asrt} (h : Sep (A0 :: A1 :: A :: As) H) : Has A H := h.has (i := 2) rfl
theorem Sep.at3 {A A0 A1 A2 : Asrt} {As : List Asrt} (h : Sep (A0 :: A1 :: A2 :: A :: As) H) : Has A H := h.has (i := 3) rfl
theorem Sep.at4 {A A0 A1 A2 A3 : Asrt} {As : List Asrt} (h : Sep (A0 :: A1 :: A2 :: A3 :: A :: As) H) : Has A H := h.has (i := 4) rfl
theorem Sep.at5 {A A0 A1 A2 A3 A4 : Asrt} {As : List Asrt} (h : Sep (A0 :: A1 :: A2 :: A3 :: A4 :: A :: As) H) : Has A H := h.has (i := 5) rfl
theorem Sep.at6 {A A0 A1 A2 A3 A4 A5 : Asrt} {As : List Asrt} (h : Sep (A0 :: A1 :: A2 :: A3 :: A4 :: A5 :: A :: As) H) : Has A H := h.has (i := 6) rfl
theorem Sep.at7 {A A0 A1 A2 A3 A4 A5 A6 : Asrt} {As : List Asrt} (h : Sep (A0 :: A1 :: A2 :: A3 :: A4 :: A5 :: A6 :: A :: As) H) : Has A H := h.has (i := 7) rfl
theorem Sep.at8 {A A0 A1 A2 A3 A4 A5 A6 A7 : Asrt} {As : List Asrt} (h : Sep (A0 :: A1 :: A2 :: A3 :: A4 :: A5 :: A6 :: A7 :: A :: As) H) : Has A H := h.has (i := 8) rfl
theorem Sep.at9 {A A0 A1 A2 A3 A4 A5 A6 A7 A8 : Asrt} {As : List Asrt} (h : Sep (A0 :: A1 :: A2 :: A3 :: A4 :: A5 :: A6 :: A7 :: A8 :: A :: As) H) : Has A H := h.has (i := 9) rfl
theorem Sep.at10 {A A0 A1 A2 A3 A4 A5 A6 A7 A8 A9 : Asrt} {As : List Asrt} (h : Sep (A0 :: A1 :: A2 :: A3 :: A4 :: A5 :: A6 :: A7 :: A8 :: A9 :: A :: As) H) : Has A H := h.has (i := 10) rfl
theorem Sep.at11 {A A0 A1 A2 A3 A4 A5 A6 A7 A8 A9 A10 : Asrt} {As : List Asrt} (h : Sep (A0 :: A1 :: A2 :: A3 :: A4 :: A5 :: A6 :: A7 :: A8 :: A9 :: A10 :: A :: As) H) : Has A H := h.has (i := 11) rfl
theorem Sep.at12 {A A0 A1 A2 A3 A4 A5 A6 A7 A8 A9 A10 A11 : Asrt} {As : List Asrt} (h : Sep (A0 :: A1 :: A2 :: A3 :: A4 :: A5 :: A6 :: A7 :: A8 :: A9 :: A10 :: A11 :: A :: As) H) : Has A H := h.has (i := 12) rfl
theorem Sep.at13 {A A0 A1 A2 A3 A4 A5 A6 A7 A8 A9 A10 A11 A12 : Asrt} {As : List Asrt} (h : Sep (A0 :: A1 :: A2 :: A3 :: A4 :: A5 :: A6 :: A7 :: A8 :: A9 :: A10 :: A11 :: A12 :: A :: As) H) : Has A H := h.has (i := 13) rfl
end
end KW

/-! what expressions evaluate to, beside things that stand apart -/
namespace KW
open PySem PySem.Spec PyProof.Rows L2 Evl
def EvR {α : Type} (te : TE) (σ : L2.St) (H : Hp) (P : Hp → V → α → Prop) (xs : List α) : Prop := EvP te σ H (fun H v => ∃ l, v = .ref l ∧ LsAt P H l xs)
def EvTp (te : TE) (σ : L2.St) (H : Hp) (vs : List V) : Prop := EvP te σ H (fun H v => TAt H v vs)
def EvD (K : PySem.W.Frag) (te : TE) (σ : L2.St) (H : Hp) (d : PyData) : Prop := EvP te σ H (fun H v => Dp K H v d)
/-- plain, and not deep -/
structure Pl (d : PyData) (n : Nat) : Prop where
  plain : d.plain = true
  depth : d.depth ≤ n
structure PlA (ds : List PyData) (n : Nat) : Prop where
  plain : PyData.plainAll ds = true
  depth : PyData.depthAll ds ≤ n
theorem pl_int {i : Int} {n : Nat} : Pl (.int i) n := ⟨rfl, Nat.zero_le _⟩
theorem pl_str {i : Str} {n : Nat} : Pl (.str i) n := ⟨rfl, Nat.zero_le _⟩
theorem pl_bl {i : Bool} {n : Nat} : Pl (.bool i) n := ⟨rfl, Nat.zero_le _⟩
theorem pl_non {n : Nat} : Pl .none n := ⟨rfl, Nat.zero_le _⟩
theorem pl_list {ds : List PyData} {n : Nat} (h : PlA ds n) : Pl (.list ds) (n + 1) := ⟨h.plain, Nat.succ_le_succ h.depth⟩
theorem pl_tup {ds : List PyData} {n : Nat} (h : PlA ds n) : Pl (.tuple ds) (n + 1) := ⟨h.plain, Nat.succ_le_succ h.depth⟩
theorem pla_nil {n : Nat} : PlA [] n := ⟨rfl, Nat.zero_le _⟩
theorem pla_cons {d : PyData} {ds : List PyData} {n : Nat} (h : Pl d n) (t : PlA ds n) : PlA (d :: ds) n := ⟨by rw [PyData.plainAll, h.plain, t.plain]; rfl, by rw [PyData.depthAll]; exact Nat.max_le.mpr ⟨h.depth, t.depth⟩⟩
theorem pla_app : ∀ {ds es : List PyData} {n : Nat}, PlA ds n → PlA es n → PlA (ds ++ es) n
  | [], _, _, _, h => h
  | d :: r, es, n, h, t => by
    have h1 : d.plain = true ∧ PyData.plainAll r = true := by
      have := h.plain
      rw [PyData.plainAll, Bool.and_eq_true] at this
      exact this
    have h2 := h.depth
    rw [PyData.depthAll] at h2
    exact pla_cons ⟨h1.1, Nat.le_trans (Nat.le_max_left _ _) h2⟩ (pla_app ⟨h1.2, Nat.le_trans (Nat.le_max_right _ _) h2⟩ t)
theorem pla_map {α : Type} {f : α → PyData} {n : Nat} : ∀ {xs : List α}, (∀ x ∈ xs, Pl (f x) n) → PlA (xs.map f) n
  | [], _ => pla_nil
  | x :: r, h => pla_cons (h x List.mem_cons_self) (pla_map fun y hy => h y (List.mem_cons_of_mem _ hy))
theorem pla_enc {α : Type} {P : Hp → V → α → Prop} {N : Enc P} {xs : List α} {n : Nat} (h : 20 ≤ n) : PlA (xs.map N.D) n := ⟨N.plains xs, Nat.le_trans (N.depths xs) h⟩
theorem pl_enc {α : Type} {P : Hp → V → α → Prop} {N : Enc P} {x : α} {n : Nat} (h : 20 ≤ n) : Pl (N.D x) n := ⟨N.plain x, Nat.le_trans (N.depth x) h⟩
theorem pl_encL {α : Type} {P : Hp → V → α → Prop} {N : Enc P} {xs : List α} {n : Nat} (h : 20 ≤ n) : Pl (N.L xs) (n + 1) := pl_list (pla_enc h)
def BlV (_ : Hp) (v : V) (b : Bool) : Prop := v = .bl b
instance : Stab BlV := ⟨fun _ h => h⟩
def rGtS : R2 := fun x y H Q => ∃ i j, x = .str i ∧ y = .str j ∧ Q (.bl (decide (j.cps.toList < i.cps.toList))) H
theorem op_gtS {X : Cx} : OpR X (compareOp .Gt) rGtS := op_gt_str
theorem bls_of {H : Hp} : ∀ {ws : List V} {xs : List Bool}, Paired (BlV H) ws xs → ws = xs.map V.bl
  | _, _, .nil => rfl
  | _, _, .cons r t => by rw [List.map_cons, ← bls_of t, show _ = _ from r]
theorem eqvL_nil {ds : List PyData} : PyData.eqv (.list ds) (.list []) = decide (ds = []) := by
  cases ds with
  | nil => rfl
  | cons d r => rfl
theorem strs_of {H : Hp} : ∀ {ws : List V} {xs : List Str}, Paired (StrV H) ws xs → ws = xs.map V.str
  | _, _, .nil => rfl
  | _, _, .cons r t => by rw [List.map_cons, ← strs_of t, show _ = _ from r]
theorem ints_of {H : Hp} : ∀ {ws : List V} {xs : List Int}, Paired (IntV H) ws xs → ws = xs.map V.int
  | _, _, .nil => rfl
  | _, _, .cons r t => by rw [List.map_cons, ← ints_of t, show _ = _ from r]
theorem Has.strs {H : Hp} {l : Addr} {xs : List Str} (h : Has (rL StrV l xs) H) : H l = some (.lst (xs.map V.str)) := by
  obtain ⟨ws, w1, w2⟩ := h.ls
  rw [strs_of w2] at w1
  exact w1
section
variable {α β : Type} {K : PySem.W.Frag} {σ : L2.St} {H H' : Hp} {te ta tb tc td tl : TE} {tr : TA} {P : Hp → V → α → Prop} [Stab P] {xs ys : List α} {x : α} {v u w : V} {i j k : Int} {l p a : Addr} {E : XK}
theorem EvR.mono (e : Ex H H') (h : EvR te σ H P xs) : EvR te σ H' P xs := EvP.mono e h
theorem EvP.ev (h : EvP te σ H (fun _ u => u = v)) : Ev te σ H v := fun H1 e Q q => h H1 e Q fun u H2 e2 hu => by
  rw [hu]
  exact q H2 e2
theorem LsAt.ex (e : Ex H H') (h : LsAt P H l xs) : LsAt P H' l xs := h.move (Ex.kt e) (fun v x q => Stab.st (Ex.kt e) q) fun o q => e _ _ q
omit [Stab P] in
theorem evr_var {st : Stab P} {n : Nat} (h : σ[n]? = some (some (.ref l))) (hl : Has (rL P l xs) H) : EvR (tVar n) σ H P xs := Ev.p (ev_var h) fun H1 e => ⟨l, rfl, hl.ls.ex e⟩
omit [Stab P] in
theorem evr_ev {st : Stab P} (h : Ev te σ H (.ref l)) (hl : Has (rL P l xs) H) : EvR te σ H P xs := Ev.p h fun H1 e => ⟨l, rfl, hl.ls.ex e⟩
theorem evr_at {n : Nat} (h : σ[n]? = some (some (.ref l))) (hl : LsAt P H l xs) : EvR (tVar n) σ H P xs := Ev.p (ev_var h) fun H1 e => ⟨l, rfl, hl.ex e⟩
omit [Stab P] in
theorem evr_new (h : EvLP te σ H P xs) : EvR te σ H P xs := h.p
theorem evl_ints {is : List Int} (h : EvL te σ H (is.map V.int)) : EvLP te σ H IntV is := EvL.lp h
theorem evl_strs {is : List Str} (h : EvL te σ H (is.map V.str)) : EvLP te σ H StrV is := EvL.lp h
omit [Stab P] in
theorem ev_lenR (h : EvR te σ H P xs) : Ev (tCB (rLenS K) (tCons te tNil)) σ H (.int (xs.length : Int)) := fun H1 e Q q =>
  h H1 e _ fun v H2 e2 hv => by
    obtain ⟨l, rfl, vs, h1, h2⟩ := hv
    rw [← pr_len h2] at q
    exact ⟨l, vs, rfl, .inl (sq_of h1), q H2 e2⟩
theorem evp_ixR (h : EvR ta σ H P xs) (hb : Ev tb σ H (.int i)) (h0 : 0 ≤ i) (hx : xs[i.toNat]? = some x) : EvP (tOp (rIxL K) ta tb) σ H (fun H v => P H v x) := fun H1 e Q q =>
  h H1 e _ fun v H2 e2 hv => hb H2 (e.trans e2) _ fun H3 e3 => by
    obtain ⟨l, rfl, vs, h1, h2⟩ := hv
    obtain ⟨u, g1, g2⟩ := pr_get' h2 hx
    refine ⟨l, vs, i, u, rfl, rfl, sq_of (e3 _ _ h1), ?_, q u H3 (e2.trans e3) (Stab.st (Ex.kt e3) g2)⟩
    exact atI_int' h0 g1
/-- an item of a list of ints, of texts -/
theorem ev_ixI {is : List Int} (h : EvR ta σ H IntV is) (hb : Ev tb σ H (.int i)) (h0 : 0 ≤ i) (h1 : i < (is.length : Int)) : Ev (tOp (rIxL K) ta tb) σ H (.int (is.getD i.toNat 0)) :=
  EvP.ev (evp_ixR (P := IntV) h hb h0 (by
    have : i.toNat < is.length := by omega
    rw [List.getElem?_eq_getElem this, List.getD_eq_getElem?_getD, List.getElem?_eq_getElem this]
    rfl))
theorem ev_ixStr {is : List Str} (h : EvR ta σ H StrV is) (hb : Ev tb σ H (.int i)) (h0 : 0 ≤ i) (h1 : i < (is.length : Int)) : Ev (tOp (rIxL K) ta tb) σ H (.str (pick is i)) :=
  EvP.ev (evp_ixR (P := StrV) h hb h0 (by
    have : i.toNat < is.length := by omega
    unfold pick
    rw [List.getElem?_eq_getElem this, List.getD_eq_getElem?_getD, List.getElem?_eq_getElem this]
    rfl))
theorem ev_ixV {is : List V} (h : EvR ta σ H IsV is) (hb : Ev tb σ H (.int i)) (h0 : 0 ≤ i) (h1 : is[i.toNat]? = some v) : Ev (tOp (rIxL K) ta tb) σ H v := EvP.ev (evp_ixR (P := IsV) h hb h0 h1)
theorem evr_lst {vs : List V} (h : EvA tr σ H vs) (hl : vs.length ≤ 100000) : EvLP (tLst tr) σ H IsV vs := fun H1 e Q q => el_lst h hl H1 e Q fun p H2 hp e2 h2 => q p H2 hp e2 ⟨vs, h2, paired_eq vs⟩
theorem evl_nil : EvLP (tLst tNil) σ H P [] := fun H1 e Q q => el_lst (ea_nil) (by decide) H1 e Q fun p H2 hp e2 h2 => q p H2 hp e2 ⟨[], h2, .nil⟩
theorem evl_cat (ha : EvR ta σ H P xs) (hb : EvR tb σ H P ys) (hl : xs.length + ys.length ≤ 100000) : EvLP (tOp rCat ta tb) σ H P (xs ++ ys) := fun H1 e Q q =>
  ha H1 e _ fun v H2 e2 hv => hb H2 (e.trans e2) _ fun w H3 e3 hw => by
    obtain ⟨l, rfl, hl1⟩ := hv
    obtain ⟨m, rfl, ws, w1, w2⟩ := hw
    obtain ⟨vs, v1, v2⟩ := hl1.ex e3
    refine ⟨l, m, vs, ws, rfl, rfl, v1, w1, sz_of (by rw [pr_len v2, pr_len w2]; exact hl), fun t ht => q t _ (fresh_back (e2.trans e3) ht) ((e2.trans e3).trans (Ex.new ht)) ⟨_, upd_same, ?_⟩⟩
    exact pr_append (pr_mono v2 fun _ _ z => Stab.st (Ex.kt (Ex.new ht)) z) (pr_mono w2 fun _ _ z => Stab.st (Ex.kt (Ex.new ht)) z)
/-! tuples -/
theorem evt_tup {vs : List V} (h : EvA tr σ H vs) (hl : vs.length ≤ 100000) : EvTp (tTup tr) σ H vs := EvU.p (eu_tup h hl)
theorem evt_v {vs : List V} (h : Ev te σ H v) (ht : TAt H v vs) : EvTp te σ H vs := Ev.p h fun H1 e => ht.kt (Ex.kt e)
theorem ev_ixTp {vs : List V} (h : EvTp ta σ H vs) (hb : Ev tb σ H (.int i)) (hv : atI vs i = some v) : Ev (tOp (rIxT K) ta tb) σ H v := fun H1 e Q q =>
  h H1 e _ fun u H2 e2 hu => hb H2 (e.trans e2) _ fun H3 e3 => by
    obtain ⟨t, rfl, ht⟩ := hu
    exact ⟨t, vs, i, v, rfl, rfl, st_of (e3 _ _ ht), hv, q H3 (e2.trans e3)⟩
theorem evt_ixT {vs ws : List V} (h : EvP ta σ H (fun H v => ∃ us, TAt H v us ∧ ∃ t, atI us i = some t ∧ TAt H t ws)) (hb : Ev tb σ H (.int i)) : EvTp (tOp (rIxT K) ta tb) σ H ws := fun H1 e Q q =>
  h H1 e _ fun u H2 e2 hu => hb H2 (e.trans e2) _ fun H3 e3 => by
    obtain ⟨us, ⟨t, rfl, ht⟩, r, hr, hw⟩ := hu
    exact ⟨t, us, i, r, rfl, rfl, st_of (e3 _ _ ht), hr, q r H3 (e2.trans e3) (hw.kt (Ex.kt e3))⟩
/-! data -/
theorem evd_int (h : Ev te σ H (.int i)) : EvD K te σ H (.int i) := Ev.p h fun H1 e => .int i
theorem evd_str {s : Str} (h : Ev te σ H (.str s)) : EvD K te σ H (.str s) := Ev.p h fun H1 e => .str s
theorem evd_bl {b : Bool} (h : Ev te σ H (.bl b)) : EvD K te σ H (.bool b) := Ev.p h fun H1 e => .bl b
theorem evd_non (h : Ev te σ H .non) : EvD K te σ H .none := Ev.p h fun H1 e => .non
theorem evd_opt {o : Option Int} (h : Ev te σ H (optV o)) : EvD K te σ H (flatD (optV o)) := by
  cases o with
  | none => exact evd_non h
  | some i => exact evd_int h
theorem evd_enc (N : Enc P) (h : EvP te σ H (fun H v => P H v x)) : EvD K te σ H (N.D x) := EvP.imp h fun H v hv => N.dp hv
theorem evd_ls (N : Enc P) (h : EvR te σ H P xs) : EvD K te σ H (N.L xs) := EvP.imp h fun H v ⟨l, e, hl⟩ => by
  rw [e]
  exact N.dpL hl
theorem evd_tup {ds : List PyData} (h : EvDs K tr σ H ds) (hl : ds.length ≤ 100000) : EvD K (tTup tr) σ H (.tuple ds) := ed_tup h hl
theorem evd_lst {ds : List PyData} (h : EvDs K tr σ H ds) (hl : ds.length ≤ 100000) : EvD K (tLst tr) σ H (.list ds) := EvP.dl (ed_lst h hl)
theorem evd_cons {d : PyData} {ds : List PyData} (h : EvD K te σ H d) (hr : EvDs K tr σ H ds) : EvDs K (tCons te tr) σ H (d :: ds) := eds_cons h hr
theorem ev_eqD {d e : PyData} (ha : EvD K ta σ H d) (hb : EvD K tb σ H e) (pd : Pl d 60) (pe : Pl e 60) : Ev (tOp (rEqP K) ta tb) σ H (.bl (PyData.eqv d e)) := ev_eqPP ha hb pd.plain pe.plain pd.depth
theorem ev_neD {d e : PyData} (ha : EvD K ta σ H d) (hb : EvD K tb σ H e) (pd : Pl d 60) (pe : Pl e 60) : Ev (tOp (rNeP K) ta tb) σ H (.bl (!PyData.eqv d e)) := ev_nePP ha hb pd.plain pe.plain pd.depth
theorem ev_eqD1 {d : PyData} (ha : EvD K ta σ H d) (hb : EvD K tb σ H d) (pd : Pl d 60) : Ev (tOp (rEqP K) ta tb) σ H (.bl true) := ev_eqSame ha hb pd.plain pd.depth
theorem ev_neD1 {d : PyData} (ha : EvD K ta σ H d) (hb : EvD K tb σ H d) (pd : Pl d 60) : Ev (tOp (rNeP K) ta tb) σ H (.bl false) := ev_neSame ha hb pd.plain pd.depth
omit [Stab P] in
theorem ev_eqR1 (N : Enc P) (ha : EvR ta σ H P xs) (hb : EvR tb σ H P xs) : Ev (tOp (rEqP K) ta tb) σ H (.bl true) := ev_eqL N (EvP.imp ha fun H v ⟨l, e, hl⟩ => by rw [e]; exact N.dpL hl) (EvP.imp hb fun H v ⟨l, e, hl⟩ => by rw [e]; exact N.dpL hl)
omit [Stab P] in
theorem ev_neR1 (N : Enc P) (ha : EvR ta σ H P xs) (hb : EvR tb σ H P xs) : Ev (tOp (rNeP K) ta tb) σ H (.bl false) := ev_neL N (EvP.imp ha fun H v ⟨l, e, hl⟩ => by rw [e]; exact N.dpL hl) (EvP.imp hb fun H v ⟨l, e, hl⟩ => by rw [e]; exact N.dpL hl)
/-- == [] -/
theorem ev_eqNilR (N : Enc P) (h : EvR te σ H P xs) : Ev (tOp (rEqP K) te (tLst tNil)) σ H (.bl (decide (xs = []))) := by
  have h1 := ev_eqD (K := K) (evd_ls N h) (evd_lst (K := K) (σ := σ) (H := H) eds_nil (by decide)) (pl_encL (by decide)) (pl_list pla_nil)
  have e : PyData.eqv (N.L xs) (.list []) = decide (xs = []) := by
    unfold Enc.L
    rw [eqvL_nil]
    simp
  rw [e] at h1
  exact h1
theorem ev_neNilR (N : Enc P) (h : EvR te σ H P xs) : Ev (tOp (rNeP K) te (tLst tNil)) σ H (.bl (!decide (xs = []))) := by
  have h1 := ev_neD (K := K) (evd_ls N h) (evd_lst (K := K) (σ := σ) (H := H) eds_nil (by decide)) (pl_encL (by decide)) (pl_list pla_nil)
  have e : PyData.eqv (N.L xs) (.list []) = decide (xs = []) := by
    unfold Enc.L
    rw [eqvL_nil]
    simp
  rw [e] at h1
  exact h1
/-! comprehensions over lists -/
theorem evl_lc {R : Hp → V → β → Prop} [Stab R] {tt : TT} {n : Nat} {vs : List Nat} {ds : List β} (hs : EvR tl σ H R ds) (f : β → Option α) (hw : ∀ x : V, wipe ((wipe σ vs).set n (some x)) vs = wipe σ vs)
    (turn : ∀ x d H1, Ex H H1 → R H1 x d → d ∈ ds → EvT tt ((wipe σ vs).set n (some x)) H1 (f d).isSome ∧ ∀ y, f d = some y → EvP te ((wipe σ vs).set n (some x)) H1 (fun H v => P H v y)) (hl : ds.length ≤ 100000) :
    EvLP (tLc (iList K tl) (gName n) tt te vs) σ H P (ds.filterMap f) :=
  lc_gen (R := R) (fun H1 e Q q => hs H1 e _ fun v H2 e2 hv => by
    obtain ⟨l, rfl, ws, h1, h2⟩ := hv
    exact ⟨l, rfl, ⟨ws, sq_of h1⟩, q _ H2 e2 ((walk_list (sq_of h1)).to2 h2 fun H v d e3 z => Stab.st (Ex.kt e3) z)⟩) f (fun _ _ _ _ k z => Stab.st k z) (fun x d H1 e1 hx hd => ⟨_, g_name, hw x, turn x d H1 e1 hx hd⟩) hl
theorem evl_lc2 {R : Hp → V → β → Prop} [Stab R] {tt : TT} {n m : Nat} {vs : List Nat} {ds : List β} (hs : EvR tl σ H R ds) (f : β → Option α) (two : ∀ H v d, R H v d → ∃ a b, TAt H v [a, b]) (hw : ∀ x y : V, wipe (((wipe σ vs).set n (some x)).set m (some y)) vs = wipe σ vs)
    (turn : ∀ x a b d H1, Ex H H1 → R H1 x d → TAt H1 x [a, b] → d ∈ ds → EvT tt (((wipe σ vs).set n (some a)).set m (some b)) H1 (f d).isSome ∧ ∀ y, f d = some y → EvP te (((wipe σ vs).set n (some a)).set m (some b)) H1 (fun H v => P H v y)) (hl : ds.length ≤ 100000) :
    EvLP (tLc (iList K tl) (gTup K 2 (gCons (gName n) (gCons (gName m) gNil))) tt te vs) σ H P (ds.filterMap f) :=
  lc_gen (R := R) (fun H1 e Q q => hs H1 e _ fun v H2 e2 hv => by
    obtain ⟨l, rfl, ws, h1, h2⟩ := hv
    exact ⟨l, rfl, ⟨ws, sq_of h1⟩, q _ H2 e2 ((walk_list (sq_of h1)).to2 h2 fun H v d e3 z => Stab.st (Ex.kt e3) z)⟩) f (fun _ _ _ _ k z => Stab.st k z) (fun x d H1 e1 hx hd => by
    obtain ⟨a, b, hab⟩ := two _ _ _ hx
    exact ⟨_, g_two hab, hw a b, turn x a b d H1 e1 hx hab hd⟩) hl
theorem evl_filter {tt : TT} {n : Nat} {vs : List Nat} {f : α → Bool} (hs : EvR tl σ H P xs) (hw : ∀ x : V, wipe ((wipe σ vs).set n (some x)) vs = wipe σ vs) (hx : ∀ x : V, ((wipe σ vs).set n (some x))[n]? = some (some x))
    (turn : ∀ x d H1, Ex H H1 → P H1 x d → d ∈ xs → EvT tt ((wipe σ vs).set n (some x)) H1 (f d)) (hl : xs.length ≤ 100000) : EvLP (tLc (iList K tl) (gName n) tt (tVar n) vs) σ H P (xs.filter f) := by
  have h := evl_lc (K := K) (P := P) (te := tVar n) (tt := tt) (n := n) (vs := vs) hs (fun d => if f d = true then some d else none) hw (fun x d H1 e1 hx1 hd => ⟨by
    have w : (if f d = true then some d else none).isSome = f d := by cases f d <;> rfl
    rw [w]
    exact turn x d H1 e1 hx1 hd, fun y hy => by
    split at hy
    · cases hy
      exact Ev.p (ev_var (hx x)) fun H2 e2 => Stab.st (Ex.kt e2) hx1
    · cases hy⟩) hl
  rw [fm_ite] at h
  exact h
theorem evl_map {R : Hp → V → β → Prop} [Stab R] {n : Nat} {vs : List Nat} {g : α → β} (hs : EvR tl σ H P xs) (hw : ∀ x : V, wipe ((wipe σ vs).set n (some x)) vs = wipe σ vs)
    (turn : ∀ x d H1, Ex H H1 → P H1 x d → d ∈ xs → EvP te ((wipe σ vs).set n (some x)) H1 (fun H v => R H v (g d))) (hl : xs.length ≤ 100000) : EvLP (tLc (iList K tl) (gName n) tYes te vs) σ H R (xs.map g) := by
  have h := evl_lc (K := K) (P := R) (te := te) (tt := tYes) (n := n) (vs := vs) hs (fun d => some (g d)) hw (fun x d H1 e1 hx1 hd => ⟨et_yes, fun y hy => by
    cases hy
    exact turn x d H1 e1 hx1 hd⟩) hl
  rw [fm_some] at h
  exact h
/-! changes -/
theorem evv_v {e : Evt} (h : Ev te σ H v) (hv : EvV H v e) : EvP te σ H (fun H v => EvV H v e) := Ev.p h fun H1 e1 => EvV.kt (Ex.kt e1) hv
theorem ev_evKey {e : Evt} (h : EvP te σ H (fun H v => EvV H v e)) : Ev (tOp (rIxT K) te (tC (.int 2))) σ H (.str e.deed.key) := ev_ixTp (vs := evVs e) h ev_c (by
  obtain ⟨n, d⟩ := e
  cases d <;> rfl)
theorem ev_evNum {e : Evt} (h : EvP te σ H (fun H v => EvV H v e)) : Ev (tOp (rIxT K) te (tC (.int 0))) σ H (.int e.num) := ev_ixTp (vs := evVs e) h ev_c (by
  obtain ⟨n, d⟩ := e
  cases d <;> rfl)
/-! texts, sorted lists, all and any -/
theorem LsAt.strs {xs : List Str} (h : LsAt StrV H l xs) : H l = some (.lst (xs.map V.str)) := by
  obtain ⟨ws, w1, w2⟩ := h
  rw [strs_of w2] at w1
  exact w1
theorem LsAt.ints {xs : List Int} (h : LsAt IntV H l xs) : H l = some (.lst (xs.map V.int)) := by
  obtain ⟨ws, w1, w2⟩ := h
  rw [ints_of w2] at w1
  exact w1
theorem LsAt.bls {xs : List Bool} (h : LsAt BlV H l xs) : H l = some (.lst (xs.map V.bl)) := by
  obtain ⟨ws, w1, w2⟩ := h
  rw [bls_of w2] at w1
  exact w1
theorem evl_sortS {xs : List Str} (h : EvR te σ H StrV xs) (hl : xs.length < 64) : EvLP (tCB (rSortedS K) (tCons te tNil)) σ H StrV (sortS xs) := fun H1 e Q q =>
  h H1 e _ fun v H2 e2 hv => by
    obtain ⟨p, rfl, h2⟩ := hv
    exact ⟨p, xs, rfl, sq_of h2.strs, hl, fun ys l hperm hs hn => by
      rw [sorted_eq hperm (sortedS_pair ys hs)]
      exact q l _ (fresh_back e2 hn) (e2.trans (Ex.new hn)) ⟨_, upd_same, paired_map V.str _⟩⟩
theorem ev_allR {bs : List Bool} (h : EvR te σ H BlV bs) : Ev (tCB (rAll K) (tCons te tNil)) σ H (.bl (bs.all id)) := fun H1 e Q q =>
  h H1 e _ fun v H2 e2 hv => by
    obtain ⟨p, rfl, h2⟩ := hv
    exact ⟨p, bs, rfl, sq_of h2.bls, q H2 e2⟩
theorem ev_anyR {bs : List Bool} (h : EvR te σ H BlV bs) : Ev (tCB (rAny K) (tCons te tNil)) σ H (.bl (bs.any id)) := fun H1 e Q q =>
  h H1 e _ fun v H2 e2 hv => by
    obtain ⟨p, rfl, h2⟩ := hv
    exact ⟨p, bs, rfl, sq_of h2.bls, q H2 e2⟩
theorem ev_gtS {i j : Str} (ha : Ev ta σ H (.str i)) (hb : Ev tb σ H (.str j)) : Ev (tOp rGtS ta tb) σ H (.bl (!sLe i j)) := by
  have h : Ev (tOp rGtS ta tb) σ H (.bl (decide (j.cps.toList < i.cps.toList))) := ev_op ha hb (rv_val fun _ _ _ q => ⟨i, j, rfl, rfl, q⟩)
  unfold sLe
  rw [Bool.not_not]
  exact h
theorem ev_leSS {i j : Str} (ha : Ev ta σ H (.str i)) (hb : Ev tb σ H (.str j)) : Ev (tOp rLeS ta tb) σ H (.bl (sLe i j)) := ev_leS ha hb
theorem ev_neS {i j : Str} (ha : Ev ta σ H (.str i)) (hb : Ev tb σ H (.str j)) : Ev (tOp rNe ta tb) σ H (.bl (!decide (i = j))) := by
  have h := ev_ne ha hb rfl
  have e : decide (V.str i = V.str j) = decide (i = j) := by simp
  rw [e] at h
  exact h
theorem ev_neB {i j : Bool} (ha : Ev ta σ H (.bl i)) (hb : Ev tb σ H (.bl j)) : Ev (tOp rNe ta tb) σ H (.bl (!decide (i = j))) := by
  have h := ev_ne ha hb rfl
  have e : decide (V.bl i = V.bl j) = decide (i = j) := by simp
  rw [e] at h
  exact h
theorem ev_eqB {i j : Bool} (ha : Ev ta σ H (.bl i)) (hb : Ev tb σ H (.bl j)) : Ev (tOp rEq ta tb) σ H (.bl (decide (i = j))) := by
  have h := ev_eq ha hb rfl
  have e : decide (V.bl i = V.bl j) = decide (i = j) := by simp
  rw [e] at h
  exact h
theorem ev_int1 {b : Bool} (h : Ev te σ H (.bl b)) : Ev (tCB rInt1 (tCons te tNil)) σ H (.int (if b then 1 else 0)) := fun H1 e Q q => h H1 e _ fun H2 e2 => .inr ⟨b, rfl, q H2 e2⟩
theorem ev_withinS {x y z : Str} (h1 : Ev ta σ H (.str x)) (h2 : Ev tb σ H (.str y)) (h3 : Ev tc σ H (.str z)) : Ev (tChain rLeS rLeS ta tb tc) σ H (.bl (within y x z)) := ev_chain h1 h2 (rv_val fun _ _ _ q => ⟨_, _, rfl, rfl, q⟩) (fun _ => h3) fun _ => rv_val fun _ _ _ q => ⟨_, _, rfl, rfl, q⟩
/-! the laws' draws, and houses -/
variable {ns : List Int} {ks : List Str} {n : Nat} {s : HS} {m : Int}
theorem ev_mxS (ha : Ev ta σ H (.ref a)) (hs : Has (rScr K a ns) H) (hb : Ev tb σ H (.int k)) (hc : Ev tc σ H (.int m)) (hk : 0 ≤ k) (hm : 0 < m) : Ev (tCall (sp_l_mixed K) [] E (tCons ta (tCons tb (tCons tc tNil)))) σ H (.int (mixed ns k m)) := ev_mx ha hb hc hs.scr hk hm
theorem ev_numS (he : Ev te σ H (.ref p)) (hh : Has (rH K ks n p s) H) : Ev (tMeth (clsHouse K) "number" (sp_h_number K) [] E te tNil) σ H (.int s.last) := by
  obtain ⟨z, h⟩ := hh.house
  exact ev_number he h
theorem ev_clockS (he : Ev te σ H (.ref p)) (hh : Has (rH K ks n p s) H) : Ev (tMeth (clsHouse K) "clock" (sp_h_clock K) [] E te tNil) σ H (.int s.now) := by
  obtain ⟨z, h⟩ := hh.house
  exact fun H1 e1 Q q => meth_call (he.mono e1) (h.ex e1) (by decide +kernel) ea_nil fun H2 e2 => ⟨p, s, z, rfl, h.ex (e1.trans e2), q H2 e2⟩
theorem ev_foldedS (he : Ev te σ H (.ref p)) (hh : Has (rH K ks n p s) H) : Ev (tMeth (clsHouse K) "folded" (sp_h_folded K) [] E te tNil) σ H (.int s.base) := by
  obtain ⟨z, h⟩ := hh.house
  exact fun H1 e1 Q q => meth_call (he.mono e1) (h.ex e1) (by decide +kernel) ea_nil fun H2 e2 => ⟨p, s, z, rfl, h.ex (e1.trans e2), q H2 e2⟩
theorem evl_leasesS (he : Ev te σ H (.ref p)) (hh : Has (rH K ks n p s) H) : EvLP (tMeth (clsHouse K) "leases" (sp_h_leases K) [] E te tNil) σ H IntV s.leases := by
  obtain ⟨z, h⟩ := hh.house
  exact evl_ints (evl_leases he h)
theorem evl_watchersS (he : Ev te σ H (.ref p)) (hh : Has (rH K ks n p s) H) (hl : s.spans.length ≤ 50000) : EvLP (tMeth (clsHouse K) "watchers" (sp_h_watchers K) [] E te tNil) σ H IntV s.watchers := by
  obtain ⟨z, h⟩ := hh.house
  exact evl_ints fun H1 e1 Q q => meth_call (he.mono e1) (h.ex e1) (by decide +kernel) ea_nil fun H2 e2 => ⟨p, s, z, rfl, h.ex (e1.trans e2), hl, fun H3 r e3 hr h3 => q r H3 (fresh_back e2 hr) (e2.trans e3) h3⟩
theorem ev_leftS (he : Ev te σ H (.ref p)) (hh : Has (rH K ks n p s) H) (e1 : Ev ta σ H (.int i)) (hi : i ∈ keysA s.ends) : Ev (tMeth (clsHouse K) "left" (sp_h_left K) [] E te (tCons ta tNil)) σ H (.int (s.left i)) := by
  obtain ⟨z, h⟩ := hh.house
  exact fun H1 x1 Q q => meth_call (he.mono x1) (h.ex x1) (by decide +kernel) (ea_cons (e1.mono x1) ea_nil) fun H2 x2 => ⟨p, s, z, i, rfl, h.ex (x1.trans x2), (hh.sane.lw.pos i hi).1, hi, fun H3 x3 => q H3 (x2.trans x3)⟩
theorem evl_keysOfS (he : Ev te σ H (.ref p)) (hh : Has (rH K ks n p s) H) (e1 : Ev ta σ H (.int i)) (hi : i ∈ keysA s.ends) : EvLP (tMeth (clsHouse K) "keys_of" (sp_h_keys_of K) [] E te (tCons ta tNil)) σ H StrV (s.keysOf i) := by
  obtain ⟨z, h⟩ := hh.house
  exact evl_strs fun H1 x1 Q q => meth_call (he.mono x1) (h.ex x1) (by decide +kernel) (ea_cons (e1.mono x1) ea_nil) fun H2 x2 => ⟨p, s, z, i, rfl, h.ex (x1.trans x2), (hh.sane.lw.pos i hi).1, hi, hh.sane.recs64, fun H3 r x3 hr h3 => q r H3 (fresh_back x2 hr) (x2.trans x3) h3⟩
theorem evl_rowsS {x y : Str} (he : Ev te σ H (.ref p)) (hh : Has (rH K ks n p s) H) (h1 : Ev ta σ H (.str x)) (h2 : Ev tb σ H (.str y)) (ka : isKey x = true) (kb : isKey y = true) : EvLP (tMeth (clsHouse K) "rows" (sp_h_rows K) [.non] E te (tCons ta (tCons tb tNil))) σ H RowV (spanRows s.recs x y) := by
  obtain ⟨z, h⟩ := hh.house
  exact evp_rows he h h1 h2 ka kb hh.sane.wf hh.sane.size hh.sane.recs64
/-- all rows -/
theorem evl_rowsAll (he : Ev te σ H (.ref p)) (hh : Has (rH K ks n p s) H) : EvLP (tMeth (clsHouse K) "rows" (sp_h_rows K) [.non] E te (tCons (tC (.str "/")) (tCons (tC (.str "zzzzzzzzzzzz")) tNil))) σ H RowV (inRows s.recs) := by
  have h1 := evl_rowsS (E := E) (x := "/") (y := "zzzzzzzzzzzz") he hh ev_c ev_c key_lo key_hi
  rw [rows_all fun k hk' => hh.sane.key k (hh.sane.fit.keys k hk')] at h1
  exact h1
theorem evl_rowsNS {x y : Str} (he : Ev te σ H (.ref p)) (hh : Has (rH K ks n p s) H) (h1 : Ev ta σ H (.str x)) (h2 : Ev tb σ H (.str y)) (hn : Ev tc σ H (.int i)) (ka : isKey x = true) (kb : isKey y = true) (ok : 0 ≤ i ∧ i ≤ s.last ∧ s.base ≤ i) : EvLP (tMeth (clsHouse K) "rows" (sp_h_rows K) [] E te (tCons ta (tCons tb (tCons tc tNil)))) σ H RowV (spanRows (s.at i) x y) := by
  obtain ⟨z, h⟩ := hh.house
  exact evp_rowsN he h h1 h2 hn ka kb hh.sane.wf hh.sane.size (hh.sane.at_le i) ok
theorem evl_rowsNAll (he : Ev te σ H (.ref p)) (hh : Has (rH K ks n p s) H) (hn : Ev tc σ H (.int i)) (ok : 0 ≤ i ∧ i ≤ s.last ∧ s.base ≤ i) : EvLP (tMeth (clsHouse K) "rows" (sp_h_rows K) [] E te (tCons (tC (.str "/")) (tCons (tC (.str "zzzzzzzzzzzz")) (tCons tc tNil)))) σ H RowV (inRows (s.at i)) := by
  have h1 := evl_rowsNS (E := E) (x := "/") (y := "zzzzzzzzzzzz") he hh ev_c ev_c hn key_lo key_hi ok
  rw [rows_all fun k hk' => hh.sane.key k (hh.sane.at_keys i k hk')] at h1
  exact h1
theorem evp_lookS {x : Str} (he : Ev te σ H (.ref p)) (hh : Has (rH K ks n p s) H) (h1 : Ev ta σ H (.str x)) (ka : isKey x = true) : EvP (tMeth (clsHouse K) "look" (sp_h_look K) [.non] E te (tCons ta tNil)) σ H (fun H v => recOV H v (lookR s.recs x)) := by
  obtain ⟨z, h⟩ := hh.house
  exact evp_look he h h1 ka hh.sane.wf hh.sane.size
theorem evp_lookNS {x : Str} (he : Ev te σ H (.ref p)) (hh : Has (rH K ks n p s) H) (h1 : Ev ta σ H (.str x)) (hn : Ev tb σ H (.int i)) (ka : isKey x = true) (ok : 0 ≤ i ∧ i ≤ s.last ∧ s.base ≤ i) : EvP (tMeth (clsHouse K) "look" (sp_h_look K) [] E te (tCons ta (tCons tb tNil))) σ H (fun H v => recOV H v (lookR (s.at i) x)) := by
  obtain ⟨z, h⟩ := hh.house
  exact evp_lookN he h h1 hn ka hh.sane.wf hh.sane.size ok
theorem evl_changesS {x y : Str} (he : Ev te σ H (.ref p)) (hh : Has (rH K ks n p s) H) (h1 : Ev ta σ H (.str x)) (h2 : Ev tb σ H (.str y)) (hn : Ev tc σ H (.int i)) (ka : isKey x = true) (kb : isKey y = true) (ok : 1 ≤ i ∧ s.base < i) : EvLP (tMeth (clsHouse K) "changes" (sp_h_changes K) [] E te (tCons ta (tCons tb (tCons tc tNil)))) σ H EvV (s.since x y i) := by
  obtain ⟨z, h⟩ := hh.house
  exact fun H1 e1 Q q => meth_call (he.mono e1) (h.ex e1) (by decide +kernel) (ea_cons (h1.mono e1) (ea_cons (h2.mono e1) (ea_cons (hn.mono e1) ea_nil))) fun H2 e2 => ⟨p, s, z, _, _, i, rfl, h.ex (e1.trans e2), ka, kb, by have := hh.sane.size; omega, fun H3 e3 => ⟨fun z => by omega, fun _ z => by omega, fun _ _ r hr hl => q r H3 (fresh_back e2 hr) (e2.trans e3) hl⟩⟩
theorem evl_changesAll (he : Ev te σ H (.ref p)) (hh : Has (rH K ks n p s) H) (hn : Ev tc σ H (.int i)) (ok : 1 ≤ i ∧ s.base < i) : EvLP (tMeth (clsHouse K) "changes" (sp_h_changes K) [] E te (tCons (tC (.str "/")) (tCons (tC (.str "zzzzzzzzzzzz")) (tCons tc tNil)))) σ H EvV (s.log.filter fun e => decide (i ≤ e.num)) := by
  have h1 := evl_changesS (E := E) (x := "/") (y := "zzzzzzzzzzzz") he hh ev_c ev_c hn key_lo key_hi ok
  rw [since_all fun e he => hh.sane.key _ (hh.sane.fit.logk e he)] at h1
  exact h1
theorem evp_deedS {tk : TE} (h1 : Ev ta σ H (.ref a)) (h2 : Ev tb σ H (.int k)) (h3 : Ev tk σ H (.ref l)) (h4 : Ev td σ H (.ref p)) (hs : Has (rScr K a ns) H) (hl : Has (rL StrV l ks) H) (hh : Has (rH K ks n p s) H) (hk : 0 ≤ k) (h0 : 0 < ks.length) :
    EvP (tCall (sp_l_deed K) [] E0 (tCons ta (tCons tb (tCons tk (tCons (tMeth (clsHouse K) "leases" (sp_h_leases K) [] E0 td tNil) (tCons (tMeth (clsHouse K) "number" (sp_h_number K) [] E0 td tNil) tNil)))))) σ H (fun H v => LDeedV H v (lawDeed ns k ks s.leases s.last)) := by
  obtain ⟨z, h⟩ := hh.house
  exact evp_deed h1 h2 h3 h4 h hs.scr hk hl.strs h0 (by have := hh.sane.few; omega) hh.sane.last0
end
end KW

/-! sorted keys, rows -/
namespace KW
open PySem PySem.Spec PyProof.Rows L2 Evl
theorem sortS_filter' (xs : List Str) (f : Str → Bool) : sortS (xs.filter f) = (sortS xs).filter f := by
  have h1 : ((sortS xs).filter f).Perm (xs.filter f) := (sortS_perm xs).filter f
  exact (sorted_eq h1 ((sortS_pair xs).sublist List.filter_sublist)).symm
theorem sortS_ext {xs ys : List Str} (h1 : xs.Nodup) (h2 : ys.Nodup) (h : ∀ k, k ∈ xs ↔ k ∈ ys) : sortS xs = sortS ys := by
  have hp : (sortS xs).Perm ys := (sortS_perm xs).trans ((List.perm_ext_iff_of_nodup h1 h2).mpr h)
  exact sorted_eq hp (sortS_pair xs)
/-- the keys of a span, rising -/
def spanKeys (rs : Recs) (a b : Str) : List Str := sortS ((keysA rs).filter fun k => within k a b)
theorem spanRows_eq (rs : Recs) (a b : Str) : spanRows rs a b = (spanKeys rs a b).map fun k => (k, getR rs k) := by
  unfold spanRows inRows spanKeys
  rw [sortS_filter', List.filter_map]
  rfl
theorem spanKeys_ext {rs qs : Recs} {a b : Str} (h1 : (keysA rs).Nodup) (h2 : (keysA qs).Nodup) (h : ∀ k, within k a b = true → (k ∈ keysA rs ↔ k ∈ keysA qs)) : spanKeys rs a b = spanKeys qs a b :=
  sortS_ext (h1.sublist List.filter_sublist) (h2.sublist List.filter_sublist) fun k => by
    rw [List.mem_filter, List.mem_filter]
    exact ⟨fun ⟨z1, z2⟩ => ⟨(h k z2).mp z1, z2⟩, fun ⟨z1, z2⟩ => ⟨(h k z2).mpr z1, z2⟩⟩
theorem mem_spanKeys {rs : Recs} {a b k : Str} (h : k ∈ spanKeys rs a b) : k ∈ keysA rs ∧ within k a b = true := List.mem_filter.mp (mem_sortS.mp h)
theorem spanRows_all {rs : Recs} {a b : Str} (h : ∀ k ∈ keysA rs, within k a b = true) : spanRows rs a b = inRows rs := List.filter_eq_self.mpr fun p hp => h _ (mem_inRows hp)
theorem has_keys {rs : Recs} {k : Str} : hasR rs k = true ↔ k ∈ keysA rs := lookA_some
end KW

/-! what changes things that stand apart -/
namespace KW
open PySem PySem.Spec PyProof.Rows L2 Evl
theorem pr_take {α β : Type} {F : α → β → Prop} : ∀ {l : List α} {m : List β}, Paired F l m → ∀ n, Paired F (l.take n) (m.take n)
  | _, _, .nil, n => by
    rw [List.take_nil, List.take_nil]
    exact .nil
  | _, _, .cons r t, 0 => .nil
  | _, _, .cons r t, n + 1 => .cons r (pr_take t n)
theorem pr_drop {α β : Type} {F : α → β → Prop} : ∀ {l : List α} {m : List β}, Paired F l m → ∀ n, Paired F (l.drop n) (m.drop n)
  | _, _, .nil, n => by
    rw [List.drop_nil, List.drop_nil]
    exact .nil
  | _, _, .cons r t, 0 => .cons r t
  | _, _, .cons r t, n + 1 => pr_drop t n
/-- flat tuples -/
def FltV (H : Hp) (v : V) (xs : List V) : Prop := TAt H v xs ∧ xs.all isFlat = true
instance : Stab FltV := ⟨fun k h => ⟨TAt.kt k h.1, h.2⟩⟩
def encFlt : Enc FltV where
  D := fun xs => flatT xs
  dp := fun {K H v e} h => dp_flatT h.1 h.2
  plain := fun e => plain_flatT _
  depth := fun e => depth_flatT _
  kt := fun k h => ⟨TAt.kt k h.1, h.2⟩
section
variable {α : Type} {K : PySem.W.Frag} {σ : L2.St} {H : Hp} {te ta tb tc td tl : TE} {tr : TA} {P : Hp → V → α → Prop} [Stab P] {xs ys : List α} {x : α} {v u w : V} {i : Nat} {l p a : Addr} {E : XK} {Q : VK} {As : List Asrt} {ks : List Str} {n : Nat} {s : HS} {sp : Sp} {dvs vs : List V} {m : Str} {D : Ends} {tw : TS} {ns : List Int}
theorem st_set {i1 : Nat} (h : te σ H fun v H1 => tw D (σ.set i1 (some v)) H1) : tSeq (tAsg te (gName i1)) tw D σ H := h
theorem st_setN {i1 : Nat} (h : te σ H fun v H1 => D.nx (σ.set i1 (some v)) H1) : tAsg te (gName i1) D σ H := h
theorem st_drop (h : te σ H fun _ H1 => tw D σ H1) : tSeq (tDrop te) tw D σ H := h
theorem st_dropN (h : te σ H fun _ H1 => D.nx σ H1) : tDrop te D σ H := h
theorem st_lc {g : TG} {tt : TT} {us : List Nat} {i1 : Nat} (h : tl σ H fun v H1 => tSeq (tAsg (tLc (iList K (tC v)) g tt te us) (gName i1)) tw D σ H1) : tSeq (tAsg (tLc (iList K tl) g tt te us) (gName i1)) tw D σ H := h
/-- what a house's method may use -/
structure Gv (K : PySem.W.Frag) (As : List Asrt) (i : Nat) (ks : List Str) (n : Nat) (p : Addr) (s : HS) (z : HCell) (H H1 : Hp) : Prop where
  ex : Ex H H1
  hh : HouseAt (clsHouse K) H1 p s z
  ok : Sane ks n s
  go : ∀ n' s' z' H2, HouseAt (clsHouse K) H2 p s' z' → Sane ks n' s' → Keep (z.fp p) (z'.fp p) H1 H2 → Sep (As.set i (rH K ks n' p s')) H2 ∧ Kt H H2
  go2 : ∀ n' s' z' H2 B G, HouseAt (clsHouse K) H2 p s' z' → Sane ks n' s' → Keep (z.fp p) (z'.fp p) H1 H2 → Asrt.holds B G H2 → (∀ b ∈ G, H1 b = none ∧ b ∉ z'.fp p) → Sep (As.set i (rH K ks n' p s') ++ [B]) H2 ∧ Kt H H2
theorem Sep.meth (W : Sep As H) (hi : As[i]? = some (rH K ks n p s)) (he : Ev te σ H (.ref p)) (hm : m ∈ houseMeths) (h : EvA tr σ H vs)
    (k : ∀ H1 z, Gv K As i ks n p s z H H1 → sp (.ref p :: (vs ++ dvs)) H1 Q E) : tMeth (clsHouse K) m sp dvs E te tr σ H Q := by
  obtain ⟨F, ⟨z, e, hh, ok⟩, f1, f2⟩ := W.focus2 hi
  subst e
  exact meth_call he hh hm h fun H1 e1 => k H1 z ⟨e1, hh.ex e1, ok, fun n' s' z' H2 hh2 ok2 kk => ⟨f1 (rH K ks n' p s') (z'.fp p) H2 ⟨z', rfl, hh2, ok2⟩ ((Keep.ex e1).trans kk), (Ex.kt e1).trans kk.kt⟩, fun n' s' z' H2 B G hh2 ok2 kk hB hG => ⟨f2 (rH K ks n' p s') (z'.fp p) H2 B G ⟨z', rfl, hh2, ok2⟩ ((Keep.ex e1).trans kk) hB fun b hb => ⟨fresh_back e1 (hG b hb).1, (hG b hb).2⟩, (Ex.kt e1).trans kk.kt⟩⟩
theorem Sep.methP {R : Hp → List V → Prop} (W : Sep As H) (hi : As[i]? = some (rH K ks n p s)) (he : Ev te σ H (.ref p)) (hm : m ∈ houseMeths) (h : EvAP tr σ H R)
    (k : ∀ vs H1 z, R H1 vs → Gv K As i ks n p s z H H1 → sp (.ref p :: (vs ++ dvs)) H1 Q E) : tMeth (clsHouse K) m sp dvs E te tr σ H Q := by
  obtain ⟨F, ⟨z, e, hh, ok⟩, f1, f2⟩ := W.focus2 hi
  subst e
  exact meth_callP he hh hm h fun vs H1 e1 hR => k vs H1 z hR ⟨e1, hh.ex e1, ok, fun n' s' z' H2 hh2 ok2 kk => ⟨f1 (rH K ks n' p s') (z'.fp p) H2 ⟨z', rfl, hh2, ok2⟩ ((Keep.ex e1).trans kk), (Ex.kt e1).trans kk.kt⟩, fun n' s' z' H2 B G hh2 ok2 kk hB hG => ⟨f2 (rH K ks n' p s') (z'.fp p) H2 B G ⟨z', rfl, hh2, ok2⟩ ((Keep.ex e1).trans kk) hB fun b hb => ⟨fresh_back e1 (hG b hb).1, (hG b hb).2⟩, (Ex.kt e1).trans kk.kt⟩⟩
theorem Sep.put {k : Str} {v : Int} {o : Option Int} (W : Sep As H) (hi : As[i]? = some (rH K ks n p s)) (he : Ev te σ H (.ref p)) (e1 : Ev ta σ H (.str k)) (e2 : Ev tb σ H (.int v)) (e3 : Ev tc σ H (optV o)) (hm : k ∈ ks) (h0 : 0 ≤ v) (h1 : v ≤ 9999) (hl : leaseOk s o) (hn : n + 1 ≤ 4000)
    (q : ∀ H', Sep (As.set i (rH K ks (n + 1) p (s.write [.put k v o]))) H' → Kt H H' → Q (.int (s.last + 1)) H') : tMeth (clsHouse K) "put" (sp_h_put K) [] E te (tCons ta (tCons tb (tCons tc tNil))) σ H Q :=
  W.meth hi he (by decide +kernel) (ea_cons e1 (ea_cons e2 (ea_cons e3 ea_nil))) fun H1 z g => ⟨p, s, z, k, v, o, rfl, g.hh, g.ok.key k hm, h0, h1, hl, g.ok.small (by decide), fun H2 z2 hh2 k2 => by
    obtain ⟨a1, a2⟩ := g.go _ _ z2 H2 hh2 (g.ok.act (d := .one (.put k v o)) ⟨⟨g.ok.key k hm, h0, h1, fun i hi => (hl i hi).1⟩, hl⟩ hm hn) k2
    exact q H2 a1 a2⟩
theorem Sep.put2 {k : Str} {v : Int} (W : Sep As H) (hi : As[i]? = some (rH K ks n p s)) (he : Ev te σ H (.ref p)) (e1 : Ev ta σ H (.str k)) (e2 : Ev tb σ H (.int v)) (hm : k ∈ ks) (h0 : 0 ≤ v) (h1 : v ≤ 9999) (hn : n + 1 ≤ 4000)
    (q : ∀ H', Sep (As.set i (rH K ks (n + 1) p (s.write [.put k v none]))) H' → Kt H H' → Q (.int (s.last + 1)) H') : tMeth (clsHouse K) "put" (sp_h_put K) [.non] E te (tCons ta (tCons tb tNil)) σ H Q :=
  W.meth hi he (by decide +kernel) (ea_cons e1 (ea_cons e2 ea_nil)) fun H1 z g => ⟨p, s, z, k, v, none, rfl, g.hh, g.ok.key k hm, h0, h1, (fun _ h => nomatch h), g.ok.small (by decide), fun H2 z2 hh2 k2 => by
    obtain ⟨a1, a2⟩ := g.go _ _ z2 H2 hh2 (g.ok.act (d := .one (.put k v none)) ⟨⟨g.ok.key k hm, h0, h1, (fun _ h => nomatch h)⟩, (fun _ h => nomatch h)⟩ hm hn) k2
    exact q H2 a1 a2⟩
theorem Sep.drop {k : Str} (W : Sep As H) (hi : As[i]? = some (rH K ks n p s)) (he : Ev te σ H (.ref p)) (e1 : Ev ta σ H (.str k)) (hm : k ∈ ks) (hn : n + 1 ≤ 4000)
    (q : ∀ H', Sep (As.set i (rH K ks (n + 1) p (s.write [.drop k]))) H' → Kt H H' → Q (.bl (hasR s.recs k)) H') : tMeth (clsHouse K) "drop" (sp_h_drop K) [] E te (tCons ta tNil) σ H Q :=
  W.meth hi he (by decide +kernel) (ea_cons e1 ea_nil) fun H1 z g => ⟨p, s, z, k, rfl, g.hh, g.ok.key k hm, g.ok.small (by decide), fun H2 z2 hh2 k2 => by
    obtain ⟨a1, a2⟩ := g.go _ _ z2 H2 hh2 (g.ok.act (d := .one (.drop k)) ⟨g.ok.key k hm, (fun _ h => nomatch h)⟩ hm hn) k2
    exact q H2 a1 a2⟩
theorem Sep.deal {cs : List Cond} {ts os : List Deed} (W : Sep As H) (hi : As[i]? = some (rH K ks n p s)) (he : Ev te σ H (.ref p)) (e1 : EvP ta σ H (fun H v => CondsV H v cs)) (e2 : EvP tb σ H (fun H v => DeedsV H v ts)) (e3 : EvP tc σ H (fun H v => DeedsV H v os))
    (ok : (LDeed.deal cs ts os).ok s) (hk : (LDeed.deal cs ts os).keysIn ks) (hn : n + 1 ≤ 4000)
    (q : ∀ H', Sep (As.set i (rH K ks (n + 1) p (s.deal cs ts os))) H' → Kt H H' → Q (.bl (s.good cs)) H') : tMeth (clsHouse K) "deal" (sp_h_deal K) [] E te (tCons ta (tCons tb (tCons tc tNil))) σ H Q :=
  W.methP hi he (by decide +kernel) (eap_cons e1 (fun _ _ _ k z => CondsV.kt k z) (eap_cons e2 (fun _ _ _ k z => DeedsV.kt k z) (eap_cons e3 (fun _ _ _ k z => DeedsV.kt k z) eap_nil))) fun vs H1 z hR g => by
    obtain ⟨c, _, rfl, hc, t, _, rfl, ht, o, _, rfl, ho, rfl⟩ := hR
    exact ⟨p, s, z, c, t, o, cs, ts, os, rfl, g.hh, hc, ht, ho, ok.1, ok.2.1, ok.2.2.1, ok.2.2.2.1, ok.2.2.2.2, g.ok.small (by decide), fun H2 z2 hh2 k2 => by
      obtain ⟨a1, a2⟩ := g.go _ _ z2 H2 hh2 (g.ok.act (d := .deal cs ts os) ok hk hn) k2
      exact q H2 a1 a2⟩
theorem Sep.grant {t : Int} (W : Sep As H) (hi : As[i]? = some (rH K ks n p s)) (he : Ev te σ H (.ref p)) (e1 : Ev ta σ H (.int t)) (h1 : 1 ≤ t) (h2 : t ≤ 99) (hn : n + 1 ≤ 4000)
    (q : ∀ H', Sep (As.set i (rH K ks (n + 1) p (s.grant t))) H' → Kt H H' → Q (.int (s.granted + 1)) H') : tMeth (clsHouse K) "grant" (sp_h_grant K) [] E te (tCons ta tNil) σ H Q :=
  W.meth hi he (by decide +kernel) (ea_cons e1 ea_nil) fun H1 z g => ⟨p, s, z, t, rfl, g.hh, h1, h2, by have := g.ok.ends; omega, fun H2 z2 hh2 k2 => by
    obtain ⟨a1, a2⟩ := g.go _ _ z2 H2 hh2 (g.ok.act (d := .grant t) ⟨h1, h2⟩ trivial hn) k2
    exact q H2 a1 a2⟩
theorem Sep.wait {t : Int} (W : Sep As H) (hi : As[i]? = some (rH K ks n p s)) (he : Ev te σ H (.ref p)) (e1 : Ev ta σ H (.int t)) (h1 : 1 ≤ t) (h2 : t ≤ 99) (hn : n + 1 ≤ 4000)
    (q : ∀ H', Sep (As.set i (rH K ks (n + 1) p (s.wait t))) H' → Kt H H' → Q .non H') : tMeth (clsHouse K) "wait" (sp_h_wait K) [] E te (tCons ta tNil) σ H Q :=
  W.meth hi he (by decide +kernel) (ea_cons e1 ea_nil) fun H1 z g => ⟨p, s, z, t, rfl, g.hh, h1, h2, g.ok.recs64, g.ok.wf, g.ok.lw, g.ok.mu, g.ok.ends, fun H2 z2 hh2 k2 => by
    obtain ⟨a1, a2⟩ := g.go _ _ z2 H2 hh2 (g.ok.act (d := .wait t) ⟨h1, h2⟩ trivial hn) k2
    exact q H2 a1 a2⟩
theorem Sep.give {t : Int} (W : Sep As H) (hi : As[i]? = some (rH K ks n p s)) (he : Ev te σ H (.ref p)) (e1 : Ev ta σ H (.int t)) (h1 : t ∈ keysA s.ends) (hn : n + 1 ≤ 4000)
    (q : ∀ H', Sep (As.set i (rH K ks (n + 1) p (s.endL t))) H' → Kt H H' → Q .non H') : tMeth (clsHouse K) "give_back" (sp_h_give_back K) [] E te (tCons ta tNil) σ H Q :=
  W.meth hi he (by decide +kernel) (ea_cons e1 ea_nil) fun H1 z g => ⟨p, s, z, t, rfl, g.hh, (g.ok.lw.pos t h1).1, h1, g.ok.recs64, g.ok.wf, g.ok.mu, fun H2 z2 hh2 k2 => by
    obtain ⟨a1, a2⟩ := g.go _ _ z2 H2 hh2 (g.ok.act (d := .give t) ⟨(g.ok.lw.pos t h1).1, h1⟩ trivial hn) k2
    exact q H2 a1 a2⟩
/-! watchers -/
theorem Sep.watch {x y : Str} {k : Int} (W : Sep As H) (hi : As[i]? = some (rH K ks n p s)) (he : Ev te σ H (.ref p)) (e1 : Ev ta σ H (.str x)) (e2 : Ev tb σ H (.str y)) (e3 : Ev tc σ H (.int k)) (kx : isKey x = true) (ky : isKey y = true) (h1 : 1 ≤ k) (h2 : s.base < k) (hl : s.spans.length ≤ 50000)
    (q : ∀ H', Sep (As.set i (rH K ks n p (s.watch x y k))) H' → Kt H H' → Q (.int s.spans.length) H') : tMeth (clsHouse K) "watch" (sp_h_watch K) [] E te (tCons ta (tCons tb (tCons tc tNil))) σ H Q :=
  W.meth hi he (by decide +kernel) (ea_cons e1 (ea_cons e2 (ea_cons e3 ea_nil))) fun H1 z g => ⟨p, s, z, x, y, k, rfl, g.hh, kx, ky, hl, fun z => by omega, fun _ z => by omega, fun _ _ H2 z2 hh2 k2 => by
    obtain ⟨a1, a2⟩ := g.go _ _ z2 H2 hh2 (g.ok.spans _) k2
    exact q H2 a1 a2⟩
theorem Sep.hear {w : Int} {sp : Span} (W : Sep As H) (hi : As[i]? = some (rH K ks n p s)) (he : Ev te σ H (.ref p)) (e1 : Ev ta σ H (.int w)) (hs : s.spanOf w = some sp) (hc : w ∉ s.cut)
    (q : ∀ r H', Sep (As.set i (rH K ks n p (s.heardTo w sp (s.last + 1))) ++ [rL EvV r (s.sinceP sp)]) H' → Kt H H' → Q (.ref r) H') : tMeth (clsHouse K) "hear" (sp_h_hear K) [] E te (tCons ta tNil) σ H Q :=
  W.meth hi he (by decide +kernel) (ea_cons e1 ea_nil) fun H1 z g => ⟨p, s, z, .int w, rfl, g.hh, .int w, by have := g.ok.size; omega, fun w' sp' hv hs' hc' H2 z2 r hh2 k2 hr hrf hl => by
    cases hv
    rw [hs] at hs'
    cases hs'
    obtain ⟨a1, a2⟩ := g.go2 _ _ z2 H2 (rL EvV r (s.sinceP sp)) [r] hh2 (g.ok.spans _) k2 ⟨rfl, hl⟩ fun b hb => by
      rw [List.mem_singleton.mp hb]
      exact ⟨hr, hrf⟩
    exact q r H2 a1 a2, fun w' sp' hv hs' hc' => by
    cases hv
    exact absurd hc' hc, fun hn => by
    have := hn w rfl
    rw [hs] at this
    cases this⟩
theorem Sep.stop {w : Int} {sp : Span} (W : Sep As H) (hi : As[i]? = some (rH K ks n p s)) (he : Ev te σ H (.ref p)) (e1 : Ev ta σ H (.int w)) (hs : s.spanOf w = some sp)
    (q : ∀ H', Sep (As.set i (rH K ks n p (s.stop w))) H' → Kt H H' → Q .non H') : tMeth (clsHouse K) "stop" (sp_h_stop K) [] E te (tCons ta tNil) σ H Q :=
  W.meth hi he (by decide +kernel) (ea_cons e1 ea_nil) fun H1 z g => ⟨p, s, z, .int w, rfl, g.hh, .int w, fun w' sp' hv hs' H2 z2 hh2 k2 => by
    cases hv
    obtain ⟨a1, a2⟩ := g.go _ _ z2 H2 hh2 (g.ok.spans _) k2
    exact q H2 a1 a2, fun hn => by
    have := hn w rfl
    rw [hs] at this
    cases this⟩
/-! deeds of a law -/
theorem Sep.do_ {d : LDeed} (W : Sep As H) (hi : As[i]? = some (rH K ks n p s)) (he : Ev te σ H (.ref p)) (e1 : EvP ta σ H (fun H v => LDeedV H v d)) (ok : d.ok s) (hk : d.keysIn ks) (hn : n + 1 ≤ 4000)
    (q : ∀ H', Sep (As.set i (rH K ks (n + 1) p (s.act d))) H' → Kt H H' → Q (s.told d) H') : tCall (sp_l_do K) [] E (tCons te (tCons ta tNil)) σ H Q := by
  obtain ⟨F, ⟨z, e, hh, o⟩, f1⟩ := W.focus hi
  subst e
  refine he H (Ex.refl H) _ fun H1 e1' => e1 H1 e1' _ fun v H2 e2 hv => ?_
  have e12 := e1'.trans e2
  exact ⟨p, s, z, v, d, rfl, hh.ex e12, hv, ok, o.fit.all, o.recs64, o.mu, o.ends, fun H3 z3 hh3 k3 => q H3 (f1 _ _ H3 ⟨z3, rfl, hh3, o.act ok hk hn⟩ ((Keep.ex e12).trans k3)) ((Ex.kt e12).trans k3.kt)⟩
theorem Sep.drive {at_ : Int} {m j k : Nat} {tat tk th tm : TE} (W : Sep As H) (hi : As[i]? = some (rH K ks n p s)) (hj : As[j]? = some (rScr K a ns)) (hk : As[k]? = some (rL StrV l ks)) (nj : j ≠ i) (nk : k ≠ i) (h0 : 0 < ks.length) (ha : Ev te σ H (.ref a)) (hat : Ev tat σ H (.int at_)) (hth : Ev th σ H (.ref p)) (htk : Ev tk σ H (.ref l)) (hm : Ev tm σ H (.int (m : Nat))) (hat0 : 0 ≤ at_) (hnm : n + m ≤ 4000)
    (q : ∀ r H', Sep (As.set i (rH K ks (n + m) p (driven ns at_ ks s m)) ++ [rL RowDV r (drivenR ns at_ ks s m)]) H' → Kt H H' → Q (.ref r) H') :
    tCall (sp_l_drive K) [] E (tCons te (tCons tat (tCons th (tCons tk (tCons tm tNil))))) σ H Q := by
  obtain ⟨F, ⟨z, e, hh, o⟩, f1, f2, f3⟩ := W.focus3 hi
  subst e
  have hs : ScrO K (z.fp p) H a ns := by
    obtain ⟨G, ⟨g0, g⟩, ap⟩ := f3 j _ nj hj
    refine ⟨?_, g0⟩
    rcases g with ⟨_, g⟩ | ⟨e, o, g⟩
    · exact .inr g
    · exact .inl ⟨o, g, ap a (by rw [e]; exact List.mem_singleton.mpr rfl)⟩
  have hl : Out (z.fp p) H l (.lst (ks.map V.str)) := by
    obtain ⟨G, ⟨e, g⟩, ap⟩ := f3 k _ nk hk
    exact ⟨Has.strs ⟨G, e, g⟩, ap l (by rw [e]; exact List.mem_singleton.mpr rfl)⟩
  refine (ea_cons ha (ea_cons hat (ea_cons hth (ea_cons htk (ea_cons hm ea_nil))))) H (Ex.refl H) _ fun H1 e1 => ?_
  refine ⟨a, ns, at_, p, s, z, l, ks, m, n, rfl, hh.ex e1, hs.keep (Keep.ex e1), hat0, hl.keep (Keep.ex e1), h0, o.few, o.key, o.fit, hnm, fun H2 z2 r hh2 k2 hr rf hrows => ?_⟩
  obtain ⟨d1, d2, _, _⟩ := driven_same o.fit o.key h0 ns at_ m
  have k12 := (Keep.ex (F := z.fp p) e1).trans k2
  exact q r H2 (f2 _ _ H2 (rL RowDV r (drivenR ns at_ ks s m)) [r] ⟨z2, rfl, hh2, sane_driven o h0 ns at_ m hnm⟩ k12 ⟨rfl, hrows⟩ fun b hb => by
    rw [List.mem_singleton.mp hb]
    exact ⟨fresh_back e1 hr, rf⟩) k12.kt
/-- keys = _law_keys(script, 20) -/
theorem Sep.keys {i1 : Nat} (h0 : σ[0]? = some (some (.ref a))) (hs : Scr K H a ns) (k : ∀ l H2, Sep [rScr K a ns, rL StrV l (lawKeys ns 20)] H2 → tw D (σ.set i1 (some (.ref l))) H2) :
    tSeq (tAsg (tCall (sp_l_keys K) [] E0 (tCons (tVar 0) (tCons (tC (.int 20)) tNil))) (gName i1)) tw D σ H := by
  refine ⟨_, h0, a, ns, 20, rfl, hs, by decide, fun H1 l e1 hl0 hl1 => ?_⟩
  obtain ⟨F, f1, f2⟩ := scr_holds hs
  have W0 : Sep [rScr K a ns] H := ⟨F, F, [], by simp, f1, rfl, fun b _ hb => by cases hb⟩
  exact k l H1 (W0.new e1 (A := rL StrV l (lawKeys ns 20)) (G := [l]) ⟨rfl, _, hl1, paired_map V.str _⟩ fun b hb => by rw [List.mem_singleton.mp hb]; exact hl0)
/-- a house is made -/
theorem Sep.house {Q : VK} (W : Sep As H) (hk : ∀ x ∈ ks, isKey x = true) (h64 : ks.length < 64) (k : ∀ p H', Sep (As ++ [rH K ks 0 p HS.new]) H' → Kt H H' → Q (.ref p) H') : tMake (clsHouse K) (sp_h_init K) [] E tNil σ H Q :=
  make_call fun p z H' hh kk => by
    obtain ⟨F, W⟩ := W
    refine k p H' ⟨F ++ z.fp p, W.new kk.kt (fun b hb o ho => kk.kp b o ho (by simp)) (A := rH K ks 0 p HS.new) ⟨z, rfl, hh, sane_new hk h64⟩ fun b hb hf => ?_⟩ kk.kt
    obtain ⟨o, ho⟩ := W.occ b hf
    rcases kk.fr b hb with z | z
    · cases z
    · rw [ho] at z
      cases z
/-! lists -/
theorem keep_list {l : Addr} {ws us : List V} (h : H l = some (.lst ws)) : Keep [l] [l] H (upd H l (.lst us)) := ⟨fun b o hb hn => by
    rw [upd_ne (fun e => hn (by rw [e]; exact List.mem_singleton.mpr rfl))]
    exact hb, fun b hb => .inl hb, (Kt.refl H).upd (ne_tup_of h fun xs z => by cases z)⟩
/-- l.append(x) -/
theorem Sep.app (W : Sep As H) (hi : As[i]? = some (rL P l xs)) (hl : Ev tl σ H (.ref l)) (h : EvP te σ H (fun H v => P H v x)) (hz : xs.length < 100000) (q : ∀ H', Sep (As.set i (rL P l (xs ++ [x]))) H' → Kt H H' → Q .non H') : tBM K "list" rAppend tl (tCons te tNil) σ H Q :=
  hl H (Ex.refl H) _ fun H1 e1 => by
    have W1 := W.ex e1
    obtain ⟨F, ⟨e, ws, h1, h2⟩, _⟩ := W1.focus hi
    refine ⟨.inl ⟨rfl, ws, sq_of h1⟩, h H1 e1 _ fun v H2 e2 hv => ?_⟩
    obtain ⟨F, ⟨e, ws, h1, h2⟩, f1⟩ := (W1.ex e2).focus hi
    subst e
    refine ⟨l, ws, v, rfl, rfl, h1, sz_lt (by rw [pr_len h2]; exact hz), ?_⟩
    have kk := keep_list (us := ws ++ [v]) h1
    exact q _ (f1 _ _ _ ⟨rfl, _, upd_same, pr_snoc (pr_mono h2 fun _ _ z => Stab.st kk.kt z) (Stab.st kk.kt hv)⟩ kk) ((Ex.kt (e1.trans e2)).trans kk.kt)
/-- l.extend(m) -/
theorem Sep.ext {ys : List α} (W : Sep As H) (hi : As[i]? = some (rL P l xs)) (hl : Ev tl σ H (.ref l)) (h : EvR te σ H P ys) (hz : xs.length + ys.length ≤ 100000) (q : ∀ H', Sep (As.set i (rL P l (xs ++ ys))) H' → Kt H H' → Q .non H') : tBM K "list" rExtend tl (tCons te tNil) σ H Q :=
  hl H (Ex.refl H) _ fun H1 e1 => by
    have W1 := W.ex e1
    obtain ⟨F, ⟨e, ws, h1, h2⟩, _⟩ := W1.focus hi
    refine ⟨.inl ⟨rfl, ws, sq_of h1⟩, h H1 e1 _ fun v H2 e2 hv => ?_⟩
    obtain ⟨m, rfl, us, u1, u2⟩ := hv
    obtain ⟨F, ⟨e, ws, h1, h2⟩, f1⟩ := (W1.ex e2).focus hi
    subst e
    refine ⟨l, m, ws, us, rfl, rfl, h1, u1, sz_of (by rw [pr_len h2, pr_len u2]; exact hz), ?_⟩
    have kk := keep_list (us := ws ++ us) h1
    exact q _ (f1 _ _ _ ⟨rfl, _, upd_same, pr_append (pr_mono h2 fun _ _ z => Stab.st kk.kt z) (pr_mono u2 fun _ _ z => Stab.st kk.kt z)⟩ kk) ((Ex.kt (e1.trans e2)).trans kk.kt)
/-- l[j] = x -/
theorem Sep.setAt {j : Int} (W : Sep As H) (hi : As[i]? = some (rL P l xs)) (h : EvP te σ H (fun H v => P H v x)) (hl : Ev tl σ H (.ref l)) (hj : Ev tb σ H (.int j)) (h0 : 0 ≤ j) (h1 : j < (xs.length : Int)) (q : ∀ H', Sep (As.set i (rL P l (xs.set j.toNat x))) H' → Kt H H' → D.nx σ H') : tAsg te (gSub tl tb rSetL) D σ H :=
  h H (Ex.refl H) _ fun v H1 e1 hv => hl H1 e1 _ fun H2 e2 => hj H2 (e1.trans e2) _ fun H3 e3 => by
    have e13 := (e1.trans e2).trans e3
    obtain ⟨F, ⟨e, ws, w1, w2⟩, f1⟩ := (W.ex e13).focus hi
    subst e
    have hlen := pr_len w2
    refine ⟨l, ws, j, j.toNat, rfl, rfl, w1, ?_, ?_⟩
    · have := ixN_nat (n := ws.length) (j := j.toNat) (by omega)
      rwa [Int.toNat_of_nonneg h0] at this
    · have kk := keep_list (us := ws.set j.toNat v) w1
      exact q _ (f1 _ _ _ ⟨rfl, _, upd_same, pr_set _ (pr_mono w2 fun _ _ z => Stab.st kk.kt z) (Stab.st kk.kt (Stab.st (Ex.kt (e2.trans e3)) hv))⟩ kk) ((Ex.kt e13).trans kk.kt)
theorem Sep.setAtS {j : Int} (W : Sep As H) (hi : As[i]? = some (rL P l xs)) (h : EvP te σ H (fun H v => P H v x)) (hl : Ev tl σ H (.ref l)) (hj : Ev tb σ H (.int j)) (h0 : 0 ≤ j) (h1 : j < (xs.length : Int)) (q : ∀ H', Sep (As.set i (rL P l (xs.set j.toNat x))) H' → Kt H H' → tw D σ H') : tSeq (tAsg te (gSub tl tb rSetL)) tw D σ H := W.setAt (D := { D with nx := tw D }) hi h hl hj h0 h1 q
/-- x = a new list -/
theorem al_setL {i1 : Nat} (W : Sep As H) (h : EvLP te σ H P xs) (k : ∀ l H1, Ex H H1 → Sep (As ++ [rL P l xs]) H1 → Alw tw D (σ.set i1 (some (.ref l))) H1) : Alw (tSeq (tAsg te (gName i1)) tw) D σ H := fun H1 e1 =>
  h H1 e1 _ fun l H2 hl e2 h2 => k l H2 (e1.trans e2) ((W.ex e1).new e2 (A := rL P l xs) (G := [l]) ⟨rfl, h2⟩ fun b hb => by rw [List.mem_singleton.mp hb]; exact hl) H2 (Ex.refl _)
theorem st_seq {tu : TS} (h : tu { D with nx := tw D } σ H) : tSeq tu tw D σ H := h
theorem st_ifOp {r : R2} {tu tv : TS} (h : ta σ H fun x H1 => tSeq (tIfS (tTest (tOp r (tC x) tb)) tu tv) tw D σ H1) : tSeq (tIfS (tTest (tOp r ta tb)) tu tv) tw D σ H := h
theorem al_cut {tu : TS} (M : L2.St → Hp → Prop) (h : Alw tu { D with nx := M } σ H) (k : ∀ σ' H', M σ' H' → tw D σ' H') : Alw (tCut tu tw) D σ H := fun H1 e => ⟨M, h H1 e, k⟩
/-- first, last = _law_span(script, at, keys) -/
theorem al_span {tk tat : TE} {i1 j1 : Nat} {k : Int} (ha : Ev ta σ H (.ref a)) (hat : Ev tat σ H (.int k)) (hk : Ev tk σ H (.ref l)) (hs : Has (rScr K a ns) H) (hl : Has (rL StrV l ks) H) (h0 : 0 ≤ k) (hp : 0 < ks.length) (hkk : ∀ x ∈ ks, isKey x = true)
    (q : Alw tw D ((σ.set i1 (some (.str (lawSpan ns k ks).1))).set j1 (some (.str (lawSpan ns k ks).2))) H) :
    Alw (tSeq (tAsg (tCall (sp_l_span K) [] E0 (tCons ta (tCons tat (tCons tk tNil)))) (gTup K 2 (gCons (gName i1) (gCons (gName j1) gNil)))) tw) D σ H := fun H1 e1 =>
  span_stmt (ha.mono e1) (hat.mono e1) (hk.mono e1) (hs.ex e1).scr h0 (hl.ex e1).strs hp hkk fun H2 e2 => q H2 (e1.trans e2)
/-- x, y, z = a tuple -/
theorem al_three {i1 j1 k1 : Nat} {x y z : V} (h : EvTp te σ H [x, y, z]) (q : Alw tw D (((σ.set i1 (some x)).set j1 (some y)).set k1 (some z)) H) : Alw (tSeq (tAsg te (gTup K 3 (gCons (gName i1) (gCons (gName j1) (gCons (gName k1) gNil))))) tw) D σ H := fun H1 e1 =>
  h H1 e1 _ fun v H2 e2 hv => by
    exact g_three (K := K) hv _ (q H2 (e1.trans e2))
theorem al_two {i1 j1 : Nat} {x y : V} (h : EvTp te σ H [x, y]) (q : Alw tw D ((σ.set i1 (some x)).set j1 (some y)) H) : Alw (tSeq (tAsg te (gTup K 2 (gCons (gName i1) (gCons (gName j1) gNil)))) tw) D σ H := fun H1 e1 =>
  h H1 e1 _ fun v H2 e2 hv => by
    exact g_two (K := K) hv _ (q H2 (e1.trans e2))
/-- [k for k, span in enumerate(spans) if span is not None] -/
theorem evl_living {n1 n2 n3 : Nat} {sps : List (Option Span)} (h : σ[n3]? = some (some (.ref l))) (hl : Has (rL SpanV l sps) H) (hz : sps.length ≤ 50000) (hw : ∀ x y : V, wipe (((wipe σ [n1, n2]).set n1 (some x)).set n2 (some y)) [n1, n2] = wipe σ [n1, n2]) (hx : ∀ x y : V, (((wipe σ [n1, n2]).set n1 (some x)).set n2 (some y))[n1]? = some (some x) ∧ (((wipe σ [n1, n2]).set n1 (some x)).set n2 (some y))[n2]? = some (some y)) :
    EvLP (tLc (iEnum K (tCons (tVar n3) tNil)) (gTup K 2 (gCons (gName n1) (gCons (gName n2) gNil))) (tTest (tOp rNotN (tVar n2) (tC .non))) (tVar n1) [n1, n2]) σ H IntV (sps.zipIdx.filterMap fun q => if q.1.isSome = true then some (q.2 : Int) else none) := by
  obtain ⟨ws, w1, w2⟩ := hl.ls
  have hc := lc_gen (α := Int) (P := IntV) (tt := tTest (tOp rNotN (tVar n2) (tC .non))) (te := tVar n1) (g := gTup K 2 (gCons (gName n1) (gCons (gName n2) gNil))) (vs := [n1, n2]) (σ := σ) (B := H)
    (ei_enum (K := K) (tl := tVar n3) (P := fun v (x : Option Span) => SpanV H v x) (ev_var h) (sq_of w1) w2) (fun q => if q.2.isSome = true then some (q.1 : Int) else none) (fun _ _ _ _ _ z => z)
    (fun x d H4 e4 hx' _ => by
      obtain ⟨u, hu, hxx⟩ := hx'
      refine ⟨_, g_two hxx, hw _ _, ?_, fun y hy => ?_⟩
      · have w : (if d.2.isSome = true then some (d.1 : Int) else none).isSome = !decide (u = V.non) := by
          cases hd : d.2 with
          | none =>
            rw [hd] at hu
            rw [show u = V.non from hu]
            rfl
          | some sp =>
            rw [hd] at hu
            obtain ⟨aa, ha, _⟩ := hu
            rw [ha]
            rfl
        rw [w]
        exact et_test (ev_notN (ev_var (hx _ _).2))
      · split at hy
        · cases hy
          exact Ev.p (ev_var (hx _ _).1) fun _ _ => rfl
        · cases hy)
    (by rw [List.length_map, List.length_zipIdx]; omega)
  rw [List.filterMap_map] at hc
  exact hc
theorem lc_src {g : TG} {tt : TT} {us : List Nat} (h : tl σ H fun v H1 => tLc (iList K (tC v)) g tt te us σ H1 Q) : tLc (iList K tl) g tt te us σ H Q := h
/-- an append of a value -/
theorem Sep.appV (W : Sep As H) (hi : As[i]? = some (rL P l xs)) (hv : P H v x) (hz : xs.length < 100000) (q : ∀ H', Sep (As.set i (rL P l (xs ++ [x]))) H' → Kt H H' → Q .non H') : rAppend (.ref l) [v] H Q := by
  obtain ⟨F, ⟨e, ws, h1, h2⟩, f1⟩ := W.focus hi
  subst e
  refine ⟨l, ws, v, rfl, rfl, h1, sz_lt (by rw [pr_len h2]; exact hz), ?_⟩
  have kk := keep_list (us := ws ++ [v]) h1
  exact q _ (f1 _ _ _ ⟨rfl, _, upd_same, pr_snoc (pr_mono h2 fun _ _ z => Stab.st kk.kt z) (Stab.st kk.kt hv)⟩ kk) kk.kt
/-- loops over lists -/
theorem alw_forV {g : TG} {tu : TS} (h : Ev tl σ H (.ref l)) (hl0 : Has (rL P l xs) H) (Pv : Nat → L2.St → Hp → Prop) (h0 : ∀ H1, Ex H H1 → Pv 0 σ H1) (hl : ∀ i σ' H', Pv i σ' H' → Has (rL P l xs) H')
    (hs : ∀ i x y σ' H', xs[i]? = some y → P H' x y → Pv i σ' H' → g x σ' H' fun σ2 H2 => tu { D with nx := Pv (i + 1), ct := Pv (i + 1), bk := D.nx } σ2 H2) (hd : ∀ σ' H', Pv xs.length σ' H' → D.nx σ' H') : Alw (tFor (iList K tl) g tu) D σ H := fun H1 e1 => by
  obtain ⟨ws, w1, w2⟩ := (hl0.ex e1).ls
  have hlen := pr_len w2
  have same : ∀ {H2 : Hp} {us : List V}, H2 l = some (.lst us) → Paired (P H2) us xs → us.length = ws.length := fun h1 h2 => by rw [pr_len h2, hlen]
  refine h H1 e1 _ fun H2 e2 => ⟨l, rfl, ⟨ws, sq_of (e2 _ _ w1)⟩, fun i m σ' H' => m = xs.length - i ∧ i ≤ xs.length ∧ Pv i σ' H', ⟨_, rfl, Nat.zero_le _, h0 H2 (e1.trans e2)⟩, ?_⟩
  rintro i m σ' H' ⟨rfl, hi, hp⟩
  obtain ⟨us, u1, u2⟩ := (hl i σ' H' hp).ls
  have ulen := pr_len u2
  by_cases hlt : i < xs.length
  · refine .inr ⟨⟨us, us[i]'(by omega), sq_of u1, List.getElem?_eq_getElem _⟩, Pv (i + 1), fun σ2 H2 hh => ⟨xs.length - (i + 1), by omega, rfl, by omega, hh⟩, fun x H2 hy => ?_⟩
    obtain ⟨rfl, hx⟩ := hy
    have hx := hx us (sq_of u1)
    obtain ⟨y, hy, hpy⟩ := pr_get u2 hx
    exact hs i x y σ' _ hy hpy hp
  · have : i = xs.length := by omega
    subst this
    exact .inl ⟨⟨us, sq_of u1, by omega⟩, hd σ' H' hp⟩
theorem al_forV {g : TG} {tu : TS} (h : Ev tl σ H (.ref l)) (hl0 : Has (rL P l xs) H) (Pv : Nat → L2.St → Hp → Prop) (h0 : ∀ H1, Ex H H1 → Pv 0 σ H1) (hl : ∀ i σ' H', Pv i σ' H' → Has (rL P l xs) H')
    (hs : ∀ i x y σ' H', xs[i]? = some y → P H' x y → Pv i σ' H' → g x σ' H' fun σ2 H2 => tu { D with nx := Pv (i + 1), ct := Pv (i + 1), bk := tw D } σ2 H2) (hd : ∀ σ' H', Pv xs.length σ' H' → tw D σ' H') : Alw (tSeq (tFor (iList K tl) g tu) tw) D σ H :=
  alw_forV (D := { D with nx := tw D }) h hl0 Pv h0 hl hs hd
theorem alw_forL {g : TG} {tu : TS} (W : Sep As H) (h : EvLP tl σ H P xs) (Pv : Addr → Nat → L2.St → Hp → Prop) (h0 : ∀ l H1, Sep (As ++ [rL P l xs]) H1 → Ex H H1 → Pv l 0 σ H1) (hl : ∀ l i σ' H', Pv l i σ' H' → Has (rL P l xs) H')
    (hs : ∀ l i x y σ' H', xs[i]? = some y → P H' x y → Pv l i σ' H' → g x σ' H' fun σ2 H2 => tu { D with nx := Pv l (i + 1), ct := Pv l (i + 1), bk := D.nx } σ2 H2) (hd : ∀ l σ' H', Pv l xs.length σ' H' → D.nx σ' H') : Alw (tFor (iList K tl) g tu) D σ H := fun H1 e1 =>
  h H1 e1 _ fun l H2 hl0 e2 h2 => by
    have W2 := (W.ex e1).new e2 (A := rL P l xs) (G := [l]) ⟨rfl, h2⟩ fun b hb => by rw [List.mem_singleton.mp hb]; exact hl0
    exact alw_forV (K := K) (tl := tC (.ref l)) (σ := σ) ev_c ⟨[l], rfl, h2⟩ (Pv l) (fun H3 e3 => h0 l H3 (W2.ex e3) ((e1.trans e2).trans e3)) (hl l) (hs l) (hd l) H2 (Ex.refl _)
theorem al_forL {g : TG} {tu : TS} (W : Sep As H) (h : EvLP tl σ H P xs) (Pv : Addr → Nat → L2.St → Hp → Prop) (h0 : ∀ l H1, Sep (As ++ [rL P l xs]) H1 → Ex H H1 → Pv l 0 σ H1) (hl : ∀ l i σ' H', Pv l i σ' H' → Has (rL P l xs) H')
    (hs : ∀ l i x y σ' H', xs[i]? = some y → P H' x y → Pv l i σ' H' → g x σ' H' fun σ2 H2 => tu { D with nx := Pv l (i + 1), ct := Pv l (i + 1), bk := tw D } σ2 H2) (hd : ∀ l σ' H', Pv l xs.length σ' H' → tw D σ' H') : Alw (tSeq (tFor (iList K tl) g tu) tw) D σ H := alw_forL (D := { D with nx := tw D }) W h Pv h0 hl hs hd
/-- slices -/
theorem evl_pre {j : Int} (h : EvR te σ H P xs) (hj : Ev tb σ H (.int j)) (h0 : 0 ≤ j) : EvLP (tSl (rSlL K) te tNoPart (tPart tb)) σ H P (xs.take j.toNat) := fun H1 e Q q =>
  h H1 e _ fun v H2 e2 hv => hj H2 (e.trans e2) _ fun H3 e3 => ⟨j, rfl, by
    obtain ⟨m, rfl, hm⟩ := hv
    obtain ⟨ws, w1, w2⟩ := hm.ex e3
    refine ⟨m, ws, rfl, sq_of w1, fun t ht => ?_⟩
    rw [cutV_pre ws h0]
    exact q t _ (fresh_back (e2.trans e3) ht) ((e2.trans e3).trans (Ex.new ht)) ⟨_, upd_same, pr_mono (pr_take w2 _) fun _ _ z => Stab.st (Ex.kt (Ex.new ht)) z⟩⟩
theorem evl_post {j : Int} (h : EvR te σ H P xs) (hj : Ev tb σ H (.int j)) (h0 : 0 ≤ j) (h1 : j ≤ (xs.length : Int)) : EvLP (tSl (rSlL K) te (tPart tb) tNoPart) σ H P (xs.drop j.toNat) := fun H1 e Q q =>
  h H1 e _ fun v H2 e2 hv => hj H2 (e.trans e2) _ fun H3 e3 => ⟨j, rfl, by
    obtain ⟨m, rfl, hm⟩ := hv
    obtain ⟨ws, w1, w2⟩ := hm.ex e3
    refine ⟨m, ws, rfl, sq_of w1, fun t ht => ?_⟩
    rw [cutV_post ws h0 (by rw [pr_len w2]; exact h1)]
    exact q t _ (fresh_back (e2.trans e3) ht) ((e2.trans e3).trans (Ex.new ht)) ⟨_, upd_same, pr_mono (pr_drop w2 _) fun _ _ z => Stab.st (Ex.kt (Ex.new ht)) z⟩⟩
/-- rows: for key, record in rows -/
theorem evl_rows2 {tt : TT} {n1 m1 : Nat} {us : List Nat} {rs : Recs} (hs : EvR tl σ H RowV rs) (f : Str × Rec → Option α) (hw : ∀ x y : V, wipe (((wipe σ us).set n1 (some x)).set m1 (some y)) us = wipe σ us)
    (turn : ∀ k r w H1, Ex H H1 → RecV H1 w r → (k, r) ∈ rs → EvT tt (((wipe σ us).set n1 (some (.str k))).set m1 (some w)) H1 (f (k, r)).isSome ∧ ∀ y, f (k, r) = some y → EvP te (((wipe σ us).set n1 (some (.str k))).set m1 (some w)) H1 (fun H v => P H v y)) (hl : rs.length ≤ 100000) :
    EvLP (tLc (iList K tl) (gTup K 2 (gCons (gName n1) (gCons (gName m1) gNil))) tt te us) σ H P (rs.filterMap f) :=
  lc_gen (R := RowV) (fun H1 e Q q => hs H1 e _ fun v H2 e2 hv => by
    obtain ⟨l, rfl, ws, h1, h2⟩ := hv
    exact ⟨l, rfl, ⟨ws, sq_of h1⟩, q _ H2 e2 ((walk_list (sq_of h1)).to2 h2 fun H v d e3 z => RowV.kt (Ex.kt e3) z)⟩) f (fun _ _ _ _ k z => Stab.st k z) (fun x d H1 e1 hx hd => by
    obtain ⟨k, r⟩ := d
    obtain ⟨w, hab, hw2⟩ := hx
    exact ⟨_, g_two hab, hw _ _, turn k r w H1 e1 hw2 hd⟩) hl
theorem Sep.more {m : Nat} (W : Sep As H) (hi : As[i]? = some (rH K ks n p s)) (hm : n ≤ m) (hm2 : m ≤ 4000) : Sep (As.set i (rH K ks m p s)) H := by
  obtain ⟨F, ⟨z, e, hh, o⟩, f1⟩ := W.focus hi
  exact f1 _ F H ⟨z, e, hh, o.more hm hm2⟩ (Keep.ex (Ex.refl H))
/-- a new list of values -/
theorem Sep.lstV {vs : List V} (W : Sep As H) {r : Addr} (hr : H r = none) : Sep (As ++ [rL IsV r vs]) (upd H r (.lst vs)) := W.new (Ex.new hr) (A := rL IsV r vs) (G := [r]) ⟨rfl, vs, upd_same, paired_eq vs⟩ fun b hb => by rw [List.mem_singleton.mp hb]; exact hr
theorem Sep.houses2 {Q : VK} (W : Sep As H) (hk : ∀ x ∈ ks, isKey x = true) (h64 : ks.length < 64) (k : ∀ p1 p2 r H', Sep (As ++ [rH K ks 0 p1 HS.new] ++ [rH K ks 0 p2 HS.new] ++ [rL IsV r [.ref p1, .ref p2]]) H' → Kt H H' → Q (.ref r) H') :
    tLst (tCons (tMake (clsHouse K) (sp_h_init K) [] E tNil) (tCons (tMake (clsHouse K) (sp_h_init K) [] E tNil) tNil)) σ H Q :=
  show tMake (clsHouse K) (sp_h_init K) [] E tNil σ H (fun x H1 => tMake (clsHouse K) (sp_h_init K) [] E tNil σ H1 fun y H2 => [x, y].length ≤ sizeLine ∧ ∀ r, H2 r = none → Q (.ref r) (upd H2 r (.lst [x, y]))) from
  W.house hk h64 fun p1 H2 W2 k2 => W2.house hk h64 fun p2 H3 W3 k3 => ⟨(show 2 ≤ sizeLine by decide), fun r hr => k p1 p2 r _ (W3.lstV hr) ((k2.trans k3).trans (Ex.kt (Ex.new hr)))⟩
theorem Sep.houses3 {Q : VK} (W : Sep As H) (hk : ∀ x ∈ ks, isKey x = true) (h64 : ks.length < 64) (k : ∀ p1 p2 p3 r H', Sep (As ++ [rH K ks 0 p1 HS.new] ++ [rH K ks 0 p2 HS.new] ++ [rH K ks 0 p3 HS.new] ++ [rL IsV r [.ref p1, .ref p2, .ref p3]]) H' → Kt H H' → Q (.ref r) H') :
    tLst (tCons (tMake (clsHouse K) (sp_h_init K) [] E tNil) (tCons (tMake (clsHouse K) (sp_h_init K) [] E tNil) (tCons (tMake (clsHouse K) (sp_h_init K) [] E tNil) tNil))) σ H Q :=
  show tMake (clsHouse K) (sp_h_init K) [] E tNil σ H (fun x H1 => tMake (clsHouse K) (sp_h_init K) [] E tNil σ H1 fun y H2 => tMake (clsHouse K) (sp_h_init K) [] E tNil σ H2 fun z H3 => [x, y, z].length ≤ sizeLine ∧ ∀ r, H3 r = none → Q (.ref r) (upd H3 r (.lst [x, y, z]))) from
  W.house hk h64 fun p1 H2 W2 k2 => W2.house hk h64 fun p2 H3 W3 k3 => W3.house hk h64 fun p3 H4 W4 k4 => ⟨(show 3 ≤ sizeLine by decide), fun r hr => k p1 p2 p3 r _ (W4.lstV hr) (((k2.trans k3).trans k4).trans (Ex.kt (Ex.new hr)))⟩
/-- what is changed within an expression -/
theorem st_ifOr {r : R2} {t2 : TT} {tu tv : TS} (h : ta σ H fun x H1 => tSeq (tIfS (tOr (tTest (tOp r (tC x) tb)) t2) tu tv) tw D σ H1) : tSeq (tIfS (tOr (tTest (tOp r ta tb)) t2) tu tv) tw D σ H := h
theorem st_orF {t1 t2 : TT} {tu tv : TS} (h1 : EvT t1 σ H false) (k : ∀ H1, Ex H H1 → tSeq (tIfS t2 tu tv) tw D σ H1) : tSeq (tIfS (tOr t1 t2) tu tv) tw D σ H := h1 H (Ex.refl H) _ fun H1 e1 => by
  show (if false = true then _ else _)
  rw [if_neg Bool.false_ne_true]
  exact k H1 e1
theorem st_andT {t1 t2 : TT} {tu tv : TS} (h1 : EvT t1 σ H true) (k : ∀ H1, Ex H H1 → tSeq (tIfS t2 tu tv) tw D σ H1) : tSeq (tIfS (tAnd t1 t2) tu tv) tw D σ H := h1 H (Ex.refl H) _ fun H1 e1 => by
  show (if true = true then _ else _)
  rw [if_pos rfl]
  exact k H1 e1
theorem st_retAnd {r : R2} {t2 : TE} {n1 : Nat} (hv : σ[n1]? = some (some v)) (h : tb σ H fun y H1 => tRet (tAndV (tOp r (tC v) (tC y)) t2) D σ H1) : tRet (tAndV (tOp r (tVar n1) tb) t2) D σ H := ⟨v, hv, h⟩
theorem Sep.extV {r : Addr} (W : Sep As H) (hi : As[i]? = some (rL P l xs)) (hr : Has (rL P r ys) H) (hz : xs.length + ys.length ≤ 100000) (q : ∀ H', Sep (As.set i (rL P l (xs ++ ys))) H' → Kt H H' → Q .non H') : rExtend (.ref l) [.ref r] H Q := by
  obtain ⟨F, ⟨e, ws, h1, h2⟩, f1⟩ := W.focus hi
  subst e
  obtain ⟨us, u1, u2⟩ := hr.ls
  refine ⟨l, r, ws, us, rfl, rfl, h1, u1, sz_of (by rw [pr_len h2, pr_len u2]; exact hz), ?_⟩
  have kk := keep_list (us := ws ++ us) h1
  exact q _ (f1 _ _ _ ⟨rfl, _, upd_same, pr_append (pr_mono h2 fun _ _ z => Stab.st kk.kt z) (pr_mono u2 fun _ _ z => Stab.st kk.kt z)⟩ kk) kk.kt
/-- l.extend(something that changes things) -/
theorem ext_src {n1 : Nat} (hv : σ[n1]? = some (some (.ref l))) (hl : Has (rL P l xs) H) (h : tb σ H fun v H1 => rExtend (.ref l) [v] H1 Q) : tBM K "list" rExtend (tVar n1) (tCons tb tNil) σ H Q := by
  obtain ⟨ws, w1, _⟩ := hl.ls
  exact ⟨_, hv, .inl ⟨rfl, ws, sq_of w1⟩, h⟩
/-- over all extensions, then here -/
theorem al_w {ts : TS} (W : Sep As H) (k : ∀ H1, Ex H H1 → Sep As H1 → ts D σ H1) : Alw ts D σ H := fun H1 e => k H1 e (W.ex e)
end
end KW

/-! watchers that hear some -/
namespace KW
open PySem PySem.Spec PyProof.Rows L2 Evl
theorem someOf_step {evs : List Evt} {most : Int} {f : Nat} {taken : List Evt} {e : Evt} (he : evs[taken.length]? = some e) (hlt : taken.length < evs.length) : someOf evs most (f + 1) taken = if taken ≠ [] ∧ most < (taken.length : Int) + (evs.filter fun x => decide (x.num = e.num)).length then (taken, some e.num) else someOf evs most f (taken ++ evs.filter fun x => decide (x.num = e.num)) := by
  rw [someOf]
  rw [if_pos hlt, he]
  rfl
theorem someOf_end {evs : List Evt} {most : Int} {f : Nat} {taken : List Evt} (h : ¬ taken.length < evs.length) : someOf evs most f taken = (taken, none) := by
  cases f with
  | zero => rfl
  | succ f => rw [someOf, if_neg h]
section
variable {K : PySem.W.Frag} {vs : List V} {H : Hp} {Q : VK} {E : XK}
theorem pure_h_hear_some (HC : HCls K) (h : sp_h_hear_some K vs H Q E) : t_h_hear_some K E { nx := fun _ H' => Q .non H', rt := Q } (start N_h_hear_some vs) H := by
  obtain ⟨p, s, z, v, u, rfl, hh, ht, hu, hl, q1, q2, q3, q4⟩ := h
  change t_h_hear_some K E _ [some (.ref p), some v, some u, none, none, none, none, none] H
  refine meth_call (ev_var rfl) hh (by decide +kernel) (ea_cons (ev_var rfl) ea_nil) fun H1 e1 => ⟨p, s, z, v, rfl, hh.ex e1, ht.ex e1, fun H2 e2 => ⟨fun w sp hv hs => ?_, fun hn => q4 hn H2 (e1.trans e2)⟩⟩
  subst hv
  have e12 := e1.trans e2
  refine ⟨_, rfl, u, 1, rfl, hu.ex e12, fun H3 e3 => ⟨fun hw => ?_, fun hw => q3 w sp rfl hs hw H3 (e12.trans e3)⟩⟩
  obtain ⟨most, rfl, hmost⟩ : ∃ most, u = .int most ∧ 1 ≤ most := by
    unfold isWholeV at hw
    split at hw
    · exact ⟨_, rfl, of_decide_eq_true hw⟩
    · cases hw
  have e13 := e12.trans e3
  have hh3 := hh.ex e13
  refine alw_here (al_if (et_B (ev_inCut (ev_var rfl) (ev_cut HC (ev_var rfl) hh3) hh3.cut)) (fun hb H4 e4 => q2 w sp most rfl rfl hs hmost (of_decide_eq_true hb) H4 (e13.trans e4)) fun hb => al_skip fun H4 e4 => ?_)
  have hb := of_decide_eq_false hb
  have e14 := e13.trans e4
  have hh4 := hh.ex e14
  refine seq_meth (ev_var rfl) hh4 (by decide +kernel) (ea_cons (ev_var rfl) ea_nil) fun H5 e5 => ⟨p, s, z, w, sp, rfl, hh4.ex e5, hs, hl, fun H6 r e6 hr hr6 => ?_⟩
  have e16 := (e14.trans e5).trans e6
  have hh6 := hh.ex e16
  have hevl : (s.sinceP sp).length ≤ 50000 := Nat.le_trans (List.length_filter_le _ _) hl
  generalize hevs : s.sinceP sp = evs at *
  -- taken = []
  have e0 := evl_nil (P := EvV) (σ := [some (.ref p), some (.int w), some (.int most), some (.ref r), none, none, none, none]) (H := H6)
  refine st_set (e0 H6 (Ex.refl _) _ fun tl H7 htl e7 htl7 => ?_)
  change tSeq _ _ _ [some (.ref p), some (.int w), some (.int most), some (.ref r), some (.ref tl), none, none, none] _
  refine q_while (fun m σ' H' => Ex H6 H' ∧ ∃ tl taken v5 v6, σ' = [some (.ref p), some (.int w), some (.int most), some (.ref r), some (.ref tl), v5, v6, none] ∧ H6 tl = none ∧ LsAt EvV H' tl taken ∧ someOf evs most m taken = partOf evs most ∧ evs.length ≤ m + taken.length ∧ taken.length ≤ 100000) evs.length ⟨e7, tl, [], none, none, rfl, htl, htl7, rfl, by simp, by decide⟩ ?_
  rintro m σ' H8 ⟨e8, tl, taken, v5, v6, rfl, htl, hta, hso, hm, htk⟩
  have hr8 : LsAt EvV H8 r evs := hr6.ex e8
  refine ⟨decide ((taken.length : Int) < evs.length), et_test (ev_lt (ev_lenR (evr_at rfl hta)) (ev_lenR (evr_at rfl hr8))), fun hb1 H9 e9 => ?_, fun hb1 H9 e9 => ?_⟩
  · have hlt : taken.length < evs.length := by
      have := of_decide_eq_true hb1
      omega
    obtain ⟨e, he⟩ : ∃ e, evs[taken.length]? = some e := ⟨_, List.getElem?_eq_getElem hlt⟩
    obtain ⟨m, rfl⟩ : ∃ k, m = k + 1 := ⟨m - 1, by omega⟩
    rw [someOf_step he hlt] at hso
    have hr9 := hr8.ex e9
    have ht9 := hta.ex e9
    have hnum : Ev (tOp (rIxT K) (tOp (rIxL K) (tVar 3) (tCB (rLenS K) (tCons (tVar 4) tNil))) (tC (.int 0))) [some (.ref p), some (.int w), some (.int most), some (.ref r), some (.ref tl), v5, v6, none] H9 (.int e.num) := ev_evNum (evp_ixR (P := EvV) (evr_at rfl hr9) (ev_lenR (evr_at rfl ht9)) (by omega) (by rw [Int.toNat_natCast]; exact he))
    refine ⟨fun σ2 H2 => Ex H6 H2 ∧ ∃ tl taken v5 v6, σ2 = [some (.ref p), some (.int w), some (.int most), some (.ref r), some (.ref tl), v5, v6, none] ∧ H6 tl = none ∧ LsAt EvV H2 tl taken ∧ someOf evs most m taken = partOf evs most ∧ evs.length ≤ m + taken.length ∧ taken.length ≤ 100000, fun σ2 H2 hn => ⟨m, by omega, hn⟩, ?_⟩
    refine alw_here (al_set hnum ?_)
    change Alw _ _ [some (.ref p), some (.int w), some (.int most), some (.ref r), some (.ref tl), some (.int e.num), v6, none] _
    have hmore := evl_filter (K := K) (P := EvV) (xs := evs) (f := fun x : Evt => decide (x.num = e.num)) (σ := [some (.ref p), some (.int w), some (.int most), some (.ref r), some (.ref tl), some (.int e.num), v6, none]) (H := H9) (tl := tVar 3) (tt := tTest (tOp rEq (tOp (rIxT K) (tVar 7) (tC (.int 0))) (tVar 5))) (n := 7) (vs := [7]) (evr_at rfl hr9) (fun _ => rfl) (fun _ => rfl) (fun x d H1 e1 hx _ => et_test (ev_eqI (ev_evNum (evv_v (ev_var rfl) hx)) (ev_var rfl))) (by omega)
    refine fun H10 e10 => st_set (hmore H10 e10 _ fun ml H11 hml e11 hml11 => ?_)
    have e911 := e10.trans e11
    have ht11 := ht9.ex e911
    have hmem : e ∈ evs.filter (fun x : Evt => decide (x.num = e.num)) := List.mem_filter.mpr ⟨List.mem_of_getElem? he, decide_eq_true rfl⟩
    have hmlen : 0 < (evs.filter (fun x : Evt => decide (x.num = e.num))).length := List.length_pos_iff.mpr (List.ne_nil_of_mem hmem)
    have hmle : (evs.filter (fun x : Evt => decide (x.num = e.num))).length ≤ 50000 := Nat.le_trans (List.length_filter_le _ _) hevl
    generalize evs.filter (fun x : Evt => decide (x.num = e.num)) = more at *
    change tSeq _ _ _ [some (.ref p), some (.int w), some (.int most), some (.ref r), some (.ref tl), some (.int e.num), some (.ref ml), none] _
    refine alw_here (al_if (et_and (et_test (ev_neNilR encEvt (evr_at rfl ht11))) fun _ => et_test (ev_gt (ev_add (ev_lenR (evr_at rfl ht11)) (ev_lenR (evr_at rfl hml11))) (ev_var rfl))) (fun hc H12 e12' => ?_) fun hc => al_skip ?_)
    · rw [Bool.and_eq_true] at hc
      have hc1 : taken ≠ [] := by
        have := hc.1
        simpa using this
      have hc2 : most < (taken.length : Int) + more.length := of_decide_eq_true hc.2
      rw [if_pos ⟨hc1, hc2⟩] at hso
      have e612 : Ex H6 H12 := ((e8.trans e9).trans e911).trans e12'
      have hh12 := hh6.ex e612
      obtain ⟨lw, l1, l2⟩ := ht11.ex e12'
      have rf : tl ∉ z.fp p := fun hm => by
        obtain ⟨o, ho⟩ := hh6.some hm
        rw [htl] at ho
        cases ho
      refine meth_call (ev_var rfl) hh12 (by decide +kernel) (ea_cons (ev_var rfl) (ea_cons (ev_var rfl) ea_nil)) fun H13 e13' => ⟨p, s, z, w, sp, e.num, rfl, hh12.ex e13', hs, fun H14 z14 hh14 k14 => ?_⟩
      have k := (Keep.ex (F := z.fp p) e13').trans k14
      refine alw_here (alw_ret (ev_var rfl) fun H15 e15 => ?_)
      have hz : someTo s w sp most = s.heardTo w sp e.num := by
        unfold someTo
        rw [hevs, ← hso]
        rfl
      refine q1 w sp most rfl rfl hs hmost hb H15 z14 tl (by rw [hz]; exact hh14.ex e15) ((Keep.ex (e16.trans e612)).trans (k.trans (Keep.ex e15))) (fresh_back e16 htl) (k.out l1 rf) ⟨lw, e15 _ _ (k.kp _ _ l1 rf), ?_⟩
      rw [hevs, ← hso]
      exact pr_mono l2 fun _ _ y => EvV.kt (k.kt.trans (Ex.kt e15)) y
    · have hc' : ¬ (taken ≠ [] ∧ most < (taken.length : Int) + more.length) := fun ⟨c1, c2⟩ => by
        rw [show (!decide (taken = []) && decide (most < (taken.length : Int) + more.length)) = true by
          rw [Bool.and_eq_true]
          exact ⟨by simp [c1], decide_eq_true c2⟩] at hc
        cases hc
      rw [if_neg hc'] at hso
      have htlen : taken.length ≤ 50000 := by omega
      refine fun H12 e12' => st_setN (evl_cat (P := EvV) (evr_at rfl ht11) (evr_at rfl hml11) (by omega) H12 e12' _ fun t2 H13 ht2 e13' ht13 => ?_)
      have e613 : Ex H6 H12 := ((e8.trans e9).trans e911).trans e12'
      exact ⟨e613.trans e13', t2, taken ++ more, _, _, rfl, fresh_back e613 ht2, ht13, hso, by rw [List.length_append]; omega, by rw [List.length_append]; omega⟩
  · have hnl : ¬ taken.length < evs.length := by
      have := of_decide_eq_false hb1
      omega
    rw [someOf_end hnl] at hso
    have e612 : Ex H6 H9 := e8.trans e9
    have hh12 := hh6.ex e612
    obtain ⟨lw, l1, l2⟩ := hta.ex e9
    have rf : tl ∉ z.fp p := fun hm => by
      obtain ⟨o, ho⟩ := hh6.some hm
      rw [htl] at ho
      cases ho
    refine meth_call (ev_var rfl) hh12 (by decide +kernel) (ea_cons (ev_var rfl) (ea_cons (ev_add (ev_last HC (ev_var rfl) hh12) ev_c) ea_nil)) fun H13 e13' => ⟨p, s, z, w, sp, s.last + 1, rfl, hh12.ex e13', hs, fun H14 z14 hh14 k14 => ?_⟩
    have k := (Keep.ex (F := z.fp p) e13').trans k14
    refine alw_here (alw_ret (ev_var rfl) fun H15 e15 => ?_)
    have hz : someTo s w sp most = s.heardTo w sp (s.last + 1) := by
      unfold someTo
      rw [hevs, ← hso]
      rfl
    refine q1 w sp most rfl rfl hs hmost hb H15 z14 tl (by rw [hz]; exact hh14.ex e15) ((Keep.ex (e16.trans e612)).trans (k.trans (Keep.ex e15))) (fresh_back e16 htl) (k.out l1 rf) ⟨lw, e15 _ _ (k.kp _ _ l1 rf), ?_⟩
    rw [hevs, ← hso]
    exact pr_mono l2 fun _ _ y => EvV.kt (k.kt.trans (Ex.kt e15)) y
end
end KW

/-! parts of changes -/
namespace KW
open PySem PySem.Spec PyProof.Rows L2 Evl
def sp_l_part (_ : PySem.W.Frag) : Sp := fun vs H Q _ => ∃ l evs most, vs = [.ref l, .int most] ∧ LogAt H l evs ∧ evs.length ≤ 50000 ∧ ∀ H' r, Ex H H' → H r = none → LogAt H' r (partOf evs most).1 → Q (.ref r) H'
end KW

/-! readings, printed by mkT.py -/
namespace KW
open PySem PySem.Spec PyProof.Rows L2 Evl
def t_l_part (K : PySem.W.Frag) : TS := (tSeq (tAsg (tLst tNil) (gName 2))
  (tSeq (tWhile (tTest (tOp rLtI (tCB (rLenS K) (tCons (tVar 2) tNil)) (tCB (rLenS K) (tCons (tVar 0) tNil))))
 (tSeq (tAsg (tOp (rIxT K) (tOp (rIxL K) (tVar 0) (tCB (rLenS K) (tCons (tVar 2) tNil))) (tC (.int 0))) (gName 3))
  (tSeq (tAsg (tLc (iList K (tVar 0)) (gName 5) (tTest (tOp rEq (tOp (rIxT K) (tVar 5) (tC (.int 0))) (tVar 3))) (tVar 5) [5]) (gName 4))
  (tSeq (tIfS (tAnd (tTest (tOp (rNeP K) (tVar 2) (tLst tNil))) (tTest (tOp rGtI (tOp rAddI (tCB (rLenS K) (tCons (tVar 2) tNil)) (tCB (rLenS K) (tCons (tVar 4) tNil))) (tVar 1)))) (tRet (tVar 2)) tNext)
  (tAsg (tOp rCat (tVar 2) (tVar 4)) (gName 2))))))
  (tRet (tVar 2))))
abbrev N_l_part : List Str := ["rest", "most", "made", "number", "more", "event"]
end KW

/-! parts of changes: what they are -/
namespace KW
open PySem PySem.Spec PyProof.Rows L2 Evl
def NumSorted (evs : List Evt) : Prop := evs.Pairwise fun a b => a.num ≤ b.num
theorem split_num {evs : List Evt} (h : NumSorted evs) (n : Int) : evs = evs.filter (fun e => decide (e.num < n)) ++ evs.filter fun e => decide (n ≤ e.num) := by
  induction evs with
  | nil => rfl
  | cons e r ih =>
    obtain ⟨h1, h2⟩ := List.pairwise_cons.mp h
    rw [List.filter_cons, List.filter_cons]
    by_cases hn : e.num < n
    · rw [if_pos (decide_eq_true hn), if_neg (by simp; omega), List.cons_append, ← ih h2]
    · rw [if_neg (by simp; omega), if_pos (decide_eq_true (by omega))]
      have e0 : r.filter (fun e => decide (e.num < n)) = [] := List.filter_eq_nil_iff.mpr fun x hx => by
        have := h1 x hx
        simp
        omega
      have e1 : r.filter (fun e => decide (n ≤ e.num)) = r := List.filter_eq_self.mpr fun x hx => by
        have := h1 x hx
        exact decide_eq_true (by omega)
      rw [e0, e1, List.nil_append]
/-- the first ones of a number -/
theorem first_ge {evs : List Evt} (h : NumSorted evs) {n : Int} {e : Evt} (he : evs[(evs.filter fun e => decide (e.num < n)).length]? = some e) : n ≤ e.num ∧ evs.filter (fun x => decide (x.num < n)) = evs.filter fun x => decide (x.num < e.num) := by
  have hs := split_num h n
  have he2 : (evs.filter fun e => decide (n ≤ e.num))[0]? = some e := by
    have h1 : (evs.filter (fun e => decide (e.num < n)) ++ evs.filter fun e => decide (n ≤ e.num))[(evs.filter fun e => decide (e.num < n)).length]? = some e := by
      rw [← hs]
      exact he
    rw [List.getElem?_append_right (Nat.le_refl _), Nat.sub_self] at h1
    exact h1
  have hsB : NumSorted (evs.filter fun e => decide (n ≤ e.num)) := List.Pairwise.sublist List.filter_sublist h
  have hmem : e ∈ evs.filter fun e => decide (n ≤ e.num) := List.mem_of_getElem? he2
  have hn : n ≤ e.num := of_decide_eq_true (List.mem_filter.mp hmem).2
  refine ⟨hn, List.filter_congr fun x hx => decide_eq_decide.mpr ⟨fun z => by omega, fun z => ?_⟩⟩
  by_cases hxn : n ≤ x.num
  · have hxB : x ∈ evs.filter fun e => decide (n ≤ e.num) := List.mem_filter.mpr ⟨hx, decide_eq_true hxn⟩
    generalize evs.filter (fun e => decide (n ≤ e.num)) = B at *
    cases B with
    | nil => cases hxB
    | cons b r =>
      cases (show some b = some e from he2)
      rcases List.mem_cons.mp hxB with z2 | z2
      · rw [z2] at z
        omega
      · have := (List.pairwise_cons.mp hsB).1 x z2
        omega
  · omega
theorem filter_le_eq {evs : List Evt} (h : NumSorted evs) (n : Int) : evs.filter (fun x => decide (x.num < n)) ++ evs.filter (fun x => decide (x.num = n)) = evs.filter fun x => decide (x.num < n + 1) := by
  have h1 := split_num (List.Pairwise.sublist (List.filter_sublist (l := evs) (p := fun x => decide (x.num < n + 1))) h) n
  rw [List.filter_filter, List.filter_filter] at h1
  rw [h1]
  congr 1
  · exact List.filter_congr fun x _ => by
      by_cases hx : x.num < n
      · rw [decide_eq_true hx, decide_eq_true (show x.num < n + 1 by omega)]
        rfl
      · rw [decide_eq_false hx]
        rfl
  · exact List.filter_congr fun x _ => by
      by_cases hx : x.num = n
      · rw [decide_eq_true hx, decide_eq_true (show x.num < n + 1 by omega), decide_eq_true (show n ≤ x.num by omega)]
        rfl
      · rw [decide_eq_false hx]
        by_cases h2 : n ≤ x.num
        · rw [decide_eq_false (show ¬ x.num < n + 1 by omega), Bool.and_false]
        · rw [decide_eq_false h2, Bool.false_and]
theorem someOf_spec {evs : List Evt} (h : NumSorted evs) (most : Int) : ∀ (f : Nat) (n : Int), evs.length ≤ f + (evs.filter fun e => decide (e.num < n)).length →
    (∃ e ∈ evs, n ≤ e.num ∧ someOf evs most f (evs.filter fun e => decide (e.num < n)) = (evs.filter (fun x => decide (x.num < e.num)), some e.num)) ∨ someOf evs most f (evs.filter fun e => decide (e.num < n)) = (evs, none)
  | f, n, hf => by
    by_cases hlt : (evs.filter fun e => decide (e.num < n)).length < evs.length
    · obtain ⟨e, he⟩ : ∃ e, evs[(evs.filter fun e => decide (e.num < n)).length]? = some e := ⟨_, List.getElem?_eq_getElem hlt⟩
      obtain ⟨hn, hfe⟩ := first_ge h he
      cases f with
      | zero => omega
      | succ f =>
        rw [someOf_step he hlt]
        split
        · exact .inl ⟨e, List.mem_of_getElem? he, hn, by rw [hfe]⟩
        · rw [hfe, filter_le_eq h]
          have hmem : e ∈ evs.filter fun x => decide (x.num = e.num) := List.mem_filter.mpr ⟨List.mem_of_getElem? he, decide_eq_true rfl⟩
          have hlen := congrArg List.length (filter_le_eq h e.num)
          rw [List.length_append] at hlen
          have hpos := List.length_pos_iff.mpr (List.ne_nil_of_mem hmem)
          rw [hfe] at hf
          rcases someOf_spec h most f (e.num + 1) (by omega) with ⟨e', h1, h2, h3⟩ | h1
          · exact .inl ⟨e', h1, by omega, h3⟩
          · exact .inr h1
    · have hle : (evs.filter fun e => decide (e.num < n)).length ≤ evs.length := List.length_filter_le _ _
      rw [someOf_end hlt]
      have : evs.filter (fun e => decide (e.num < n)) = evs := List.filter_sublist.eq_of_length (by omega)
      exact .inr (by rw [this])
/-- what is taken: all below a number that is there, or all -/
theorem partOf_spec {evs : List Evt} (h : NumSorted evs) (most : Int) : (∃ e ∈ evs, partOf evs most = (evs.filter (fun x => decide (x.num < e.num)), some e.num)) ∨ partOf evs most = (evs, none) := by
  cases evs with
  | nil => exact .inr rfl
  | cons e r =>
    have h0 : (e :: r).filter (fun x => decide (x.num < e.num)) = [] := List.filter_eq_nil_iff.mpr fun x hx => by
      rcases List.mem_cons.mp hx with z | z
      · rw [z]
        simp
      · have := (List.pairwise_cons.mp h).1 x z
        simp
        omega
    have h1 := someOf_spec h most (e :: r).length e.num (by omega)
    rw [h0] at h1
    rcases h1 with ⟨e', z1, z2, z3⟩ | z
    · exact .inl ⟨e', z1, z3⟩
    · exact .inr z
section
variable {K : PySem.W.Frag} {vs : List V} {H : Hp} {Q : VK} {E : XK}
theorem pure_l_part (h : sp_l_part K vs H Q E) : t_l_part K { nx := fun _ H' => Q .non H', rt := Q } (start N_l_part vs) H := by
  obtain ⟨r, evs, most, rfl, hr, hevl, q⟩ := h
  change t_l_part K _ [some (.ref r), some (.int most), none, none, none, none] H
  have e0 := evl_nil (P := EvV) (σ := [some (.ref r), some (.int most), none, none, none, none]) (H := H)
  refine st_set (e0 H (Ex.refl _) _ fun tl H7 htl e7 htl7 => ?_)
  change tSeq _ _ _ [some (.ref r), some (.int most), some (.ref tl), none, none, none] _
  refine q_while (fun m σ' H' => Ex H H' ∧ ∃ tl taken v5 v6, σ' = [some (.ref r), some (.int most), some (.ref tl), v5, v6, none] ∧ H tl = none ∧ LsAt EvV H' tl taken ∧ (someOf evs most m taken).1 = (partOf evs most).1 ∧ evs.length ≤ m + taken.length ∧ taken.length ≤ 100000) evs.length ⟨e7, tl, [], none, none, rfl, htl, htl7, rfl, by simp, by decide⟩ ?_
  rintro m σ' H8 ⟨e8, tl, taken, v5, v6, rfl, htl, hta, hso, hm, htk⟩
  have hr8 : LsAt EvV H8 r evs := hr.ex e8
  refine ⟨decide ((taken.length : Int) < evs.length), et_test (ev_lt (ev_lenR (evr_at rfl hta)) (ev_lenR (evr_at rfl hr8))), fun hb1 H9 e9 => ?_, fun hb1 H9 e9 => ?_⟩
  · have hlt : taken.length < evs.length := by
      have := of_decide_eq_true hb1
      omega
    obtain ⟨e, he⟩ : ∃ e, evs[taken.length]? = some e := ⟨_, List.getElem?_eq_getElem hlt⟩
    obtain ⟨m, rfl⟩ : ∃ k, m = k + 1 := ⟨m - 1, by omega⟩
    rw [someOf_step he hlt] at hso
    have hr9 := hr8.ex e9
    have ht9 := hta.ex e9
    have hnum : Ev (tOp (rIxT K) (tOp (rIxL K) (tVar 0) (tCB (rLenS K) (tCons (tVar 2) tNil))) (tC (.int 0))) [some (.ref r), some (.int most), some (.ref tl), v5, v6, none] H9 (.int e.num) := ev_evNum (evp_ixR (P := EvV) (evr_at rfl hr9) (ev_lenR (evr_at rfl ht9)) (by omega) (by rw [Int.toNat_natCast]; exact he))
    refine ⟨fun σ2 H2 => Ex H H2 ∧ ∃ tl taken v5 v6, σ2 = [some (.ref r), some (.int most), some (.ref tl), v5, v6, none] ∧ H tl = none ∧ LsAt EvV H2 tl taken ∧ (someOf evs most m taken).1 = (partOf evs most).1 ∧ evs.length ≤ m + taken.length ∧ taken.length ≤ 100000, fun σ2 H2 hn => ⟨m, by omega, hn⟩, ?_⟩
    refine alw_here (al_set hnum ?_)
    change Alw _ _ [some (.ref r), some (.int most), some (.ref tl), some (.int e.num), v6, none] _
    have hmore := evl_filter (K := K) (P := EvV) (xs := evs) (f := fun x : Evt => decide (x.num = e.num)) (σ := [some (.ref r), some (.int most), some (.ref tl), some (.int e.num), v6, none]) (H := H9) (tl := tVar 0) (tt := tTest (tOp rEq (tOp (rIxT K) (tVar 5) (tC (.int 0))) (tVar 3))) (n := 5) (vs := [5]) (evr_at rfl hr9) (fun _ => rfl) (fun _ => rfl) (fun x d H1 e1 hx _ => et_test (ev_eqI (ev_evNum (evv_v (ev_var rfl) hx)) (ev_var rfl))) (by omega)
    refine fun H10 e10 => st_set (hmore H10 e10 _ fun ml H11 hml e11 hml11 => ?_)
    have e911 := e10.trans e11
    have ht11 := ht9.ex e911
    have hmem : e ∈ evs.filter (fun x : Evt => decide (x.num = e.num)) := List.mem_filter.mpr ⟨List.mem_of_getElem? he, decide_eq_true rfl⟩
    have hmlen : 0 < (evs.filter (fun x : Evt => decide (x.num = e.num))).length := List.length_pos_iff.mpr (List.ne_nil_of_mem hmem)
    have hmle : (evs.filter (fun x : Evt => decide (x.num = e.num))).length ≤ 50000 := Nat.le_trans (List.length_filter_le _ _) hevl
    generalize evs.filter (fun x : Evt => decide (x.num = e.num)) = more at *
    change tSeq _ _ _ [some (.ref r), some (.int most), some (.ref tl), some (.int e.num), some (.ref ml), none] _
    refine alw_here (al_if (et_and (et_test (ev_neNilR encEvt (evr_at rfl ht11))) fun _ => et_test (ev_gt (ev_add (ev_lenR (evr_at rfl ht11)) (ev_lenR (evr_at rfl hml11))) (ev_var rfl))) (fun hc => ?_) fun hc => al_skip ?_)
    · rw [Bool.and_eq_true] at hc
      have hc1 : taken ≠ [] := by
        have := hc.1
        simpa using this
      have hc2 : most < (taken.length : Int) + more.length := of_decide_eq_true hc.2
      rw [if_pos ⟨hc1, hc2⟩] at hso
      refine alw_ret (ev_var rfl) fun H15 e15 => q H15 tl (((e8.trans e9).trans e911).trans e15) htl ?_
      rw [← hso]
      exact ht11.ex e15
    · have hc' : ¬ (taken ≠ [] ∧ most < (taken.length : Int) + more.length) := fun ⟨c1, c2⟩ => by
        rw [show (!decide (taken = []) && decide (most < (taken.length : Int) + more.length)) = true by
          rw [Bool.and_eq_true]
          exact ⟨by simp [c1], decide_eq_true c2⟩] at hc
        cases hc
      rw [if_neg hc'] at hso
      have htlen : taken.length ≤ 50000 := by omega
      refine fun H12 e12' => st_setN (evl_cat (P := EvV) (evr_at rfl ht11) (evr_at rfl hml11) (by omega) H12 e12' _ fun t2 H13 ht2 e13' ht13 => ?_)
      have e613 : Ex H H12 := ((e8.trans e9).trans e911).trans e12'
      exact ⟨e613.trans e13', t2, taken ++ more, _, _, rfl, fresh_back e613 ht2, ht13, hso, by rw [List.length_append]; omega, by rw [List.length_append]; omega⟩
  · have hnl : ¬ taken.length < evs.length := by
      have := of_decide_eq_false hb1
      omega
    rw [someOf_end hnl] at hso
    refine alw_here (alw_ret (ev_var rfl) fun H15 e15 => q H15 tl ((e8.trans e9).trans e15) htl ?_)
    rw [← hso]
    exact hta.ex (e9.trans e15)
/-- house.hear_some(watcher, most) -/
theorem Sep.hearSome {σ : L2.St} {te ta tb : TE} {As : List Asrt} {i n : Nat} {ks : List Str} {p : Addr} {s : HS} {w most : Int} {sp : Span} (W : Sep As H) (hi : As[i]? = some (rH K ks n p s)) (he : Ev te σ H (.ref p)) (e1 : Ev ta σ H (.int w)) (e2 : Ev tb σ H (.int most)) (hs : s.spanOf w = some sp) (h1 : 1 ≤ most) (hc : w ∉ s.cut)
    (q : ∀ r H', Sep (As.set i (rH K ks n p (someTo s w sp most)) ++ [rL EvV r (partOf (s.sinceP sp) most).1]) H' → Kt H H' → Q (.ref r) H') : tMeth (clsHouse K) "hear_some" (sp_h_hear_some K) [] E te (tCons ta (tCons tb tNil)) σ H Q :=
  W.meth hi he (by decide +kernel) (ea_cons e1 (ea_cons e2 ea_nil)) fun H1 z g => ⟨p, s, z, .int w, .int most, rfl, g.hh, .int w, .int most, by have := g.ok.size; omega, fun w' sp' most' hv hu hs' _ hc' H2 z2 r hh2 k2 hr hrf hl => by
    cases hv
    cases hu
    rw [hs] at hs'
    cases hs'
    obtain ⟨a1, a2⟩ := g.go2 _ _ z2 H2 (rL EvV r (partOf (s.sinceP sp) most).1) [r] hh2 (g.ok.spans _) k2 ⟨rfl, hl⟩ fun b hb => by
      rw [List.mem_singleton.mp hb]
      exact ⟨hr, hrf⟩
    exact q r H2 a1 a2, fun w' sp' most' hv _ hs' _ hc' => by
    cases hv
    exact absurd hc' hc, fun w' sp' hv hs' hw => by
    have : isWholeV (.int most) 1 = true := decide_eq_true h1
    rw [this] at hw
    exact Bool.noConfusion hw, fun hn => by
    have := hn w rfl
    rw [hs] at this
    cases this⟩
end
end KW

/-! a house goes on; what a watcher heard -/
namespace KW
open PySem PySem.Spec PyProof.Rows L2 Evl
def Grow (s t : HS) : Prop := s.last ≤ t.last ∧ ∃ new, t.log = s.log ++ new ∧ ∀ e ∈ new, s.last < e.num ∧ e.num ≤ t.last
theorem Grow.refl (s : HS) : Grow s s := ⟨Int.le_refl _, [], by simp, fun e h => by cases h⟩
theorem Grow.trans {s t u : HS} (a : Grow s t) (b : Grow t u) : Grow s u := by
  obtain ⟨a1, n1, a2, a3⟩ := a
  obtain ⟨b1, n2, b2, b3⟩ := b
  refine ⟨by omega, n1 ++ n2, by rw [b2, a2, List.append_assoc], fun e he => ?_⟩
  rcases List.mem_append.mp he with z | z
  · have := a3 e z
    exact ⟨this.1, by omega⟩
  · have := b3 e z
    exact ⟨by omega, this.2⟩
theorem grow_same {s t : HS} (h1 : t.last = s.last) (h2 : t.log = s.log) : Grow s t := ⟨by omega, [], by simp [h2], fun e h => by cases h⟩
theorem write_grow (s : HS) (ds : List Deed) : Grow s (s.write ds) := by
  refine ⟨?_, _, write_log s ds, fun e he => ?_⟩
  · rw [write_last]
    split <;> omega
  · obtain ⟨d, hd, rfl⟩ := List.mem_map.mp he
    rw [write_last, if_neg (List.ne_nil_of_mem hd)]
    exact ⟨by show s.last < s.last + 1; omega, Int.le_refl _⟩
theorem endL_grow (s : HS) (l : Int) : Grow s (s.endL l) := (write_grow s _).trans (grow_same rfl rfl)
theorem fold_grow (goal : Int) : ∀ (ps : List (Int × Int)) (s : HS), Grow s (ps.foldl (HS.step goal) s)
  | [], s => Grow.refl s
  | p :: r, s => by
    rw [List.foldl_cons]
    refine Grow.trans ?_ (fold_grow goal r _)
    by_cases h : p.1 ≤ goal
    · rw [step_yes h]
      exact (grow_same (t := { s with now := p.1 }) rfl rfl).trans (endL_grow _ _)
    · rw [step_no h]
      exact Grow.refl s
theorem act_grow (s : HS) (d : LDeed) : Grow s (s.act d) := by
  cases d with
  | one d => exact write_grow s _
  | deal cs ts os => exact write_grow s _
  | grant t => exact grow_same rfl rfl
  | wait n => exact (fold_grow (s.now + n) s.due s).trans (grow_same rfl rfl)
  | renew l => exact grow_same rfl rfl
  | give l => exact endL_grow s l
theorem maxI_left (i j : Int) : i ≤ maxI i j := by
  unfold maxI
  split <;> omega
theorem maxI_right (i j : Int) : j ≤ maxI i j := by
  unfold maxI
  split <;> omega
/-- what was heard from n on, up to m -/
structure Hd (s : HS) (a b : Str) (n m : Int) (heard : List Evt) : Prop where
  le : n ≤ m
  ok : m = n ∨ m ≤ s.last + 1
  eq : heard = s.log.filter fun e => decide (e.num < m) && (decide (n ≤ e.num) && within e.deed.key a b)
theorem hd_new (s : HS) (a b : Str) (n : Int) : Hd s a b n n [] := ⟨Int.le_refl _, .inl rfl, (List.filter_eq_nil_iff.mpr fun e _ h => by
  rw [Bool.and_eq_true, Bool.and_eq_true, decide_eq_true_eq, decide_eq_true_eq] at h
  omega).symm⟩
theorem Hd.grow {s t : HS} {a b : Str} {n m : Int} {heard : List Evt} (h : Hd s a b n m heard) (g : Grow s t) : Hd t a b n m heard := by
  obtain ⟨g1, new, g2, g3⟩ := g
  refine ⟨h.le, h.ok.imp id fun z => by omega, ?_⟩
  rw [g2, List.filter_append, ← h.eq]
  have : new.filter (fun e => decide (e.num < m) && (decide (n ≤ e.num) && within e.deed.key a b)) = [] := List.filter_eq_nil_iff.mpr fun e he z => by
    rw [Bool.and_eq_true, Bool.and_eq_true, decide_eq_true_eq, decide_eq_true_eq] at z
    have := (g3 e he).1
    rcases h.ok with y | y <;> omega
  rw [this, List.append_nil]
theorem Hd.same {s t : HS} {a b : Str} {n m : Int} {heard : List Evt} (h : Hd s a b n m heard) (h1 : t.last = s.last) (h2 : t.log = s.log) : Hd t a b n m heard := h.grow (grow_same h1 h2)
theorem since_sorted {s : HS} (w : s.Wf) (a b : Str) (n : Int) : NumSorted (s.since a b n) := List.Pairwise.sublist List.filter_sublist w.sorted
theorem since_lt {s : HS} (w : s.Wf) {a b : Str} {n : Int} {e : Evt} (h : e ∈ s.since a b n) : n ≤ e.num ∧ e.num ≤ s.last := by
  obtain ⟨h1, h2⟩ := List.mem_filter.mp h
  rw [Bool.and_eq_true, decide_eq_true_eq] at h2
  exact ⟨h2.1, (w.bnd e h1).2⟩
theorem since_cut {s : HS} (w : s.Wf) {a b : Str} {n m : Int} (h : n ≤ m) : (s.since a b n).filter (fun e => decide (m ≤ e.num)) = s.since a b m := by
  unfold HS.since
  rw [List.filter_filter]
  refine List.filter_congr fun e he => ?_
  by_cases h1 : m ≤ e.num
  · rw [decide_eq_true h1, decide_eq_true (show n ≤ e.num by omega)]
    simp
  · rw [decide_eq_false h1]
    simp
theorem Hd.split {s : HS} {a b : Str} {n m : Int} {heard : List Evt} (h : Hd s a b n m heard) (w : s.Wf) : s.since a b n = heard ++ s.since a b m := by
  have h1 := split_num (since_sorted w a b n) m
  rw [since_cut w h.le] at h1
  have h2 : (s.since a b n).filter (fun e => decide (e.num < m)) = heard := by
    rw [h.eq]
    unfold HS.since
    rw [List.filter_filter]
  rw [h2] at h1
  exact h1
theorem Hd.hear {s : HS} {a b : Str} {n m : Int} {heard : List Evt} (h : Hd s a b n m heard) (w : s.Wf) : Hd s a b n (maxI m (s.last + 1)) (heard ++ s.since a b m) := by
  have hle := h.le
  refine ⟨?_, ?_, ?_⟩
  · unfold maxI
    split <;> omega
  · unfold maxI
    split
    · exact .inr (Int.le_refl _)
    · rcases h.ok with z | z
      · exact .inl z
      · exact .inr z
  · rw [← h.split w]
    unfold HS.since
    refine List.filter_congr fun e he => ?_
    have := (w.bnd e he).2
    rw [decide_eq_true (show e.num < maxI m (s.last + 1) by unfold maxI; split <;> omega), Bool.true_and]
theorem Hd.some {s : HS} {a b : Str} {n m : Int} {heard : List Evt} (h : Hd s a b n m heard) (w : s.Wf) (most : Int) : Hd s a b n (maxI m (((partOf (s.since a b m) most).2).getD (s.last + 1))) (heard ++ (partOf (s.since a b m) most).1) := by
  rcases partOf_spec (since_sorted w a b m) most with ⟨e, he, hp⟩ | hp
  · rw [hp]
    obtain ⟨l1, l2⟩ := since_lt w he
    have hm : maxI m ((Option.some e.num).getD (s.last + 1)) = e.num := by
      show maxI m e.num = e.num
      unfold maxI
      split <;> omega
    rw [hm]
    have hle := h.le
    refine ⟨by omega, .inr (by omega), ?_⟩
    show heard ++ (s.since a b m).filter (fun x => decide (x.num < e.num)) = _
    have h1 := split_num (List.Pairwise.sublist (List.filter_sublist (l := s.log) (p := fun x => decide (x.num < e.num) && (decide (n ≤ x.num) && within x.deed.key a b))) w.sorted) m
    rw [List.filter_filter, List.filter_filter] at h1
    rw [h1, h.eq]
    congr 1
    · refine List.filter_congr fun x _ => ?_
      by_cases hx : x.num < m
      · rw [decide_eq_true hx, decide_eq_true (show x.num < e.num by omega), Bool.true_and, Bool.true_and]
      · rw [decide_eq_false hx]
        simp
    · unfold HS.since
      rw [List.filter_filter]
      refine List.filter_congr fun x _ => ?_
      by_cases hx : m ≤ x.num
      · rw [decide_eq_true hx, decide_eq_true (show n ≤ x.num by omega)]
        simp
      · rw [decide_eq_false hx]
        simp
  · rw [hp]
    exact h.hear w
end KW

/-! things of any kind, with what is in them -/
namespace KW
open PySem PySem.Spec PyProof.Rows L2 Evl
inductive Tg where
  | non
  | bl (b : Bool)
  | int (i : Int)
  | str (x : Str)
  | tup (xs : List Tg)
  | lst (xs : List Tg)
  | dct
mutual
inductive TgV (H : Hp) : V → Tg → Prop where
  | non : TgV H .non .non
  | bl (b : Bool) : TgV H (.bl b) (.bl b)
  | int (i : Int) : TgV H (.int i) (.int i)
  | str (x : Str) (h : x.length ≤ 100000) : TgV H (.str x) (.str x)
  | tup {a : Addr} {vs : List V} {ts : List Tg} (e : H a = some (.tup vs)) (t : TgVs H vs ts) : TgV H (.ref a) (.tup ts)
  | lst {a : Addr} {vs : List V} {ts : List Tg} (e : H a = some (.lst vs)) (t : TgVs H vs ts) : TgV H (.ref a) (.lst ts)
  | dct {a : Addr} {es : List (Key × V)} (e : H a = some (.dK es)) : TgV H (.ref a) .dct
inductive TgVs (H : Hp) : List V → List Tg → Prop where
  | nil : TgVs H [] []
  | cons {v : V} {t : Tg} {vs : List V} {ts : List Tg} (h : TgV H v t) (r : TgVs H vs ts) : TgVs H (v :: vs) (t :: ts)
end
mutual
theorem TgV.ex {H H' : Hp} (e : Ex H H') : ∀ {v : V} {t : Tg}, TgV H v t → TgV H' v t
  | _, _, .non => .non
  | _, _, .bl b => .bl b
  | _, _, .int i => .int i
  | _, _, .str x h => .str x h
  | _, _, .tup h t => .tup (e _ _ h) (TgVs.ex e t)
  | _, _, .lst h t => .lst (e _ _ h) (TgVs.ex e t)
  | _, _, .dct h => .dct (e _ _ h)
theorem TgVs.ex {H H' : Hp} (e : Ex H H') : ∀ {vs : List V} {ts : List Tg}, TgVs H vs ts → TgVs H' vs ts
  | _, _, .nil => .nil
  | _, _, .cons h t => .cons (TgV.ex e h) (TgVs.ex e t)
end
theorem TgVs.pr {H : Hp} : ∀ {vs : List V} {ts : List Tg}, TgVs H vs ts → Paired (TgV H) vs ts
  | _, _, .nil => .nil
  | _, _, .cons h t => .cons h t.pr
theorem TgVs.of {H : Hp} : ∀ {vs : List V} {ts : List Tg}, Paired (TgV H) vs ts → TgVs H vs ts
  | _, _, .nil => .nil
  | _, _, .cons h t => .cons h (TgVs.of t)
theorem TgV.thing {K : PySem.W.Frag} {H : Hp} {v : V} {t : Tg} (h : TgV H v t) : Thing K H v := by
  cases h with
  | non => exact .non
  | bl b => exact .bl b
  | int i => exact .int i
  | str x h => exact .str x h
  | tup e _ => exact .tup e
  | lst e _ => exact .lst e
  | dct e => exact .dK e
def isTupT : Tg → Bool
  | .tup _ => true
  | _ => false
def isLstT : Tg → Bool
  | .lst _ => true
  | _ => false
def isStrT : Tg → Bool
  | .str _ => true
  | _ => false
def keyT : Tg → Bool
  | .str x => isKey x
  | _ => false
def wholeT (t : Tg) (low : Int) : Bool := match t with
  | .int i => decide (low ≤ i)
  | _ => false
def valueT : Tg → Bool
  | .int i => decide (0 ≤ i) && decide (i ≤ 9999)
  | _ => false
def noneT : Tg → Bool
  | .non => true
  | _ => false
def leaseT (t : Tg) : Bool := noneT t || wholeT t 1
section
variable {K : PySem.W.Frag} {H : Hp} {v : V} {t : Tg} {σ : L2.St} {te ta : TE} {E : XK}
theorem tg_key (h : TgV H v t) : isKeyV v = keyT t := by cases h <;> rfl
theorem tg_whole (h : TgV H v t) (low : Int) : isWholeV v low = wholeT t low := by cases h <;> rfl
theorem tg_value (h : TgV H v t) : isValueV v = valueT t := by cases h <;> rfl
theorem tg_none (h : TgV H v t) : decide (v = .non) = noneT t := by cases h <;> rfl
theorem tg_lease (h : TgV H v t) : isLeaseV v = leaseT t := by
  unfold isLeaseV leaseT
  rw [tg_none h, tg_whole h]
theorem ev_isTupT (ha : Ev ta σ H v) (h : TgV H v t) : Ev (tCB (rIsi K) (tCons ta (tCons (tC (.ty "tuple")) tNil))) σ H (.bl (isTupT t)) := ev_isi (b := isTupT t) ha h.thing (by
  cases h with
  | non => rfl
  | bl b => rfl
  | int i => rfl
  | str x h => rfl
  | tup e _ => show kitB (tyO (H _)) _ = _; rw [e]; rfl
  | lst e _ => show kitB (tyO (H _)) _ = _; rw [e]; rfl
  | dct e => show kitB (tyO (H _)) _ = _; rw [e]; rfl)
theorem ev_isLstT (ha : Ev ta σ H v) (h : TgV H v t) : Ev (tCB (rIsi K) (tCons ta (tCons (tC (.ty "list")) tNil))) σ H (.bl (isLstT t)) := ev_isi (b := isLstT t) ha h.thing (by
  cases h with
  | non => rfl
  | bl b => rfl
  | int i => rfl
  | str x h => rfl
  | tup e _ => show kitB (tyO (H _)) _ = _; rw [e]; rfl
  | lst e _ => show kitB (tyO (H _)) _ = _; rw [e]; rfl
  | dct e => show kitB (tyO (H _)) _ = _; rw [e]; rfl)
theorem ev_isStrT (ha : Ev ta σ H v) (h : TgV H v t) : Ev (tCB (rIsi K) (tCons ta (tCons (tC (.ty "str")) tNil))) σ H (.bl (isStrT t)) := ev_isi (b := isStrT t) ha h.thing (by
  cases h with
  | non => rfl
  | bl b => rfl
  | int i => rfl
  | str x h => rfl
  | tup e _ => show kitB (tyO (H _)) _ = _; rw [e]; rfl
  | lst e _ => show kitB (tyO (H _)) _ = _; rw [e]; rfl
  | dct e => show kitB (tyO (H _)) _ = _; rw [e]; rfl)
theorem ev_valueT (ha : Ev ta σ H v) (h : TgV H v t) : Ev (tCall (sp_is_value K) [] E (tCons ta tNil)) σ H (.bl (valueT t)) := by
  rw [← tg_value h]
  exact ev_isValue ha h.thing
theorem ev_keyT (ha : Ev ta σ H v) (h : TgV H v t) : Ev (tCall (sp_is_key K) [] E (tCons ta tNil)) σ H (.bl (keyT t)) := by
  rw [← tg_key h]
  exact ev_isKey ha h.thing
theorem ev_leaseT (ha : Ev ta σ H v) (h : TgV H v t) : Ev (tCall (sp_is_lease K) [] E (tCons ta tNil)) σ H (.bl (leaseT t)) := by
  rw [← tg_lease h]
  exact ev_isLease ha h.thing
theorem ev_wholeT {low : Int} {tb : TE} (ha : Ev ta σ H v) (hb : Ev tb σ H (.int low)) (h : TgV H v t) : Ev (tCall (sp_is_whole K) [] E (tCons ta (tCons tb tNil))) σ H (.bl (wholeT t low)) := by
  rw [← tg_whole h]
  exact ev_isWhole ha hb h.thing
theorem ev_noneT (ha : Ev ta σ H v) (h : TgV H v t) : Ev (tOp rIsN ta (tC .non)) σ H (.bl (noneT t)) := by
  rw [← tg_none h]
  exact ev_isN ha
/-- the length of a tuple -/
theorem ev_lenTg {a : Addr} {vs : List V} (ha : Ev ta σ H (.ref a)) (h : H a = some (.tup vs)) : Ev (tCB (rLenS K) (tCons ta tNil)) σ H (.int (vs.length : Int)) := fun H1 e Q q =>
  ha H1 e _ fun H2 e2 => ⟨a, vs, rfl, .inr (st_of ((e.trans e2) _ _ h)), q H2 e2⟩
theorem ev_ixTg {a : Addr} {vs : List V} {i : Int} {w : V} (ha : Ev ta σ H (.ref a)) (h : H a = some (.tup vs)) (hv : atI vs i = some w) : Ev (tOp (rIxT K) ta (tC (.int i))) σ H w := ev_ixT ha ev_c (st_of h) hv
end
/-! ### rows and changes as things -/
def optT : Option Int → Tg
  | none => .non
  | some i => .int i
def recT (r : Rec) : Tg := .tup [.int r.value, .int r.made, .int r.changed, .int r.version, optT r.lease]
def rowT (p : Str × Rec) : Tg := .tup [.str p.1, recT p.2]
def evT (e : Evt) : Tg := match e.deed with
  | .put k v l => .tup [.int e.num, .str "put", .str k, .int v, optT l]
  | .drop k => .tup [.int e.num, .str "drop", .str k, .non, .non]
theorem tg_opt {H : Hp} (o : Option Int) : TgV H (optV o) (optT o) := by
  cases o with
  | none => exact .non
  | some i => exact .int i
theorem tg_rec {H : Hp} {v : V} {r : Rec} (h : RecV H v r) : TgV H v (recT r) := by
  obtain ⟨a, rfl, h⟩ := h
  exact .tup h (.cons (.int _) (.cons (.int _) (.cons (.int _) (.cons (.int _) (.cons (tg_opt _) .nil)))))
theorem tg_row {H : Hp} {v : V} {p : Str × Rec} (h : RowV H v p) (hk : p.1.length ≤ 100000) : TgV H v (rowT p) := by
  obtain ⟨w, ⟨a, rfl, h⟩, hr⟩ := h
  exact .tup h (.cons (.str _ hk) (.cons (tg_rec hr) .nil))
theorem tg_ev {H : Hp} {v : V} {e : Evt} (h : EvV H v e) (hk : e.deed.key.length ≤ 100000) : TgV H v (evT e) := by
  obtain ⟨a, rfl, h⟩ := h
  obtain ⟨n, d⟩ := e
  cases d with
  | put k x l => exact .tup h (.cons (.int _) (.cons (.str _ (by decide)) (.cons (.str _ hk) (.cons (.int _) (.cons (tg_opt _) .nil)))))
  | drop k => exact .tup h (.cons (.int _) (.cons (.str _ (by decide)) (.cons (.str _ hk) (.cons .non (.cons .non .nil)))))
/-- what is a record, a row, rows, a change -/
def le2T : Tg → Tg → Bool
  | .int i, .int j => decide (i ≤ j)
  | _, _ => false
def recordT : Tg → Bool
  | .tup [a, b, c, d, e] => valueT a && (leaseT e && (wholeT b 1 && (wholeT c 1 && (wholeT d 1 && le2T b c))))
  | _ => false
def isRowT : Tg → Bool
  | .tup [a, b] => keyT a && recordT b
  | _ => false
def keyOfT : Tg → Str
  | .tup (.str x :: _) => x
  | _ => ""
def risingT : List Tg → Bool
  | a :: b :: r => !sLe (keyOfT b) (keyOfT a) && risingT (b :: r)
  | _ => true
def rowsT : Tg → Bool
  | .lst ts => ts.all isRowT && risingT ts
  | _ => false
def eventT : Tg → Bool
  | .tup [a, .str x, c, d, e] => wholeT a 1 && (keyT c && (if x = "drop" then noneT d && noneT e else decide (x = "put") && (valueT d && leaseT e)))
  | _ => false
/-- a thing that can be asked whether it is a change -/
def evShape : Tg → Prop
  | .tup [_, b, _, _, _] => isStrT b = true
  | _ => True
def eventsT : Tg → Bool
  | .lst ts => ts.all eventT
  | _ => false
def evsShape : Tg → Prop
  | .lst ts => ∀ t ∈ ts, evShape t
  | _ => True
section
variable (K : PySem.W.Frag)
def sp_is_record (_ : PySem.W.Frag) : Sp := fun vs H Q _ => ∃ v t, vs = [v] ∧ TgV H v t ∧ ∀ H', Ex H H' → Q (.bl (recordT t)) H'
def sp_is_row (_ : PySem.W.Frag) : Sp := fun vs H Q _ => ∃ v t, vs = [v] ∧ TgV H v t ∧ ∀ H', Ex H H' → Q (.bl (isRowT t)) H'
def tgSmall : Tg → Prop
  | .lst ts => ts.length ≤ 50000
  | _ => True
def sp_are_rows (_ : PySem.W.Frag) : Sp := fun vs H Q _ => ∃ v t, vs = [v] ∧ TgV H v t ∧ tgSmall t ∧ ∀ H', Ex H H' → Q (.bl (rowsT t)) H'
def sp_is_event (_ : PySem.W.Frag) : Sp := fun vs H Q _ => ∃ v t, vs = [v] ∧ TgV H v t ∧ evShape t ∧ ∀ H', Ex H H' → Q (.bl (eventT t)) H'
structure GoodRows (rows : Recs) : Prop where
  ok : rowsT (.lst (rows.map rowT)) = true
  few : rows.length < 64
structure GoodEvs (evs : List Evt) (n : Nat) : Prop where
  ok : ∀ e ∈ evs, eventT (evT e) = true
  few : evs.length ≤ 40000
  keys : n + evs.length ≤ 50000
def sp_mirrored : Sp := fun vs H Q E => (∃ l m rows evs, vs = [.ref l, .ref m] ∧ RowsAt H l rows ∧ LogAt H m evs ∧ GoodRows rows ∧ GoodEvs evs rows.length ∧ (evs.foldl changeR rows).length < 64 ∧
    (Chain rows evs → ∀ H' r, Ex H H' → H r = none → RowsAt H' r (inRows (evs.foldl changeR rows)) → Q (.ref r) H') ∧ (¬ Chain rows evs → ∀ H', Ex H H' → E (.ref (He.ga K "NoRows")) none H')) ∨
  ∃ v u t e, vs = [v, u] ∧ TgV H v t ∧ TgV H u e ∧ tgSmall t ∧ tgSmall e ∧ evsShape e ∧ (rowsT t && eventsT e) = false ∧ ∀ H', Ex H H' → E (.ref (He.ga K "NoRows")) none H'
end
end KW

/-! readings, printed by mkT.py -/
namespace KW
open PySem PySem.Spec PyProof.Rows L2 Evl
def t_is_record (K : PySem.W.Frag) : TS := (tSeq (tIfS (tOr (tNot (tB (tCB (rIsi K) (tCons (tVar 0) (tCons (tC (.ty "tuple")) tNil))))) (tOr (tTest (tOp rNe (tCB (rLenS K) (tCons (tVar 0) tNil)) (tC (.int 5)))) (tOr (tNot (tB (tCall (sp_is_value K) [] E0 (tCons (tOp (rIxT K) (tVar 0) (tC (.int 0))) tNil)))) (tNot (tB (tCall (sp_is_lease K) [] E0 (tCons (tOp (rIxT K) (tVar 0) (tC (.int 4))) tNil))))))) (tRet (tC (.bl false))) tNext)
  (tRet (tAndV (tCB (rAll K) (tCons (tLc (iTup K (tSl (rSlA K) (tVar 0) (tPart (tC (.int 1))) (tPart (tC (.int 4))))) (gName 1) tYes (tCall (sp_is_whole K) [] E0 (tCons (tVar 1) (tCons (tC (.int 1)) tNil))) [1]) tNil)) (tOp rLeI (tOp (rIxT K) (tVar 0) (tC (.int 1))) (tOp (rIxT K) (tVar 0) (tC (.int 2)))))))
abbrev N_is_record : List Str := ["thing", "number"]
def t_is_row (K : PySem.W.Frag) : TS := (tRet (tAndV (tCB (rIsi K) (tCons (tVar 0) (tCons (tC (.ty "tuple")) tNil))) (tAndV (tOp rEq (tCB (rLenS K) (tCons (tVar 0) tNil)) (tC (.int 2))) (tAndV (tCall (sp_is_key K) [] E0 (tCons (tOp (rIxT K) (tVar 0) (tC (.int 0))) tNil)) (tCall (sp_is_record K) [] E0 (tCons (tOp (rIxT K) (tVar 0) (tC (.int 1))) tNil))))))
abbrev N_is_row : List Str := ["thing"]
def t_are_rows (K : PySem.W.Frag) : TS := (tSeq (tIfS (tOr (tNot (tB (tCB (rIsi K) (tCons (tVar 0) (tCons (tC (.ty "list")) tNil))))) (tNot (tB (tCB (rAll K) (tCons (tLc (iList K (tVar 0)) (gName 1) tYes (tCall (sp_is_row K) [] E0 (tCons (tVar 1) tNil)) [1]) tNil))))) (tRet (tC (.bl false))) tNext)
  (tRet (tCB (rAll K) (tCons (tLc (iRng1 (tCons (tOp rSubI (tCB (rLenS K) (tCons (tVar 0) tNil)) (tC (.int 1))) tNil)) (gName 2) tYes (tOp rLtS (tOp (rIxT K) (tOp (rIxL K) (tVar 0) (tVar 2)) (tC (.int 0))) (tOp (rIxT K) (tOp (rIxL K) (tVar 0) (tOp rAddI (tVar 2) (tC (.int 1)))) (tC (.int 0)))) [2]) tNil))))
abbrev N_are_rows : List Str := ["thing", "row", "k"]
def t_is_event (K : PySem.W.Frag) : TS := (tSeq (tIfS (tOr (tNot (tB (tCB (rIsi K) (tCons (tVar 0) (tCons (tC (.ty "tuple")) tNil))))) (tOr (tTest (tOp rNe (tCB (rLenS K) (tCons (tVar 0) tNil)) (tC (.int 5)))) (tOr (tNot (tB (tCall (sp_is_whole K) [] E0 (tCons (tOp (rIxT K) (tVar 0) (tC (.int 0))) (tCons (tC (.int 1)) tNil))))) (tNot (tB (tCall (sp_is_key K) [] E0 (tCons (tOp (rIxT K) (tVar 0) (tC (.int 2))) tNil))))))) (tRet (tC (.bl false))) tNext)
  (tSeq (tIfS (tTest (tOp rEq (tOp (rIxT K) (tVar 0) (tC (.int 1))) (tC (.str "drop")))) (tRet (tAndV (tOp rIsN (tOp (rIxT K) (tVar 0) (tC (.int 3))) (tC .non)) (tOp rIsN (tOp (rIxT K) (tVar 0) (tC (.int 4))) (tC .non)))) tNext)
  (tRet (tAndV (tOp rEq (tOp (rIxT K) (tVar 0) (tC (.int 1))) (tC (.str "put"))) (tAndV (tCall (sp_is_value K) [] E0 (tCons (tOp (rIxT K) (tVar 0) (tC (.int 3))) tNil)) (tCall (sp_is_lease K) [] E0 (tCons (tOp (rIxT K) (tVar 0) (tC (.int 4))) tNil)))))))
abbrev N_is_event : List Str := ["thing"]
def t_mirrored (K : PySem.W.Frag) (E : XK) : TS := (tSeq (tIfS (tOr (tNot (tB (tCall (sp_are_rows K) [] E0 (tCons (tVar 0) tNil)))) (tOr (tNot (tB (tCB (rIsi K) (tCons (tVar 1) (tCons (tC (.ty "list")) tNil))))) (tNot (tB (tCB (rAll K) (tCons (tLc (iList K (tVar 1)) (gName 2) tYes (tCall (sp_is_event K) [] E0 (tCons (tVar 2) tNil)) [2]) tNil)))))) (tRz E (He.ga K "NoRows")) tNext)
  (tSeq (tAsg (tCB (rDictP K) (tCons (tVar 0) tNil)) (gName 3))
  (tSeq (tFor (iList K (tVar 1)) (gName 2)
  (tSeq (tIfS (tAnd (tTest (tOp rEq (tOp (rIxT K) (tVar 2) (tC (.int 1))) (tC (.str "drop")))) (tB (tDNotIn (tOp (rIxT K) (tVar 2) (tC (.int 2))) (tVar 3)))) (tRz E (He.ga K "NoRows")) tNext)
  (tDrop (tCall (sp_change K) [] E0 (tCons (tVar 3) (tCons (tVar 2) tNil))))))
  (tRet (tCall (sp_in_rows K) [] E0 (tCons (tVar 3) tNil))))))
abbrev N_mirrored : List Str := ["rows", "events", "event", "records"]
end KW

/-! what is a record, a row, rows, a change -/
namespace KW
open PySem PySem.Spec PyProof.Rows L2 Evl
section
variable {K : PySem.W.Frag} {vs : List V} {H : Hp} {Q : VK} {E : XK}
theorem ei_tupP {σ : L2.St} {te : TE} {xs : List V} (h : EvTp te σ H xs) : EvI (iTup K te) σ H xs := fun H1 e R q => h H1 e _ fun v H2 e2 hv => by
  obtain ⟨a, rfl, ha⟩ := hv
  exact ⟨a, rfl, ⟨xs, st_of ha⟩, q _ H2 e2 (walk_tup (st_of ha))⟩
theorem evt_sl14 {σ : L2.St} {te : TE} {a : Addr} {x0 x1 x2 x3 x4 : V} (h : Ev te σ H (.ref a)) (ha : H a = some (.tup [x0, x1, x2, x3, x4])) : EvTp (tSl (rSlA K) te (tPart (tC (.int 1))) (tPart (tC (.int 4)))) σ H [x1, x2, x3] := fun H1 e1 Q q =>
  h H1 e1 _ fun H2 e2 => ⟨1, rfl, 4, rfl, a, _, rfl, st_of ((e1.trans e2) _ _ ha), fun z => absurd z.1 (show ¬ (1 : Nat) = 0 by decide), fun _ p hp => q _ _ (e2.trans (Ex.new hp)) ⟨p, rfl, upd_same⟩⟩
theorem alw_ret' {te : TE} {σ : L2.St} {D : Ends} {b c : Bool} (h : Ev te σ H (.bl b)) (e : b = c) (k : ∀ H', Ex H H' → D.rt (.bl c) H') : Alw (tRet te) D σ H := by
  subst e
  exact alw_ret h k
theorem whole_int {v : V} {t : Tg} {low : Int} (h : TgV H v t) (hw : wholeT t low = true) : ∃ i, v = .int i ∧ t = .int i := by
  cases h with
  | int i => exact ⟨i, rfl, rfl⟩
  | non => cases hw
  | bl b => cases hw
  | str x h => cases hw
  | tup _ _ => cases hw
  | lst _ _ => cases hw
  | dct _ => cases hw
theorem pure_is_record (h : sp_is_record K vs H Q E) : t_is_record K { nx := fun _ H' => Q .non H', rt := Q } (start N_is_record vs) H := by
  obtain ⟨v, t, rfl, ht, q⟩ := h
  change t_is_record K _ [some v, none] H
  have no : isTupT t = false → recordT t = false → t_is_record K { nx := fun _ H' => Q .non H', rt := Q } [some v, none] H := fun h1 h2 => by
    rw [h2] at q
    exact alw_here (al_if (b := true) (et_is (et_or (b := false) (et_not (et_B (ev_isTupT (ev_var rfl) ht))) fun z => by rw [h1] at z; cases z) (by rw [h1]; rfl)) (fun _ => alw_ret ev_c q) fun z => by cases z)
  cases ht with
  | non => exact no rfl rfl
  | bl b => exact no rfl rfl
  | int i => exact no rfl rfl
  | str x h => exact no rfl rfl
  | lst e _ => exact no rfl rfl
  | dct e => exact no rfl rfl
  | @tup a us ts e tt =>
    have ht : TgV H (.ref a) (.tup ts) := .tup e tt
    have hlen := pr_len tt.pr
    by_cases h5 : us.length = 5
    · match us, ts, tt, h5 with
      | [x0, x1, x2, x3, x4], [t0, t1, t2, t3, t4], .cons g0 (.cons g1 (.cons g2 (.cons g3 (.cons g4 .nil)))), _ =>
        have hix : ∀ {i : Int} {w : V} {σ : L2.St}, σ[0]? = some (some (.ref a)) → atI [x0, x1, x2, x3, x4] i = some w → Ev (tOp (rIxT K) (tVar 0) (tC (.int i))) σ H w := fun h hw => ev_ixTg (ev_var h) e hw
        have hall := lc_typed (J := Itr 0 0) (α := V) (β := Tg) (P := fun _ v y => v = y) (R := TgV H) (σ := [some (.ref a), none]) (B := H) (j := 1) (vs := [1]) (tt := tYes) (te := tCall (sp_is_whole K) [] E0 (tCons (tVar 1) (tCons (tC (.int 1)) tNil))) (ei_tupP (K := K) (evt_sl14 (K := K) (te := tVar 0) (ev_var rfl) e)) (.cons g1 (.cons g2 (.cons g3 .nil))) (fun d => some (V.bl (wholeT d 1))) (fun _ _ _ _ _ z => z) (fun _ => rfl) (fun x d r => et_yes) (fun x d y hx hy => by
          cases hy
          exact Ev.p (ev_wholeT (ev_var rfl) ev_c hx) fun _ _ => rfl) (show 3 ≤ 100000 by decide)
        have hall2 : Ev (tCB (rAll K) (tCons (tLc (iTup K (tSl (rSlA K) (tVar 0) (tPart (tC (.int 1))) (tPart (tC (.int 4))))) (gName 1) tYes (tCall (sp_is_whole K) [] E0 (tCons (tVar 1) (tCons (tC (.int 1)) tNil))) [1]) tNil)) [some (.ref a), none] H (.bl ([wholeT t1 1, wholeT t2 1, wholeT t3 1].all id)) := ev_all hall.toL
        refine alw_here (al_if (et_or (et_not (et_B (ev_isTupT (ev_var rfl) ht))) fun _ => et_or (et_test (ev_neI (ev_lenTg (ev_var rfl) e) ev_c)) fun _ => et_or (et_not (et_B (ev_valueT (hix rfl rfl) g0))) fun _ => et_not (et_B (ev_leaseT (hix rfl rfl) g4))) (fun hb => alw_ret' ev_c ?_ q) fun hb => al_skip (alw_ret' (ev_andV (b := le2T t1 t2) hall2 fun hw => ?_) ?_ q))
        · have hb : (!valueT t0 || !leaseT t4) = true := hb
          show false = (valueT t0 && (leaseT t4 && (wholeT t1 1 && (wholeT t2 1 && (wholeT t3 1 && le2T t1 t2)))))
          cases h1 : valueT t0 with
          | false => rfl
          | true =>
            cases h2 : leaseT t4 with
            | false => rfl
            | true =>
              rw [h1, h2] at hb
              cases hb
        · have hw : (wholeT t1 1 && (wholeT t2 1 && (wholeT t3 1 && true))) = true := hw
          rw [Bool.and_eq_true, Bool.and_eq_true] at hw
          obtain ⟨hw1, hw2, _⟩ := hw
          obtain ⟨i, rfl, rfl⟩ := whole_int g1 hw1
          obtain ⟨j, rfl, rfl⟩ := whole_int g2 hw2
          exact ev_le (hix rfl rfl) (hix rfl rfl)
        · have hb : (!valueT t0 || !leaseT t4) = false := hb
          show ((wholeT t1 1 && (wholeT t2 1 && (wholeT t3 1 && true))) && le2T t1 t2) = (valueT t0 && (leaseT t4 && (wholeT t1 1 && (wholeT t2 1 && (wholeT t3 1 && le2T t1 t2)))))
          cases h1 : valueT t0 with
          | false => rw [h1] at hb; cases hb
          | true =>
            cases h2 : leaseT t4 with
            | false => rw [h1, h2] at hb; cases hb
            | true => cases wholeT t1 1 <;> cases wholeT t2 1 <;> cases wholeT t3 1 <;> rfl
    · have h2 : recordT (.tup ts) = false := by
        unfold recordT
        split
        · rename_i hh
          cases hh
          rw [hlen] at h5
          exact absurd rfl h5
        · rfl
      rw [h2] at q
      exact alw_here (al_if (b := true) (et_is (et_or (et_not (et_B (ev_isTupT (ev_var rfl) ht))) fun _ => et_or (b := false) (et_test (ev_neI (ev_lenTg (ev_var rfl) e) ev_c)) fun z => by
        have : (!decide ((us.length : Int) = 5)) = true := by
          rw [decide_eq_false (show ¬ (us.length : Int) = 5 by omega)]
          rfl
        rw [this] at z
        cases z) (by
          rw [decide_eq_false (show ¬ (us.length : Int) = 5 by omega)]
          rfl)) (fun _ => alw_ret ev_c q) fun z => by cases z)
theorem pure_is_row (h : sp_is_row K vs H Q E) : t_is_row K { nx := fun _ H' => Q .non H', rt := Q } (start N_is_row vs) H := by
  obtain ⟨v, t, rfl, ht, q⟩ := h
  change t_is_row K _ [some v] H
  have no : isTupT t = false → isRowT t = false → t_is_row K { nx := fun _ H' => Q .non H', rt := Q } [some v] H := fun h1 h2 => by
    rw [h2] at q
    exact alw_here (alw_ret' (ev_andV (b := false) (ev_isTupT (ev_var rfl) ht) fun z => by rw [h1] at z; cases z) (by rw [h1]; rfl) q)
  cases ht with
  | non => exact no rfl rfl
  | bl b => exact no rfl rfl
  | int i => exact no rfl rfl
  | str x h => exact no rfl rfl
  | lst e _ => exact no rfl rfl
  | dct e => exact no rfl rfl
  | @tup a us ts e tt =>
    have ht : TgV H (.ref a) (.tup ts) := .tup e tt
    have hlen := pr_len tt.pr
    by_cases h5 : us.length = 2
    · match us, ts, tt, h5 with
      | [x0, x1], [t0, t1], .cons g0 (.cons g1 .nil), _ =>
        exact alw_here (alw_ret' (ev_andV (ev_isTupT (ev_var rfl) ht) fun _ => ev_andV (ev_eqI (ev_lenTg (ev_var rfl) e) ev_c) fun _ => ev_andV (ev_keyT (ev_ixTg (ev_var rfl) e rfl) g0) fun _ => ev_call (ea_cons (ev_ixTg (ev_var rfl) e rfl) ea_nil) fun H1 e1 Q q E => ⟨x1, t1, rfl, g1.ex e1, q⟩) rfl q)
    · have h2 : isRowT (.tup ts) = false := by
        unfold isRowT
        split
        · rename_i hh
          cases hh
          rw [hlen] at h5
          exact absurd rfl h5
        · rfl
      rw [h2] at q
      refine alw_here (alw_ret' (ev_andV (ev_isTupT (ev_var rfl) ht) fun _ => ev_andV (b := false) (ev_eqI (ev_lenTg (ev_var rfl) e) ev_c) fun z => ?_) ?_ q)
      · rw [decide_eq_false (show ¬ (us.length : Int) = 2 by omega)] at z
        cases z
      · rw [decide_eq_false (show ¬ (us.length : Int) = 2 by omega)]
        rfl
theorem pure_is_event (h : sp_is_event K vs H Q E) : t_is_event K { nx := fun _ H' => Q .non H', rt := Q } (start N_is_event vs) H := by
  obtain ⟨v, t, rfl, ht, hsh, q⟩ := h
  change t_is_event K _ [some v] H
  have no : isTupT t = false → eventT t = false → t_is_event K { nx := fun _ H' => Q .non H', rt := Q } [some v] H := fun h1 h2 => by
    rw [h2] at q
    exact alw_here (al_if (b := true) (et_is (et_or (b := false) (et_not (et_B (ev_isTupT (ev_var rfl) ht))) fun z => by rw [h1] at z; cases z) (by rw [h1]; rfl)) (fun _ => alw_ret ev_c q) fun z => by cases z)
  cases ht with
  | non => exact no rfl rfl
  | bl b => exact no rfl rfl
  | int i => exact no rfl rfl
  | str x h => exact no rfl rfl
  | lst e _ => exact no rfl rfl
  | dct e => exact no rfl rfl
  | @tup a us ts e tt =>
    have ht : TgV H (.ref a) (.tup ts) := .tup e tt
    have hlen := pr_len tt.pr
    by_cases h5 : us.length = 5
    · match us, ts, tt, h5 with
      | [x0, x1, x2, x3, x4], [t0, t1, t2, t3, t4], .cons g0 (.cons g1 (.cons g2 (.cons g3 (.cons g4 .nil)))), _ =>
        have hsh : isStrT t1 = true := hsh
        cases g1 with
        | str x hx =>
          have hix : ∀ {i : Int} {w : V} {σ : L2.St}, σ[0]? = some (some (.ref a)) → atI [x0, .str x, x2, x3, x4] i = some w → Ev (tOp (rIxT K) (tVar 0) (tC (.int i))) σ H w := fun h hw => ev_ixTg (ev_var h) e hw
          refine alw_here (al_if (et_or (et_not (et_B (ev_isTupT (ev_var rfl) ht))) fun _ => et_or (et_test (ev_neI (ev_lenTg (ev_var rfl) e) ev_c)) fun _ => et_or (et_not (et_B (ev_wholeT (hix rfl rfl) ev_c g0))) fun _ => et_not (et_B (ev_keyT (hix rfl rfl) g2))) (fun hb => alw_ret' ev_c ?_ q) fun hb => al_skip (al_if (et_test (ev_eqS (hix rfl rfl) ev_c)) (fun hd => alw_ret' (ev_andV (ev_noneT (hix rfl rfl) g3) fun _ => ev_noneT (hix rfl rfl) g4) ?_ q) fun hd => al_skip (alw_ret' (ev_andV (ev_eqS (hix rfl rfl) ev_c) fun _ => ev_andV (ev_valueT (hix rfl rfl) g3) fun _ => ev_leaseT (hix rfl rfl) g4) ?_ q)))
          · have hb : (!wholeT t0 1 || !keyT t2) = true := hb
            show false = (wholeT t0 1 && (keyT t2 && _))
            cases h1 : wholeT t0 1 with
            | false => rfl
            | true =>
              cases h2 : keyT t2 with
              | false => rfl
              | true => rw [h1, h2] at hb; cases hb
          · have hb : (!wholeT t0 1 || !keyT t2) = false := hb
            have hd := of_decide_eq_true hd
            show (noneT t3 && noneT t4) = (wholeT t0 1 && (keyT t2 && (if x = "drop" then noneT t3 && noneT t4 else _)))
            rw [if_pos hd]
            cases h1 : wholeT t0 1 with
            | false => rw [h1] at hb; cases hb
            | true =>
              cases h2 : keyT t2 with
              | false => rw [h1, h2] at hb; cases hb
              | true => rfl
          · have hb : (!wholeT t0 1 || !keyT t2) = false := hb
            have hd := of_decide_eq_false hd
            show (decide (x = "put") && (valueT t3 && leaseT t4)) = (wholeT t0 1 && (keyT t2 && (if x = "drop" then noneT t3 && noneT t4 else decide (x = "put") && (valueT t3 && leaseT t4))))
            rw [if_neg hd]
            cases h1 : wholeT t0 1 with
            | false => rw [h1] at hb; cases hb
            | true =>
              cases h2 : keyT t2 with
              | false => rw [h1, h2] at hb; cases hb
              | true => rfl
        | non => cases hsh
        | bl b => cases hsh
        | int i => cases hsh
        | tup _ _ => cases hsh
        | lst _ _ => cases hsh
        | dct _ => cases hsh
    · have h2 : eventT (.tup ts) = false := by
        unfold eventT
        split
        · rename_i hh
          cases hh
          rw [hlen] at h5
          exact absurd rfl h5
        · rfl
      rw [h2] at q
      exact alw_here (al_if (b := true) (et_is (et_or (et_not (et_B (ev_isTupT (ev_var rfl) ht))) fun _ => et_or (b := false) (et_test (ev_neI (ev_lenTg (ev_var rfl) e) ev_c)) fun z => by
        have : (!decide ((us.length : Int) = 5)) = true := by
          rw [decide_eq_false (show ¬ (us.length : Int) = 5 by omega)]
          rfl
        rw [this] at z
        cases z) (by
          rw [decide_eq_false (show ¬ (us.length : Int) = 5 by omega)]
          rfl)) (fun _ => alw_ret ev_c q) fun z => by cases z)
/-- a row has a key -/
theorem row_key {v : V} {t : Tg} (h : TgV H v t) (hr : isRowT t = true) : ∃ a x w tr, v = .ref a ∧ H a = some (.tup [.str x, w]) ∧ t = .tup [.str x, tr] ∧ isKey x = true := by
  cases h with
  | @tup a us ts e tt =>
    unfold isRowT at hr
    split at hr
    · rename_i t0 t1 hh
      cases hh
      cases tt with
      | cons g0 r =>
        cases r with
        | cons g1 r =>
          cases r with
          | nil =>
            rw [Bool.and_eq_true] at hr
            cases g0 with
            | str x hx => exact ⟨a, x, _, _, rfl, e, rfl, hr.1⟩
            | non => cases hr.1
            | bl b => cases hr.1
            | int i => cases hr.1
            | tup _ _ => cases hr.1
            | lst _ _ => cases hr.1
            | dct _ => cases hr.1
    · cases hr
  | non => cases hr
  | bl b => cases hr
  | int i => cases hr
  | str x h => cases hr
  | lst _ _ => cases hr
  | dct _ => cases hr
theorem ei_rngS {σ : L2.St} {ta : TA} {n : Int} (h : EvA ta σ H [.int n]) (hn : -100000 ≤ n ∧ n ≤ 100000) : EvI (iRng1 ta) σ H (rngV 0 n.toNat) := fun H1 e R q => h H1 e _ fun H2 e2 => ⟨n, rfl, by omega, by omega, q _ H2 e2 (walk_rng 0 n.toNat)⟩
theorem rising_range : ∀ (ts : List Tg), (List.range (ts.length - 1)).all (fun k => !sLe (keyOfT (ts.getD (k + 1) .non)) (keyOfT (ts.getD k .non))) = risingT ts
  | [] => rfl
  | [a] => rfl
  | a :: b :: r => by
    have e : (a :: b :: r).length - 1 = (b :: r).length - 1 + 1 := by simp
    rw [e, List.range_succ_eq_map, List.all_cons, List.all_map, risingT]
    congr 1
    rw [← rising_range (b :: r)]
    rfl
theorem pure_are_rows (h : sp_are_rows K vs H Q E) : t_are_rows K { nx := fun _ H' => Q .non H', rt := Q } (start N_are_rows vs) H := by
  obtain ⟨v, t, rfl, ht, hsm, q⟩ := h
  change t_are_rows K _ [some v, none, none] H
  have no : isLstT t = false → rowsT t = false → t_are_rows K { nx := fun _ H' => Q .non H', rt := Q } [some v, none, none] H := fun h1 h2 => by
    rw [h2] at q
    exact alw_here (al_if (b := true) (et_is (et_or (b := false) (et_not (et_B (ev_isLstT (ev_var rfl) ht))) fun z => by rw [h1] at z; cases z) (by rw [h1]; rfl)) (fun _ => alw_ret ev_c q) fun z => by cases z)
  cases ht with
  | non => exact no rfl rfl
  | bl b => exact no rfl rfl
  | int i => exact no rfl rfl
  | str x h => exact no rfl rfl
  | tup e _ => exact no rfl rfl
  | dct e => exact no rfl rfl
  | @lst a us ts e tt =>
    have ht : TgV H (.ref a) (.lst ts) := .lst e tt
    have hlen := pr_len tt.pr
    have hsm : ts.length ≤ 50000 := hsm
    have hall := lc_typed (J := Itr 0 0) (α := V) (β := Tg) (P := fun _ v y => v = y) (R := TgV H) (σ := [some (.ref a), none, none]) (B := H) (j := 1) (vs := [1]) (tt := tYes) (te := tCall (sp_is_row K) [] E0 (tCons (tVar 1) tNil)) (ei_list (K := K) (tl := tVar 0) (ev_var rfl) (sq_of e)) tt.pr (fun d => some (V.bl (isRowT d))) (fun _ _ _ _ _ z => z) (fun _ => rfl) (fun x d r => et_yes) (fun x d y hx hy => by
      cases hy
      exact Ev.p (ev_call (ea_cons (ev_var rfl) ea_nil) fun H1 e1 Q q E => ⟨x, d, rfl, hx.ex e1, q⟩) fun _ _ => rfl) (by omega)
    rw [fm_some] at hall
    have hm : ts.map (fun d => V.bl (isRowT d)) = (ts.map isRowT).map V.bl := by rw [List.map_map]; rfl
    rw [hm] at hall
    have h1 := ev_all (K := K) hall.toL
    have ha : (ts.map isRowT).all id = ts.all isRowT := by rw [List.all_map]; rfl
    rw [ha] at h1
    refine alw_here (al_if (et_or (et_not (et_B (ev_isLstT (ev_var rfl) ht))) fun _ => et_not (et_B h1)) (fun hb => alw_ret' ev_c ?_ q) fun hb => al_skip (alw_ret' (b := risingT ts) ?_ ?_ q))
    · have hb : (false || !ts.all isRowT) = true := hb
      show false = (ts.all isRowT && risingT ts)
      cases h2 : ts.all isRowT with
      | false => rfl
      | true => rw [h2] at hb; cases hb
    · have hb : (false || !ts.all isRowT) = false := hb
      have hr : ∀ t ∈ ts, isRowT t = true := by
        cases h2 : ts.all isRowT with
        | false => rw [h2] at hb; cases hb
        | true => exact List.all_eq_true.mp h2
      have hkey : ∀ {σ : L2.St} {te : TE} {k : Nat}, σ[0]? = some (some (.ref a)) → Ev te σ H (.int (k : Int)) → k < ts.length → Ev (tOp (rIxT K) (tOp (rIxL K) (tVar 0) te) (tC (.int 0))) σ H (.str (keyOfT (ts.getD k .non))) := fun {σ te k} h0 hk hlt => by
        obtain ⟨u, hu⟩ : ∃ u, us[k]? = some u := ⟨_, List.getElem?_eq_getElem (by omega)⟩
        obtain ⟨d, hd, hdt⟩ := pr_get tt.pr hu
        obtain ⟨b, x, w, tr, rfl, hb, rfl, _⟩ := row_key hdt (hr d (List.mem_of_getElem? hd))
        rw [List.getD_eq_getElem?_getD, hd]
        exact ev_ixTg (ev_ixL (ev_var h0) hk (sq_of e) (atI_int' (by omega) (by rw [Int.toNat_natCast]; exact hu))) hb rfl
      have hlast := lc_typed (J := Itr 0 0) (α := V) (β := Nat) (P := fun _ v y => v = y) (R := fun v (k : Nat) => v = V.int (k : Int) ∧ k ∈ List.range (ts.length - 1)) (σ := [some (.ref a), none, none]) (B := H) (j := 2) (vs := [2]) (tt := tYes) (te := tOp rLtS (tOp (rIxT K) (tOp (rIxL K) (tVar 0) (tVar 2)) (tC (.int 0))) (tOp (rIxT K) (tOp (rIxL K) (tVar 0) (tOp rAddI (tVar 2) (tC (.int 1)))) (tC (.int 0)))) (xs := rngV 0 (((us.length : Nat) : Int) - 1).toNat) (ei_rngS (ta := tCons (tOp rSubI (tCB (rLenS K) (tCons (tVar 0) tNil)) (tC (.int 1))) tNil) (ea_cons (ev_sub (ev_len (K := K) (ev_var rfl) (sq_of e)) ev_c) ea_nil) ⟨by omega, by omega⟩) (by
          have e0 : (((us.length : Nat) : Int) - 1).toNat = ts.length - 1 := by omega
          rw [e0, rng_map]
          exact paired_mem (paired_map (fun i : Nat => V.int (i : Int)) _)) (fun k => some (V.bl (!sLe (keyOfT (ts.getD (k + 1) .non)) (keyOfT (ts.getD k .non))))) (fun _ _ _ _ _ z => z) (fun _ => rfl) (fun x d r => et_yes) (fun x k y hx hy => by
        cases hy
        obtain ⟨rfl, hk⟩ := hx
        have hk := List.mem_range.mp hk
        refine Ev.p (ev_is (ev_op (hkey (k := k) rfl (ev_var rfl) (by omega)) (hkey (k := k + 1) rfl (by
          have := ev_add (σ := (wipe [some (.ref a), none, none] [2]).set 2 (some (V.int (k : Int)))) (H := H) (ta := tVar 2) (tb := tC (.int 1)) (ev_var rfl) ev_c
          exact this) (by omega)) (rv_val fun _ _ _ q => ⟨_, _, rfl, rfl, q⟩)) ?_) fun _ _ => rfl
        unfold sLe
        rw [Bool.not_not]) (by
        unfold rngV
        rw [List.length_map, List.length_range]
        omega)
      rw [fm_some] at hlast
      have hm2 : (List.range (ts.length - 1)).map (fun k => V.bl (!sLe (keyOfT (ts.getD (k + 1) .non)) (keyOfT (ts.getD k .non)))) = ((List.range (ts.length - 1)).map fun k => !sLe (keyOfT (ts.getD (k + 1) .non)) (keyOfT (ts.getD k .non))).map V.bl := by rw [List.map_map]; rfl
      rw [hm2] at hlast
      have h2 := ev_all (K := K) hlast.toL
      rw [List.all_map] at h2
      have e3 : (List.range (ts.length - 1)).all (id ∘ fun k => !sLe (keyOfT (ts.getD (k + 1) .non)) (keyOfT (ts.getD k .non))) = risingT ts := rising_range ts
      rw [e3] at h2
      exact h2
    · have hb : (false || !ts.all isRowT) = false := hb
      show risingT ts = (ts.all isRowT && risingT ts)
      cases h2 : ts.all isRowT with
      | false => rw [h2] at hb; cases hb
      | true => rfl
end
end KW

/-! mirrored; rows of a house are good -/
namespace KW
open PySem PySem.Spec PyProof.Rows L2 Evl
theorem RecG.mono {n m : Int} {r : Rec} (h : RecG n r) (hm : n ≤ m) : RecG m r := ⟨h.v0, h.v1, h.m1, h.mc, Int.le_trans h.cn hm, h.ver, h.ls⟩
theorem RecsG.mono {n m : Int} {rs : Recs} (h : RecsG n rs) (hm : n ≤ m) : RecsG m rs := fun k r hk => (h k r hk).mono hm
theorem recsG_change {n : Int} {rs : Recs} {e : Evt} (h : RecsG n rs) (hd : e.deed.okD) (h1 : 1 ≤ e.num) (hn : n ≤ e.num) : RecsG e.num (changeR rs e) := fun k r hk => by
  rw [changeR_look] at hk
  by_cases hkk : k = e.deed.key
  · rw [if_pos hkk] at hk
    obtain ⟨m, d⟩ := e
    cases d with
    | put j v l =>
      have hk : some (newRec rs m j v l) = some r := hk
      cases hk
      have hd : isKey j = true ∧ 0 ≤ v ∧ v ≤ 9999 ∧ ∀ i, l = some i → 1 ≤ i := hd
      show RecG m _
      have h1 : 1 ≤ m := h1
      have hn : n ≤ m := hn
      cases hl : lookR rs j with
      | none =>
        have e : newRec rs m j v l = ⟨v, m, m, 1, l⟩ := by unfold newRec; rw [hl]
        rw [e]
        exact ⟨hd.2.1, hd.2.2.1, h1, Int.le_refl _, Int.le_refl _, Int.le_refl _, hd.2.2.2⟩
      | some q =>
        have e : newRec rs m j v l = ⟨v, q.made, m, q.version + 1, l⟩ := by unfold newRec; rw [hl]
        have hq := h j q hl
        rw [e]
        refine ⟨hd.2.1, hd.2.2.1, hq.m1, ?_, Int.le_refl _, ?_, hd.2.2.2⟩
        · have h3 := hq.mc
          have h4 := hq.cn
          show q.made ≤ m
          omega
        · have := hq.ver
          show 1 ≤ q.version + 1
          omega
    | drop j => cases (show none = some r from hk)
  · rw [if_neg hkk] at hk
    exact (h k r hk).mono hn
theorem recsG_fold {N : Int} : ∀ {evs : List Evt} {rs : Recs} {n : Int}, NumSorted evs → (∀ e ∈ evs, e.deed.okD) → RecsG n rs → (∀ e ∈ evs, n ≤ e.num ∧ 1 ≤ e.num ∧ e.num ≤ N) → n ≤ N → RecsG N (evs.foldl changeR rs)
  | [], rs, n, _, _, h, _, hn => h.mono hn
  | e :: r, rs, n, hs, hd, h, hb, hn => by
    obtain ⟨h1, h2⟩ := List.pairwise_cons.mp hs
    obtain ⟨b1, b2, b3⟩ := hb e List.mem_cons_self
    exact recsG_fold (evs := r) (rs := changeR rs e) h2 (fun x hx => hd x (List.mem_cons_of_mem _ hx)) (recsG_change h (hd e List.mem_cons_self) b2 b1) (fun x hx => ⟨h1 x hx, (hb x (List.mem_cons_of_mem _ hx)).2⟩) b3
section
variable {ks : List Str} {n : Nat} {s : HS}
theorem Sane.at_g (h : Sane ks n s) {i : Int} (hi : s.base ≤ i) : RecsG i (s.at i) := by
  rw [at_fold h.wf]
  refine recsG_fold (n := s.base) (List.Pairwise.sublist List.filter_sublist h.wf.sorted) (fun e he => h.logd e (List.mem_filter.mp he).1) h.oldg (fun e he => ?_) hi
  obtain ⟨h1, h2⟩ := List.mem_filter.mp he
  have h3 := h.wf.bnd e h1
  have h4 := h.wf.b0
  have h5 := of_decide_eq_true h2
  exact ⟨by omega, by omega, h5⟩
theorem Sane.recs_g (h : Sane ks n s) : RecsG s.last s.recs := by
  have := h.at_g h.wf.bl
  rw [at_last] at this
  exact this
end
/-! ### rows that are good -/
theorem rising_of : ∀ {ts : List Tg}, ts.Pairwise (fun a b => sLe (keyOfT b) (keyOfT a) = false) → risingT ts = true
  | [], _ => rfl
  | [a], _ => rfl
  | a :: b :: r, h => by
    obtain ⟨h1, h2⟩ := List.pairwise_cons.mp h
    rw [risingT, h1 b List.mem_cons_self, rising_of h2]
    rfl
theorem sLt_trans {a b c : Str} (h1 : sLe b a = false) (h2 : sLe c b = false) : sLe c a = false := by
  cases h : sLe c a with
  | false => rfl
  | true =>
    have h3 := sLe_total a b
    rw [h1, Bool.or_false] at h3
    rw [sLe_trans _ _ _ h h3] at h2
    cases h2
theorem of_rising : ∀ {ts : List Tg}, risingT ts = true → ts.Pairwise (fun a b => sLe (keyOfT b) (keyOfT a) = false)
  | [], _ => .nil
  | [a], _ => List.pairwise_singleton _ _
  | a :: b :: r, h => by
    rw [risingT, Bool.and_eq_true] at h
    have ih := of_rising h.2
    have hab : sLe (keyOfT b) (keyOfT a) = false := by
      have := h.1
      cases hh : sLe (keyOfT b) (keyOfT a) with
      | false => rfl
      | true => rw [hh] at this; cases this
    refine List.pairwise_cons.mpr ⟨fun x hx => ?_, ih⟩
    rcases List.mem_cons.mp hx with z | z
    · rw [z]
      exact hab
    · exact sLt_trans hab ((List.pairwise_cons.mp ih).1 x z)
theorem rows_nodup {rows : Recs} (h : risingT (rows.map rowT) = true) : (keysA rows).Nodup := by
  have h1 := of_rising h
  rw [List.pairwise_map] at h1
  unfold keysA
  refine List.pairwise_map.mpr (h1.imp fun {x y} hxy e => ?_)
  have e : x.1 = y.1 := e
  have hxy : sLe y.1 x.1 = false := hxy
  rw [e, sLe_refl] at hxy
  cases hxy
theorem recT_good {n : Int} {r : Rec} (h : RecG n r) : recordT (recT r) = true := by
  have hl : leaseT (optT r.lease) = true := by
    cases hr : r.lease with
    | none => rfl
    | some i => exact decide_eq_true (h.ls i hr)
  show ((decide (0 ≤ r.value) && decide (r.value ≤ 9999)) && (leaseT (optT r.lease) && (decide (1 ≤ r.made) && (decide (1 ≤ r.changed) && (decide (1 ≤ r.version) && decide (r.made ≤ r.changed)))))) = true
  have h1 := h.m1
  have h2 := h.mc
  rw [hl, decide_eq_true h.v0, decide_eq_true h.v1, decide_eq_true h.m1, decide_eq_true (show 1 ≤ r.changed by omega), decide_eq_true h.ver, decide_eq_true h.mc]
  rfl
theorem evT_good {e : Evt} (hd : e.deed.okD) (h1 : 1 ≤ e.num) : eventT (evT e) = true := by
  obtain ⟨n, d⟩ := e
  cases d with
  | put k v l =>
    have hd : isKey k = true ∧ 0 ≤ v ∧ v ≤ 9999 ∧ ∀ i, l = some i → 1 ≤ i := hd
    have hl : leaseT (optT l) = true := by
      cases hr : l with
      | none => rfl
      | some i => exact decide_eq_true (hd.2.2.2 i hr)
    show (decide (1 ≤ n) && (isKey k && (if ("put" : Str) = "drop" then _ else decide (("put" : Str) = "put") && ((decide (0 ≤ v) && decide (v ≤ 9999)) && leaseT (optT l))))) = true
    rw [if_neg (by decide), hl, decide_eq_true (show 1 ≤ n from h1), hd.1, decide_eq_true hd.2.1, decide_eq_true hd.2.2.1]
    rfl
  | drop k =>
    have hd : isKey k = true := hd
    show (decide (1 ≤ n) && (isKey k && (if ("drop" : Str) = "drop" then (true && true) else _))) = true
    rw [if_pos rfl, decide_eq_true (show 1 ≤ n from h1), hd]
    rfl
theorem goodRows_of {rs : Recs} {a b : Str} {n : Int} (nd : (keysA rs).Nodup) (hg : RecsG n rs) (hk : ∀ k ∈ keysA rs, isKey k = true) (hl : rs.length < 64) : GoodRows (spanRows rs a b) := by
  have hlen : (spanRows rs a b).length < 64 := by
    refine Nat.lt_of_le_of_lt (List.length_filter_le _ _) ?_
    unfold inRows
    rw [List.length_map, sortS_len]
    unfold keysA
    rw [List.length_map]
    exact hl
  refine ⟨?_, hlen⟩
  show (((spanRows rs a b).map rowT).all isRowT && risingT ((spanRows rs a b).map rowT)) = true
  rw [Bool.and_eq_true]
  constructor
  · rw [List.all_map, List.all_eq_true]
    intro p hp
    have hin := mem_inRows (List.mem_filter.mp hp).1
    rw [spanRows_eq] at hp
    obtain ⟨k, hk', rfl⟩ := List.mem_map.mp hp
    have h1 := lookR_getR hin
    show (isKey k && recordT (recT (getR rs k))) = true
    rw [hk k hin, recT_good (hg k _ h1)]
    rfl
  · refine rising_of ?_
    rw [spanRows_eq, List.map_map, List.pairwise_map]
    have hs : (spanKeys rs a b).Pairwise fun x y => sLe x y = true := sortS_pair _
    have hnd : (spanKeys rs a b).Nodup := nodup_sortS (nd.sublist List.filter_sublist)
    refine (hs.and hnd).imp fun {x y} ⟨h1, h2⟩ => ?_
    show sLe y x = false
    cases h : sLe y x with
    | false => rfl
    | true => exact absurd (sLe_anti h1 h) h2
section
variable {K : PySem.W.Frag} {vs : List V} {H : Hp} {Q : VK} {E : XK}
theorem evp_dictR {σ : L2.St} {te : TE} {rows : Recs} (h : EvR te σ H RowV rows) (nd : (keysA rows).Nodup) : EvP (tCB (rDictP K) (tCons te tNil)) σ H (fun H' v => ∃ d, v = .ref d ∧ H d = none ∧ RecsAt H' d rows) := fun H1 e1 Q q =>
  h H1 e1 _ fun v H2 e2 hv => by
    obtain ⟨l, rfl, ws, l1, l2⟩ := hv
    obtain ⟨ps, kvs, w1, w2, w3⟩ := row_refs (K := K) l2
    refine ⟨l, ps, kvs, rfl, by rw [← w1]; exact sq_of l1, w2, fun d hd => q _ _ (e2.trans (Ex.new hd)) ⟨d, rfl, fresh_back (e1.trans e2) hd, _, upd_same, ?_⟩⟩
    have h4 := dict_pairs kvs rows .nil w3
    rw [fold_put rows [] (by simpa using nd), List.nil_append] at h4
    exact pr_mono h4 fun _ _ z => ⟨z.1, RecV.kt (Ex.kt (Ex.new hd)) z.2⟩
theorem ev_notInD {σ : L2.St} {td ty : TE} {d : Addr} {rs : Recs} {k : Str} (ha : Ev ty σ H (.str k)) (hd : Ev td σ H (.ref d)) (h : RecsAt H d rs) : Ev (tDNotIn ty td) σ H (.bl (!hasR rs k)) := fun H1 e Q q =>
  ha H1 e _ fun H2 e2 => hd H2 (e.trans e2) _ fun H3 e3 => by
    obtain ⟨kv, h1, h2⟩ := RecsAt.ex ((e.trans e2).trans e3) h
    have hg := DGet.k (k := Sum.inr k) h1
    rcases val_of inr_inj h2 k with ⟨v, r, g, l, _⟩ | ⟨g, l⟩
    · rw [g] at hg
      have hh : hasR rs k = true := by
        unfold hasR
        rw [show lookR rs k = some r from l]
        rfl
      rw [hh] at q
      exact ⟨d, some v, rfl, hg, q H3 (e2.trans e3)⟩
    · rw [g] at hg
      have hh : hasR rs k = false := by
        unfold hasR
        rw [show lookR rs k = none from l]
        rfl
      rw [hh] at q
      exact ⟨d, none, rfl, hg, q H3 (e2.trans e3)⟩
theorem evsAll {σ : L2.St} {te : TE} {v : V} {ts : List Tg} {us : List V} {a : Addr} (h1 : σ[1]? = some (some (.ref a))) (e : H a = some (.lst us)) (tt : TgVs H us ts) (hsm : ts.length ≤ 50000) (hsh : ∀ t ∈ ts, evShape t) (hw : ∀ x : V, wipe ((wipe σ [2]).set 2 (some x)) [2] = wipe σ [2]) (hx : ∀ x : V, ((wipe σ [2]).set 2 (some x))[2]? = some (some x)) :
    Ev (tCB (rAll K) (tCons (tLc (iList K (tVar 1)) (gName 2) tYes (tCall (sp_is_event K) [] E0 (tCons (tVar 2) tNil)) [2]) tNil)) σ H (.bl (ts.all eventT)) := by
  have hlen := pr_len tt.pr
  have hall := lc_typed (J := Itr 0 0) (α := V) (β := Tg) (P := fun _ v y => v = y) (R := fun v t => TgV H v t ∧ t ∈ ts) (σ := σ) (B := H) (j := 2) (vs := [2]) (tt := tYes) (te := tCall (sp_is_event K) [] E0 (tCons (tVar 2) tNil)) (ei_list (K := K) (tl := tVar 1) (ev_var h1) (sq_of e)) (paired_mem tt.pr) (fun d => some (V.bl (eventT d))) (fun _ _ _ _ _ z => z) hw (fun x d r => et_yes) (fun x d y hx' hy => by
    cases hy
    exact Ev.p (ev_call (ea_cons (ev_var (hx x)) ea_nil) fun H1 e1 Q q E => ⟨x, d, rfl, hx'.1.ex e1, hsh d hx'.2, q⟩) fun _ _ => rfl) (by omega)
  rw [fm_some] at hall
  have hm : ts.map (fun d => V.bl (eventT d)) = (ts.map eventT).map V.bl := by rw [List.map_map]; rfl
  rw [hm] at hall
  have h2 := ev_all (K := K) hall.toL
  rw [List.all_map] at h2
  exact h2
theorem pure_mirrored (h : sp_mirrored K vs H Q E) : t_mirrored K E { nx := fun _ H' => Q .non H', rt := Q } (start N_mirrored vs) H := by
  rcases h with ⟨l, m, rows, evs, rfl, hl, hm, gr, ge, hfew, q1, q2⟩ | ⟨v, u, t, e, rfl, ht, he, hst, hse, hshape, hbad, q⟩
  · change t_mirrored K E _ [some (.ref l), some (.ref m), none, none] H
    have grok : ((rows.map rowT).all isRowT && risingT (rows.map rowT)) = true := gr.ok
    rw [Bool.and_eq_true] at grok
    have hrk : ∀ p ∈ rows, isKey p.1 = true := fun p hp => by
      have := List.all_eq_true.mp grok.1 (rowT p) (List.mem_map.mpr ⟨p, hp, rfl⟩)
      have : (isKey p.1 && recordT (recT p.2)) = true := this
      rw [Bool.and_eq_true] at this
      exact this.1
    have hnd := rows_nodup grok.2
    have hek : ∀ e ∈ evs, isKey e.deed.key = true := fun e he => by
      have := ge.ok e he
      obtain ⟨n, d⟩ := e
      cases d with
      | put k v l =>
        have : (wholeT (.int n) 1 && (isKey k && _)) = true := this
        rw [Bool.and_eq_true, Bool.and_eq_true] at this
        exact this.2.1
      | drop k =>
        have : (wholeT (.int n) 1 && (isKey k && _)) = true := this
        rw [Bool.and_eq_true, Bool.and_eq_true] at this
        exact this.2.1
    obtain ⟨lw, l1, l2⟩ := hl
    obtain ⟨mw, m1, m2⟩ := hm
    have hl' : RowsAt H l rows := ⟨lw, l1, l2⟩
    have hm' : LogAt H m evs := ⟨mw, m1, m2⟩
    have tr : ∀ {ws : List V} {rs : Recs}, Paired (RowV H) ws rs → (∀ p ∈ rs, isKey p.1 = true) → TgVs H ws (rs.map rowT) := fun {ws rs} hp => by
      induction hp with
      | nil => exact fun _ => .nil
      | cons r t ih => exact fun hk => .cons (tg_row r (by have := isKey_le (hk _ List.mem_cons_self); omega)) (ih fun p hp => hk p (List.mem_cons_of_mem _ hp))
    have tev : ∀ {ws : List V} {es : List Evt}, Paired (EvV H) ws es → (∀ e ∈ es, isKey e.deed.key = true) → TgVs H ws (es.map evT) := fun {ws es} hp => by
      induction hp with
      | nil => exact fun _ => .nil
      | cons r t ih => exact fun hk => .cons (tg_ev r (by have := isKey_le (hk _ List.mem_cons_self); omega)) (ih fun p hp => hk p (List.mem_cons_of_mem _ hp))
    have trows : TgV H (.ref l) (.lst (rows.map rowT)) := .lst l1 (tr l2 hrk)
    have tevs := tev m2 hek
    have hfew1 := gr.few
    have hfew2 := ge.few
    have hsh : ∀ t ∈ evs.map evT, evShape t := fun t ht => by
      obtain ⟨e, _, rfl⟩ := List.mem_map.mp ht
      obtain ⟨n, d⟩ := e
      cases d <;> exact rfl
    have hall : (evs.map evT).all eventT = true := by
      rw [List.all_map, List.all_eq_true]
      exact fun e he => ge.ok e he
    have ha := evsAll (K := K) (te := tVar 0) (v := .non) (σ := [some (.ref l), some (.ref m), none, none]) rfl m1 tevs (by rw [List.length_map]; omega) hsh (fun _ => rfl) (fun _ => rfl)
    rw [hall] at ha
    have hrt : Ev (tCall (sp_are_rows K) [] E0 (tCons (tVar 0) tNil)) [some (.ref l), some (.ref m), none, none] H (.bl true) := by
      have h1 : Ev (tCall (sp_are_rows K) [] E0 (tCons (tVar 0) tNil)) [some (.ref l), some (.ref m), none, none] H (.bl (rowsT (.lst (rows.map rowT)))) := ev_call (ea_cons (ev_var rfl) ea_nil) fun H1 e1 Q q E => ⟨_, _, rfl, trows.ex e1, (show (rows.map rowT).length ≤ 50000 by rw [List.length_map]; omega), q⟩
      rw [gr.ok] at h1
      exact h1
    refine alw_here (al_if (et_or (et_not (et_B hrt)) fun _ => et_or (et_not (et_B (ev_isLstT (ev_var rfl) (TgV.lst m1 tevs)))) fun _ => et_not (et_B ha)) (fun hb => by cases hb) fun _ => al_skip (al_setP (evp_dictR (evr_at rfl hl') hnd) fun v H1 e1 hv => ?_))
    obtain ⟨d, rfl, hd0, hd1⟩ := hv
    change Alw _ _ [some (.ref l), some (.ref m), none, some (.ref d)] H1
    have mexd : ∀ {H2 : Hp}, Ex H H2 → LogAt H2 m evs := fun e => hm'.ex e
    refine fun H2 e2 => q_forL (K := K) (a := m) (xs := mw) (ev_var rfl) (sq_of ((e1.trans e2) _ _ m1)) (fun i σ' H' => ∃ v2, σ' = [some (.ref l), some (.ref m), v2, some (.ref d)] ∧ Ex H H' ∧ RecsAt H' d ((evs.take i).foldl changeR rows) ∧ Chain rows (evs.take i)) ?_ ?_ ?_ ?_
    · intro H3 e3
      exact ⟨none, rfl, (e1.trans e2).trans e3, RecsAt.ex (e2.trans e3) hd1, trivial⟩
    · rintro i σ' H' _ ⟨v2, _, e, _⟩
      exact sq_of (e _ _ m1)
    · rintro i x σ' H3 hx ⟨v2, rfl, e3, hr3, hch⟩
      obtain ⟨ev, hev, hxv⟩ := pr_get m2 hx
      have hx3 : EvV H3 x ev := EvV.kt (Ex.kt e3) hxv
      have htake : evs.take (i + 1) = evs.take i ++ [ev] := by
        rw [List.take_succ, hev]
        rfl
      have hkind : Ev (tOp (rIxT K) (tVar 2) (tC (.int 1))) [some (.ref l), some (.ref m), some x, some (.ref d)] H3 (.str (if ev.deed.isPut = true then "put" else "drop")) := ev_ixTp (vs := evVs ev) (evv_v (ev_var rfl) hx3) ev_c (by
        obtain ⟨n, dd⟩ := ev
        cases dd <;> rfl)
      have hlen : ((evs.take i).foldl changeR rows).length ≤ 50000 := by
        have hgrow : ∀ (es : List Evt) (rs : Recs), (es.foldl changeR rs).length ≤ rs.length + es.length := fun es => by
          induction es with
          | nil => exact fun rs => Nat.le_refl _
          | cons e r ih =>
            intro rs
            rw [List.foldl_cons]
            have h1 := ih (changeR rs e)
            have h2 : (changeR rs e).length ≤ rs.length + 1 := by
              obtain ⟨n, dd⟩ := e
              cases dd with
              | put k v l => exact putA_len _ _ _
              | drop k => exact Nat.le_trans (List.length_filter_le _ _) (Nat.le_add_right _ _)
            rw [List.length_cons]
            omega
        have h1 := hgrow (evs.take i) rows
        have h2 : (evs.take i).length ≤ evs.length := by rw [List.length_take]; omega
        have := ge.keys
        omega
      refine alw_here (al_if (et_and (et_test (ev_eqS hkind ev_c)) fun _ => et_B (ev_notInD (ev_evKey (evv_v (ev_var rfl) hx3)) (ev_var rfl) hr3)) (fun hb H4 e4 => ?_) fun hb => al_skip fun H4 e4 => ?_)
      · refine q2 (fun hc => ?_) H4 (e3.trans e4)
        rw [Bool.and_eq_true] at hb
        have hcc : Chain rows (evs.take (i + 1)) := chain_take hc (i + 1)
        rw [htake] at hcc
        have hok := chain_at (post := []) hcc
        obtain ⟨n, dd⟩ := ev
        cases dd with
        | put k v lz => exact absurd (of_decide_eq_true hb.1) (show ¬ ("put" : Str) = "drop" by decide)
        | drop k =>
          have h1 := hok k rfl
          have h2 : (!hasR ((evs.take i).foldl changeR rows) k) = true := hb.2
          rw [h1] at h2
          cases h2
      · have hok : evOk ((evs.take i).foldl changeR rows) ev := fun k hk => by
          cases hh : hasR ((evs.take i).foldl changeR rows) k with
          | true => rfl
          | false =>
            exfalso
            have hp : ev.deed.isPut = false := by rw [hk]; rfl
            have hkey : ev.deed.key = k := by rw [hk]; rfl
            rw [hp, hkey, hh] at hb
            cases hb
        refine ⟨_, rfl, _, rfl, d, x, _, ev, rfl, RecsAt.ex e4 hr3, EvV.kt (Ex.kt e4) hx3, hok, by omega, fun H5 hr5 k5 kt5 => ⟨_, rfl, fun b o hb => ?_, ?_, ?_⟩⟩
        · have hbd : b ≠ d := fun z => by rw [z, hd0] at hb; cases hb
          exact k5 b o hbd ((e3.trans e4) b o hb)
        · rw [htake, List.foldl_append]
          exact hr5
        · rw [htake]
          exact chain_append.mpr ⟨hch, hok, trivial⟩
    · rintro σ' H3 ⟨v2, rfl, e3, hr3, hch⟩
      rw [pr_len m2, List.take_length] at hr3 hch
      exact ⟨_, rfl, d, _, rfl, hr3, foldR_nodup evs hnd, hfew, fun H4 r e4 hr hrw => q1 hch H4 r (e3.trans e4) (fresh_back e3 hr) hrw⟩
  · change t_mirrored K E _ [some v, some u, none, none] H
    have hrt : Ev (tCall (sp_are_rows K) [] E0 (tCons (tVar 0) tNil)) [some v, some u, none, none] H (.bl (rowsT t)) := ev_call (ea_cons (ev_var rfl) ea_nil) fun H1 e1 Q q E => ⟨_, _, rfl, ht.ex e1, hst, q⟩
    cases hr : rowsT t with
    | false =>
      rw [hr] at hrt
      exact alw_here (al_if (b := true) (et_or (b := false) (et_not (et_B hrt)) fun z => by cases z) (fun _ H1 e1 => q H1 e1) fun z => by cases z)
    | true =>
      rw [hr] at hrt hbad
      have hbad : eventsT e = false := hbad
      cases he with
      | @lst a us ts ee tt =>
        have ha := evsAll (K := K) (te := tVar 0) (v := .non) (σ := [some v, some (.ref a), none, none]) rfl ee tt hse hshape (fun _ => rfl) (fun _ => rfl)
        have hb : ts.all eventT = false := hbad
        rw [hb] at ha
        exact alw_here (al_if (b := true) (et_or (et_not (et_B hrt)) fun _ => et_or (et_not (et_B (ev_isLstT (ev_var rfl) (TgV.lst ee tt)))) fun _ => et_not (et_B ha)) (fun _ H1 e1 => q H1 e1) fun z => by cases z)
      | non => exact alw_here (al_if (b := true) (et_or (et_not (et_B hrt)) fun _ => et_or (b := false) (et_not (et_B (ev_isLstT (ev_var rfl) TgV.non))) fun z => by cases z) (fun _ H1 e1 => q H1 e1) fun z => by cases z)
      | bl b => exact alw_here (al_if (b := true) (et_or (et_not (et_B hrt)) fun _ => et_or (b := false) (et_not (et_B (ev_isLstT (ev_var rfl) (TgV.bl b)))) fun z => by cases z) (fun _ H1 e1 => q H1 e1) fun z => by cases z)
      | int b => exact alw_here (al_if (b := true) (et_or (et_not (et_B hrt)) fun _ => et_or (b := false) (et_not (et_B (ev_isLstT (ev_var rfl) (TgV.int b)))) fun z => by cases z) (fun _ H1 e1 => q H1 e1) fun z => by cases z)
      | str b hb => exact alw_here (al_if (b := true) (et_or (et_not (et_B hrt)) fun _ => et_or (b := false) (et_not (et_B (ev_isLstT (ev_var rfl) (TgV.str b hb)))) fun z => by cases z) (fun _ H1 e1 => q H1 e1) fun z => by cases z)
      | tup b hb => exact alw_here (al_if (b := true) (et_or (et_not (et_B hrt)) fun _ => et_or (b := false) (et_not (et_B (ev_isLstT (ev_var rfl) (TgV.tup b hb)))) fun z => by cases z) (fun _ H1 e1 => q H1 e1) fun z => by cases z)
      | dct b => exact alw_here (al_if (b := true) (et_or (et_not (et_B hrt)) fun _ => et_or (b := false) (et_not (et_B (ev_isLstT (ev_var rfl) (TgV.dct b)))) fun z => by cases z) (fun _ H1 e1 => q H1 e1) fun z => by cases z)
end
end KW

/-! rows that go on by changes -/
namespace KW
open PySem PySem.Spec PyProof.Rows L2 Evl
/-- rs is what of qs lies in a span -/
structure SpanEq (a b : Str) (rs qs : Recs) : Prop where
  look : ∀ k, within k a b = true → lookR rs k = lookR qs k
  keys : ∀ k ∈ keysA rs, within k a b = true
theorem spanEq_rows {rs : Recs} (nd : (keysA rs).Nodup) (a b : Str) : SpanEq a b (spanRows rs a b) rs := by
  have hs := inRows_same nd
  refine ⟨fun k hk => ?_, fun k hk => ?_⟩
  · have h1 : lookR (spanRows rs a b) k = if within k a b = true then lookR (inRows rs) k else none := look_filter (inRows rs) (fun k => within k a b) k
    rw [h1, if_pos hk, hs k]
  · obtain ⟨p, hp, rfl⟩ := List.mem_map.mp hk
    exact (List.mem_filter.mp hp).2
theorem SpanEq.has {a b : Str} {rs qs : Recs} (h : SpanEq a b rs qs) {k : Str} (hk : within k a b = true) : hasR rs k = hasR qs k := by
  unfold hasR
  rw [h.look k hk]
theorem SpanEq.inn {a b : Str} {rs qs : Recs} (h : SpanEq a b rs qs) {e : Evt} (he : within e.deed.key a b = true) : SpanEq a b (changeR rs e) (changeR qs e) := by
  obtain ⟨n, d⟩ := e
  refine ⟨fun k hk => ?_, fun k hk => ?_⟩
  · rw [changeR_look, changeR_look]
    split
    · cases d with
      | put j v l =>
        show some (newRec rs n j v l) = some (newRec qs n j v l)
        unfold newRec
        rw [h.look j he]
      | drop j => rfl
    · exact h.look k hk
  · cases d with
    | put j v l =>
      rcases keysA_putA.mp (show k ∈ keysA (putA rs j _) from hk) with z | z
      · rw [z]
        exact he
      · exact h.keys k z
    | drop j => exact h.keys k (keysA_dropA.mp (show k ∈ keysA (dropA rs j) from hk)).2
theorem SpanEq.out {a b : Str} {rs qs : Recs} (h : SpanEq a b rs qs) {e : Evt} (he : within e.deed.key a b = false) : SpanEq a b rs (changeR qs e) := by
  refine ⟨fun k hk => ?_, h.keys⟩
  rw [changeR_look, if_neg (fun z => by rw [z, he] at hk; cases hk)]
  exact h.look k hk
theorem spanEq_fold {a b : Str} : ∀ (es : List Evt) {rs qs : Recs}, SpanEq a b rs qs → Chain qs es → SpanEq a b ((es.filter fun e => within e.deed.key a b).foldl changeR rs) (es.foldl changeR qs) ∧ Chain rs (es.filter fun e => within e.deed.key a b)
  | [], _, _, h, _ => ⟨h, trivial⟩
  | e :: r, rs, qs, h, hc => by
    rw [List.filter_cons, List.foldl_cons]
    by_cases he : within e.deed.key a b = true
    · rw [if_pos he, List.foldl_cons]
      obtain ⟨h1, h2⟩ := spanEq_fold r (h.inn he) hc.2
      refine ⟨h1, fun k hk => ?_, h2⟩
      have hkey : e.deed.key = k := by rw [hk]; rfl
      rw [h.has (by rw [← hkey]; exact he)]
      exact hc.1 k hk
    · have he' : within e.deed.key a b = false := by
        cases hh : within e.deed.key a b with
        | true => exact absurd hh he
        | false => rfl
      rw [if_neg he]
      exact spanEq_fold r (h.out he') hc.2
theorem SpanEq.rows {a b : Str} {rs qs : Recs} (h : SpanEq a b rs qs) (n1 : (keysA rs).Nodup) (n2 : (keysA qs).Nodup) : inRows rs = spanRows qs a b := by
  rw [spanRows_eq]
  unfold inRows spanKeys
  have hk : sortS (keysA rs) = sortS ((keysA qs).filter fun k => within k a b) := sortS_ext n1 (n2.sublist List.filter_sublist) fun k => by
    rw [List.mem_filter]
    constructor
    · intro hk
      have hw := h.keys k hk
      exact ⟨has_keys.mp (by rw [← h.has hw]; exact has_keys.mpr hk), hw⟩
    · rintro ⟨h1, h2⟩
      exact has_keys.mp (by rw [h.has h2]; exact has_keys.mpr h1)
  rw [hk]
  refine List.map_congr_left fun k hk' => ?_
  have hw := (List.mem_filter.mp (mem_sortS.mp hk')).2
  unfold getR
  rw [h.look k hw]
/-- the changes behind i up to j -/
def midOf (s : HS) (i j : Int) : List Evt := s.log.filter fun e => decide (i < e.num) && decide (e.num ≤ j)
theorem at_between {s : HS} (w : s.Wf) {i j : Int} (h : i ≤ j) : s.at j = (midOf s i j).foldl changeR (s.at i) ∧ Chain (s.at i) (midOf s i j) := by
  have hsp : upTo j s.log = upTo i s.log ++ midOf s i j := by
    have h1 := split_num (List.Pairwise.sublist (List.filter_sublist (l := s.log) (p := fun e => decide (e.num ≤ j))) w.sorted) (i + 1)
    rw [List.filter_filter, List.filter_filter] at h1
    show s.log.filter (fun e => decide (e.num ≤ j)) = _
    rw [h1]
    congr 1
    · refine List.filter_congr fun e _ => ?_
      by_cases he : e.num ≤ i
      · rw [decide_eq_true he, decide_eq_true (show e.num < i + 1 by omega), decide_eq_true (show e.num ≤ j by omega)]
        rfl
      · rw [decide_eq_false he, decide_eq_false (show ¬ e.num < i + 1 by omega), Bool.false_and]
  rw [at_fold w, at_fold w, hsp, List.foldl_append]
  refine ⟨rfl, ?_⟩
  obtain ⟨k, hk⟩ := filter_take j w.sorted
  have hc : Chain s.old (upTo j s.log) := by
    show Chain s.old (s.log.filter fun e => decide (e.num ≤ j))
    rw [hk]
    exact chain_take w.chain k
  rw [hsp] at hc
  exact (chain_append.mp hc).2
theorem since_mid {s : HS} (a b : Str) (i j : Int) : (s.since a b (i + 1)).filter (fun e => decide (e.num ≤ j)) = (midOf s i j).filter fun e => within e.deed.key a b := by
  unfold HS.since midOf
  rw [List.filter_filter, List.filter_filter]
  refine List.filter_congr fun e _ => ?_
  by_cases h : i < e.num
  · rw [decide_eq_true h, decide_eq_true (show i + 1 ≤ e.num by omega)]
    cases decide (e.num ≤ j) <;> cases within e.deed.key a b <;> rfl
  · rw [decide_eq_false h, decide_eq_false (show ¬ i + 1 ≤ e.num by omega)]
    cases decide (e.num ≤ j) <;> cases within e.deed.key a b <;> rfl
theorem mir_rows {s : HS} (w : s.Wf) (a b : Str) {i j : Int} (h : i ≤ j) : Chain (spanRows (s.at i) a b) ((midOf s i j).filter fun e => within e.deed.key a b) ∧ inRows (((midOf s i j).filter fun e => within e.deed.key a b).foldl changeR (spanRows (s.at i) a b)) = spanRows (s.at j) a b ∧ (((midOf s i j).filter fun e => within e.deed.key a b).foldl changeR (spanRows (s.at i) a b)).length = (spanRows (s.at j) a b).length := by
  obtain ⟨h1, h2⟩ := at_between w h
  obtain ⟨h3, h4⟩ := spanEq_fold (midOf s i j) (spanEq_rows (at_nodup w i) a b) h2
  have nds : (keysA (spanRows (s.at i) a b)).Nodup := by
    have := inRows_nodup (at_nodup w i)
    unfold keysA at this ⊢
    exact this.sublist ((List.filter_sublist).map _)
  have hn := foldR_nodup ((midOf s i j).filter fun e => within e.deed.key a b) nds
  rw [← h1] at h3
  have h5 := h3.rows hn (at_nodup w j)
  refine ⟨h4, h5, ?_⟩
  rw [← h5]
  unfold inRows
  rw [List.length_map, sortS_len]
  unfold keysA
  rw [List.length_map]
section
variable {K : PySem.W.Frag} {σ : L2.St} {H : Hp} {ta tb te : TE} {E : XK}
theorem evl_sortI {xs : List Int} (h : EvR te σ H IntV xs) : EvLP (tCB (rSortedI K) (tCons te tNil)) σ H IntV (sortI xs) := fun H1 e Q q =>
  h H1 e _ fun v H2 e2 hv => by
    obtain ⟨p, rfl, h2⟩ := hv
    exact ⟨p, xs, rfl, sq_of h2.ints, fun ys l hperm hs hn => by
      rw [sortI_eq hperm hs]
      exact q l _ (fresh_back e2 hn) (e2.trans (Ex.new hn)) ⟨_, upd_same, paired_map V.int _⟩⟩
theorem evl_lstI {tr : TA} {is : List Int} (h : EvA tr σ H (is.map V.int)) (hl : is.length ≤ 100000) : EvLP (tLst tr) σ H IntV is := evl_ints (el_lst h (by rw [List.length_map]; exact hl))
/-- mirrored(rows, events) -/
theorem evl_mirrored {rows : Recs} {evs : List Evt} (hr : EvR ta σ H RowV rows) (he : EvR tb σ H EvV evs) (gr : GoodRows rows) (ge : GoodEvs evs rows.length) (few : (evs.foldl changeR rows).length < 64) (ch : Chain rows evs) : EvLP (tCall (sp_mirrored K) [] E (tCons ta (tCons tb tNil))) σ H RowV (inRows (evs.foldl changeR rows)) := fun H1 e1 Q q =>
  hr H1 e1 _ fun v H2 e2 hv => he H2 (e1.trans e2) _ fun u H3 e3 hu => by
    obtain ⟨l, rfl, hl⟩ := hv
    obtain ⟨m, rfl, hm⟩ := hu
    exact .inl ⟨l, m, rows, evs, rfl, hl.ex e3, hm, gr, ge, few, fun _ H4 r e4 hr4 h4 => q r H4 (fresh_back (e2.trans e3) hr4) ((e2.trans e3).trans e4) h4, fun hn => absurd ch hn⟩
theorem Sane.goodEvs {ks : List Str} {n : Nat} {s : HS} (ok : Sane ks n s) {evs : List Evt} (hs : ∀ e ∈ evs, e ∈ s.log) (hl : evs.length ≤ s.log.length) {m : Nat} (hm : m < 64) : GoodEvs evs m := by
  have h1 := ok.log_le
  have h2 := ok.num
  refine ⟨fun e he => ?_, by omega, by omega⟩
  have h3 := ok.wf.bnd e (hs e he)
  have h4 := ok.wf.b0
  exact evT_good (ok.logd e (hs e he)) (by omega)
theorem Sane.goodRows {ks : List Str} {n : Nat} {s : HS} (ok : Sane ks n s) (a b : Str) {i : Int} (hi : s.base ≤ i) : GoodRows (spanRows (s.at i) a b) := goodRows_of (at_nodup ok.wf i) (ok.at_g hi) (fun k hk => ok.key k (ok.at_keys i k hk)) (ok.at_le i)
/-- the rows of a span at i, mirrored by the changes of it up to j, are those at j -/
theorem evl_mir {ks : List Str} {n : Nat} {s : HS} (ok : Sane ks n s) {a b : Str} {i j : Int} (hi : s.base ≤ i) (hij : i ≤ j) (hr : EvR ta σ H RowV (spanRows (s.at i) a b)) (he : EvR tb σ H EvV ((midOf s i j).filter fun e => within e.deed.key a b)) : EvLP (tCall (sp_mirrored K) [] E (tCons ta (tCons tb tNil))) σ H RowV (spanRows (s.at j) a b) := by
  obtain ⟨h1, h2, h3⟩ := mir_rows ok.wf a b hij
  have gr := ok.goodRows a b hi
  have gj := ok.goodRows a b (Int.le_trans hi hij)
  have h := evl_mirrored (K := K) (E := E) hr he gr (ok.goodEvs (fun e hh => (List.mem_filter.mp (List.mem_filter.mp hh).1).1) (Nat.le_trans (List.length_filter_le _ _) (List.length_filter_le _ _)) gr.few) (by rw [h3]; exact gj.few) h1
  rw [h2] at h
  exact h
end
end KW

/-! readings, printed by mkT.py -/
namespace KW
open PySem PySem.Spec PyProof.Rows L2 Evl
def t_law (K : PySem.W.Frag) : TS := (tSeq (tAsg (tCall (sp_l_keys K) [] E0 (tCons (tVar 0) (tCons (tC (.int 20)) tNil))) (gName 1))
  (tSeq (tAsg (tMake (clsHouse K) (sp_h_init K) [] E0 tNil) (gName 2))
  (tSeq (tDrop (tCall (sp_l_drive K) [] E0 (tCons (tVar 0) (tCons (tC (.int 200)) (tCons (tVar 2) (tCons (tVar 1) (tCons (tCall (sp_l_mixed K) [] E0 (tCons (tVar 0) (tCons (tC (.int 0)) (tCons (tOp (rIxL K) (tLst (tCons (tC (.int 25)) (tCons (tC (.int 120)) tNil))) (tCB rInt1 (tCons (tOp rEq (tCall (sp_l_mixed K) [] E0 (tCons (tVar 0) (tCons (tC (.int 90007)) (tCons (tC (.int 8)) tNil)))) (tC (.int 0))) tNil))) tNil)))) tNil)))))))
  (tSeq (tAsg (tCB (rSortedI K) (tCons (tLst (tCons (tCall (sp_l_mixed K) [] E0 (tCons (tVar 0) (tCons (tC (.int 1)) (tCons (tOp rAddI (tMeth (clsHouse K) "number" (sp_h_number K) [] E0 (tVar 2) tNil) (tC (.int 1))) tNil)))) (tCons (tCall (sp_l_mixed K) [] E0 (tCons (tVar 0) (tCons (tC (.int 2)) (tCons (tOp rAddI (tMeth (clsHouse K) "number" (sp_h_number K) [] E0 (tVar 2) tNil) (tC (.int 1))) tNil)))) tNil))) tNil)) (gName 3))
  (tSeq (tAsg (tCall (sp_l_span K) [] E0 (tCons (tVar 0) (tCons (tC (.int 3)) (tCons (tVar 1) tNil)))) (gTup K 2 (gCons (gName 4) (gCons (gName 5) gNil))))
  (tSeq (tAsg (tLc (iList K (tMeth (clsHouse K) "changes" (sp_h_changes K) [] E0 (tVar 2) (tCons (tVar 4) (tCons (tVar 5) (tCons (tOp rAddI (tOp (rIxL K) (tVar 3) (tC (.int 0))) (tC (.int 1))) tNil))))) (gName 7) (tTest (tOp rLeI (tOp (rIxT K) (tVar 7) (tC (.int 0))) (tOp (rIxL K) (tVar 3) (tC (.int 1))))) (tVar 7) [7]) (gName 6))
  (tRet (tOp (rEqP K) (tCall (sp_mirrored K) [] E0 (tCons (tMeth (clsHouse K) "rows" (sp_h_rows K) [] E0 (tVar 2) (tCons (tVar 4) (tCons (tVar 5) (tCons (tOp (rIxL K) (tVar 3) (tC (.int 0))) tNil)))) (tCons (tVar 6) tNil))) (tMeth (clsHouse K) "rows" (sp_h_rows K) [] E0 (tVar 2) (tCons (tVar 4) (tCons (tVar 5) (tCons (tOp (rIxL K) (tVar 3) (tC (.int 1))) tNil))))))))))))
abbrev N_law : List Str := ["script", "keys", "house", "ends", "first", "last", "events", "event"]
end KW

/-! the law k06: from there -/
namespace KW
open PySem PySem.Spec PyProof.Rows L2 Evl
local macro_rules | `(tactic| trivial) => `(tactic| first
  | with_reducible assumption
  | with_reducible exact ev_c
  | ((with_reducible apply ev_var); rfl)
  | ((with_reducible apply ev_mxS) <;> trivial)
  | ((with_reducible apply ev_add) <;> trivial)
  | ((with_reducible apply ev_sub) <;> trivial)
  | ((with_reducible apply ev_mul) <;> trivial)
  | ((with_reducible apply ev_lt) <;> trivial)
  | ((with_reducible apply ev_le) <;> trivial)
  | ((with_reducible apply ev_gt) <;> trivial)
  | ((with_reducible apply ev_ge) <;> trivial)
  | ((with_reducible apply ev_numS) <;> trivial)
  | ((with_reducible apply ev_clockS) <;> trivial)
  | ((with_reducible apply ev_foldedS) <;> trivial)
  | ((with_reducible apply ev_leftS) <;> trivial)
  | ((with_reducible apply ev_lenR) <;> trivial)
  | ((with_reducible apply ev_evKey) <;> trivial)
  | ((with_reducible apply ev_evNum) <;> trivial)
  | ((with_reducible apply evv_v) <;> trivial)
  | ((with_reducible apply ev_ixTp); trivial; trivial; rfl)
  | ((with_reducible apply ev_eqI) <;> trivial)
  | ((with_reducible apply ev_neI) <;> trivial)
  | ((with_reducible apply ev_eqS) <;> trivial)
  | ((with_reducible apply ev_neS) <;> trivial)
  | ((with_reducible apply ev_eqB) <;> trivial)
  | ((with_reducible apply ev_neB) <;> trivial)
  | ((with_reducible apply ev_isN) <;> trivial)
  | ((with_reducible apply ev_notN) <;> trivial)
  | ((with_reducible apply ev_gtS) <;> trivial)
  | ((with_reducible apply ev_leSS) <;> trivial)
  | ((with_reducible apply ev_withinS) <;> trivial)
  | ((with_reducible apply ev_int1) <;> trivial)
  | ((with_reducible apply ev_ixI) <;> trivial)
  | ((with_reducible apply ev_ixStr) <;> trivial)
  | ((with_reducible apply ev_max2) <;> trivial)
  | ((with_reducible apply ev_min2) <;> trivial)
  | ((with_reducible apply ev_allR) <;> trivial)
  | ((with_reducible apply ev_anyR) <;> trivial)
  | ((with_reducible apply et_test) <;> trivial)
  | ((with_reducible apply et_B) <;> trivial)
  | ((with_reducible apply et_not) <;> trivial)
  | ((with_reducible apply et_yes))
  | ((with_reducible apply et_and); trivial; intro _; trivial)
  | ((with_reducible apply et_or); trivial; intro _; trivial)
  | with_reducible exact ea_nil
  | ((with_reducible apply ea_cons) <;> trivial)
  | ((with_reducible apply evr_var); rfl; trivial)
  | ((with_reducible apply evl_rowsAll) <;> trivial)
  | ((with_reducible apply evl_rowsS) <;> trivial)
  | ((with_reducible apply evl_rowsNAll) <;> trivial)
  | ((with_reducible apply evl_rowsNS) <;> trivial)
  | ((with_reducible apply evl_changesAll) <;> trivial)
  | ((with_reducible apply evl_changesS) <;> trivial)
  | ((with_reducible apply evl_leasesS) <;> trivial)
  | ((with_reducible apply evl_watchersS) <;> trivial)
  | ((with_reducible apply evl_keysOfS) <;> trivial)
  | ((with_reducible apply evl_sortS) <;> trivial)
  | ((with_reducible apply evr_new); trivial)
  | ((with_reducible apply evt_tup) <;> trivial)
  | ((with_reducible apply evt_v) <;> trivial)
  | with_reducible exact Sep.at0 (by assumption)
  | with_reducible exact Sep.at1 (by assumption)
  | with_reducible exact Sep.at2 (by assumption)
  | with_reducible exact Sep.at3 (by assumption)
  | with_reducible exact Sep.at4 (by assumption)
  | with_reducible exact Sep.at5 (by assumption)
  | with_reducible exact Sep.at6 (by assumption)
  | with_reducible exact Sep.at7 (by assumption)
  | with_reducible exact Sep.at8 (by assumption)
  | with_reducible exact Sep.at9 (by assumption)
  | with_reducible exact Sep.at10 (by assumption)
  | with_reducible exact Sep.at11 (by assumption)
  | with_reducible exact Sep.at12 (by assumption)
  | with_reducible exact Sep.at13 (by assumption)
  | exact key_lo
  | exact key_hi
  | omega
  | decide
  | exact Or.inl ⟨by decide, by decide⟩
  | exact Or.inr ⟨by decide, by decide⟩)
section
variable {K : PySem.W.Frag} {vs : List V} {H : Hp} {Q : VK} {E : XK}
theorem pure_law (HC : HCls K) (h : sp_law K vs H Q E) : t_law K { nx := fun _ H' => Q .non H', rt := Q } (start N_law vs) H := by
  obtain ⟨a, ns, rfl, hs, q⟩ := h
  have hklen := lawKeys_len ns 20
  have hkkey := lawKeys_key ns 20
  change t_law K _ [some (.ref a), none, none, none, none, none, none, none] H
  refine Sep.keys rfl hs fun l H1 W1 => ?_
  generalize lawKeys ns 20 = keys at *
  have h0 : 0 < keys.length := by omega
  refine st_set (W1.house hkkey (by omega) fun p H2 W k2 => ?_)
  simp only [List.cons_append, List.nil_append] at W
  have d0 := many_nn ns (m := 120) (by decide)
  have d1 := many_lt ns (m := 120) (by decide)
  have hm := ev_many (K := K) (σ := [some (.ref a), some (.ref l), some (.ref p), none, none, none, none, none]) (m := 120) (ta := tVar 0) (by decide) (fun H3 e3 => by trivial) W.at0.scr
  rw [← Int.toNat_of_nonneg d0] at hm
  refine st_drop (W.drive (i := 2) (j := 0) (k := 1) rfl rfl rfl (by decide) (by decide) h0 (by trivial) (by trivial) (by trivial) (by trivial) hm (by decide) (by omega) fun r H3 W k3 => ?_)
  simp only [List.set] at W
  obtain ⟨_, hbs, _, _⟩ := driven_same (s := HS.new) (keys := keys) (n := 0) (fit_new _) hkkey h0 ns 200 (manyOf ns 120).toNat
  generalize driven ns 200 keys HS.new (manyOf ns 120).toNat = s at *
  have W := W.left (As := [_, _, _])
  have ok := W.at2.sane
  have hl0 := ok.last0
  have hbs : s.base = 0 := hbs
  have g1 := mixed_nn ns 1 (m := s.last + 1) (by omega)
  have g2 := mixed_lt ns 1 (m := s.last + 1) (by omega)
  have g3 := mixed_nn ns 2 (m := s.last + 1) (by omega)
  have g4 := mixed_lt ns 2 (m := s.last + 1) (by omega)
  refine alw_here (al_setL W (evl_sortI (evr_new (evl_lstI (is := [mixed ns 1 (s.last + 1), mixed ns 2 (s.last + 1)]) (ea_cons (by trivial) (ea_cons (by trivial) ea_nil)) (show 2 ≤ 100000 by decide)))) fun es H4 e4 W => ?_)
  simp only [List.cons_append, List.nil_append] at W
  have hso : ∃ i j, sortI [mixed ns 1 (s.last + 1), mixed ns 2 (s.last + 1)] = [i, j] ∧ 0 ≤ i ∧ i ≤ j ∧ j ≤ s.last := by
    generalize mixed ns 1 (s.last + 1) = x at *
    generalize mixed ns 2 (s.last + 1) = y at *
    by_cases hxy : x ≤ y
    · exact ⟨x, y, (sortI_eq (List.Perm.refl _) (List.pairwise_pair.mpr hxy)).symm, by omega, hxy, by omega⟩
    · exact ⟨y, x, (sortI_eq (List.Perm.swap _ _ _) (List.pairwise_pair.mpr (by omega))).symm, by omega, by omega, by omega⟩
  obtain ⟨i, j, hij, i0, ile, jle⟩ := hso
  rw [hij] at W
  obtain ⟨ka, kb⟩ := lawSpan_key ns 3 hkkey h0
  refine al_span (by trivial) (by trivial) (by trivial) W.at0 W.at1 (by decide) h0 hkkey ?_
  generalize (lawSpan ns 3 keys).1 = fa at *
  generalize (lawSpan ns 3 keys).2 = fb at *
  change Alw _ _ [some (.ref a), some (.ref l), some (.ref p), some (.ref es), some (.str fa), some (.str fb), none, none] _
  have hi : ∀ {σ : L2.St} {H : Hp}, σ[3]? = some (some (.ref es)) → Has (rL IntV es [i, j]) H → Ev (tOp (rIxL K) (tVar 3) (tC (.int 0))) σ H (.int i) := fun h h2 => ev_ixI (is := [i, j]) (evr_var h h2) ev_c (by decide) (show (0 : Int) < 2 by decide)
  have hj : ∀ {σ : L2.St} {H : Hp}, σ[3]? = some (some (.ref es)) → Has (rL IntV es [i, j]) H → Ev (tOp (rIxL K) (tVar 3) (tC (.int 1))) σ H (.int j) := fun h h2 => ev_ixI (is := [i, j]) (evr_var h h2) ev_c (by decide) (show (1 : Int) < 2 by decide)
  have hsz := ok.size
  have hev := evl_filter (K := K) (P := EvV) (xs := s.since fa fb (i + 1)) (f := fun e : Evt => decide (e.num ≤ j)) (σ := [some (.ref a), some (.ref l), some (.ref p), some (.ref es), some (.str fa), some (.str fb), none, none]) (H := H4) (n := 7) (vs := [7]) (tt := tTest (tOp rLeI (tOp (rIxT K) (tVar 7) (tC (.int 0))) (tOp (rIxL K) (tVar 3) (tC (.int 1))))) (tl := tMeth (clsHouse K) "changes" (sp_h_changes K) [] E0 (tVar 2) (tCons (tVar 4) (tCons (tVar 5) (tCons (tOp rAddI (tOp (rIxL K) (tVar 3) (tC (.int 0))) (tC (.int 1))) tNil)))) (evr_new (evl_changesS (by trivial) W.at2 (by trivial) (by trivial) (ev_add (hi rfl W.at3) ev_c) ka kb ⟨by omega, by omega⟩)) (fun _ => rfl) (fun _ => rfl) (fun x e H1 e1 hx _ => et_test (ev_le (ev_evNum (evv_v (ev_var rfl) hx)) (hj rfl (W.at3.ex e1)))) (Nat.le_trans (List.length_filter_le _ _) (by omega))
  rw [since_mid] at hev
  refine al_setL W hev fun ev H5 e5 W => ?_
  simp only [List.cons_append, List.nil_append] at W
  change Alw _ _ [some (.ref a), some (.ref l), some (.ref p), some (.ref es), some (.str fa), some (.str fb), some (.ref ev), none] _
  exact alw_ret (ev_eqR1 encRow (evr_new (evl_mir ok (by omega) ile (evr_new (evl_rowsNS (by trivial) W.at2 (by trivial) (by trivial) (hi rfl W.at3) ka kb ⟨by omega, by omega, by omega⟩)) (evr_var rfl W.at4))) (evr_new (evl_rowsNS (by trivial) W.at2 (by trivial) (by trivial) (hj rfl W.at3) ka kb ⟨by omega, by omega, by omega⟩))) fun H6 e6 => q H6
end
end KW
namespace KW
open PySem PySem.Spec PyProof.Rows L2 Evl
/-! the text of the row -/
def top (i : Nat) : Stmt := PySem.Challenge.pw_keywatch_k06_whole_from_there.main.body.getD i (.Pass ⟨0, 0, 0, 0⟩)
def plainOf' (o : Expr) (env : Env) : Sem Bool := do return (← importBound o env).getD true
abbrev s_is_key : Stmt := top 15
abbrev s_is_whole : Stmt := top 16
abbrev s_is_value : Stmt := top 17
abbrev s_need_key : Stmt := top 18
abbrev s_need_value : Stmt := top 19
abbrev s_need_whole : Stmt := top 20
abbrev s_is_within : Stmt := top 21
abbrev s_change : Stmt := top 23
abbrev s_in_rows : Stmt := top 24
abbrev s_is_lease : Stmt := top 25
abbrev s_is_record : Stmt := top 26
abbrev s_is_row : Stmt := top 27
abbrev s_are_rows : Stmt := top 28
abbrev s_is_event : Stmt := top 29
abbrev s_mirrored : Stmt := top 30
abbrev s_is_condition : Stmt := top 34
abbrev s_are_conditions : Stmt := top 35
abbrev s_holds : Stmt := top 36
abbrev s_is_deed : Stmt := top 37
abbrev s_are_deeds : Stmt := top 38
abbrev s_h_init : Stmt := inClass (top 41) 0
abbrev s_h_write : Stmt := inClass (top 41) 1
abbrev s_h_put : Stmt := inClass (top 41) 2
abbrev s_h_drop : Stmt := inClass (top 41) 3
abbrev s_h_deal : Stmt := inClass (top 41) 4
abbrev s_h_number : Stmt := inClass (top 41) 5
abbrev s_h_records_at : Stmt := inClass (top 41) 7
abbrev s_h_records_when : Stmt := inClass (top 41) 8
abbrev s_h_rows : Stmt := inClass (top 41) 10
abbrev s_h_since : Stmt := inClass (top 41) 11
abbrev s_h_changes : Stmt := inClass (top 41) 12
abbrev s_h_need_lease : Stmt := inClass (top 41) 14
abbrev s_h_need_term : Stmt := inClass (top 41) 15
abbrev s_h_grant : Stmt := inClass (top 41) 16
abbrev s_h_renew : Stmt := inClass (top 41) 17
abbrev s_h_keys_of : Stmt := inClass (top 41) 19
abbrev s_h_end : Stmt := inClass (top 41) 20
abbrev s_h_give_back : Stmt := inClass (top 41) 21
abbrev s_h_wait : Stmt := inClass (top 41) 22
abbrev s_h_leases : Stmt := inClass (top 41) 24
abbrev s_l_cell_at : Stmt := top 43
abbrev s_l_mixed : Stmt := top 44
abbrev s_l_key : Stmt := top 45
abbrev s_l_keys : Stmt := top 46
abbrev s_l_span : Stmt := top 47
abbrev s_l_lease : Stmt := top 48
abbrev s_l_one_deed : Stmt := top 49
abbrev s_l_condition : Stmt := top 50
abbrev s_l_deal_deeds : Stmt := top 51
abbrev s_l_deed : Stmt := top 52
abbrev s_l_do : Stmt := top 53
abbrev s_l_drive : Stmt := top 54
abbrev s_law : Stmt := top 55
theorem sc_is_key : FnScope ["thing", "sign"] ["thing"] (defScope s_is_key) := ⟨rfl, rfl, rfl, by decide +kernel, rfl, by decide +kernel, by decide +kernel⟩
theorem sc_is_whole : FnScope ["thing", "low"] ["thing", "low"] (defScope s_is_whole) := ⟨rfl, rfl, rfl, by decide +kernel, rfl, by decide +kernel, by decide +kernel⟩
theorem sc_is_value : FnScope ["thing"] ["thing"] (defScope s_is_value) := ⟨rfl, rfl, rfl, by decide +kernel, rfl, by decide +kernel, by decide +kernel⟩
theorem sc_need_key : FnScope ["key"] ["key"] (defScope s_need_key) := ⟨rfl, rfl, rfl, by decide +kernel, rfl, by decide +kernel, by decide +kernel⟩
theorem sc_need_value : FnScope ["value"] ["value"] (defScope s_need_value) := ⟨rfl, rfl, rfl, by decide +kernel, rfl, by decide +kernel, by decide +kernel⟩
theorem sc_need_whole : FnScope ["number", "low"] ["number", "low"] (defScope s_need_whole) := ⟨rfl, rfl, rfl, by decide +kernel, rfl, by decide +kernel, by decide +kernel⟩
theorem sc_is_within : FnScope ["key", "first", "last"] ["key", "first", "last"] (defScope s_is_within) := ⟨rfl, rfl, rfl, by decide +kernel, rfl, by decide +kernel, by decide +kernel⟩
theorem sc_change : FnScope ["records", "event", "number", "kind", "key", "value", "lease"] ["records", "event"] (defScope s_change) := ⟨rfl, rfl, rfl, by decide +kernel, rfl, by decide +kernel, by decide +kernel⟩
theorem sc_in_rows : FnScope ["records", "key"] ["records"] (defScope s_in_rows) := ⟨rfl, rfl, rfl, by decide +kernel, rfl, by decide +kernel, by decide +kernel⟩
theorem sc_is_lease : FnScope ["thing"] ["thing"] (defScope s_is_lease) := ⟨rfl, rfl, rfl, by decide +kernel, rfl, by decide +kernel, by decide +kernel⟩
theorem sc_is_record : FnScope ["thing", "number"] ["thing"] (defScope s_is_record) := ⟨rfl, rfl, rfl, by decide +kernel, rfl, by decide +kernel, by decide +kernel⟩
theorem sc_is_row : FnScope ["thing"] ["thing"] (defScope s_is_row) := ⟨rfl, rfl, rfl, by decide +kernel, rfl, by decide +kernel, by decide +kernel⟩
theorem sc_are_rows : FnScope ["thing", "row", "k"] ["thing"] (defScope s_are_rows) := ⟨rfl, rfl, rfl, by decide +kernel, rfl, by decide +kernel, by decide +kernel⟩
theorem sc_is_event : FnScope ["thing"] ["thing"] (defScope s_is_event) := ⟨rfl, rfl, rfl, by decide +kernel, rfl, by decide +kernel, by decide +kernel⟩
theorem sc_mirrored : FnScope ["rows", "events", "event", "records"] ["rows", "events"] (defScope s_mirrored) := ⟨rfl, rfl, rfl, by decide +kernel, rfl, by decide +kernel, by decide +kernel⟩
theorem sc_is_condition : FnScope ["thing", "deep"] ["thing", "deep"] (defScope s_is_condition) := ⟨rfl, rfl, rfl, by decide +kernel, rfl, by decide +kernel, by decide +kernel⟩
theorem sc_are_conditions : FnScope ["thing", "one"] ["thing"] (defScope s_are_conditions) := ⟨rfl, rfl, rfl, by decide +kernel, rfl, by decide +kernel, by decide +kernel⟩
theorem sc_holds : FnScope ["condition", "records", "value", "made", "changed", "version", "lease"] ["condition", "records"] (defScope s_holds) := ⟨rfl, rfl, rfl, by decide +kernel, rfl, by decide +kernel, by decide +kernel⟩
theorem sc_is_deed : FnScope ["thing"] ["thing"] (defScope s_is_deed) := ⟨rfl, rfl, rfl, by decide +kernel, rfl, by decide +kernel, by decide +kernel⟩
theorem sc_are_deeds : FnScope ["thing", "deed"] ["thing"] (defScope s_are_deeds) := ⟨rfl, rfl, rfl, by decide +kernel, rfl, by decide +kernel, by decide +kernel⟩
theorem sc_h_init : FnScope ["self"] ["self"] (defScope s_h_init) := ⟨rfl, rfl, rfl, by decide +kernel, rfl, by decide +kernel, by decide +kernel⟩
theorem sc_h_write : FnScope ["self", "deeds", "real", "deed", "event"] ["self", "deeds"] (defScope s_h_write) := ⟨rfl, rfl, rfl, by decide +kernel, rfl, by decide +kernel, by decide +kernel⟩
theorem sc_h_put : FnScope ["self", "key", "value", "lease"] ["self", "key", "value", "lease"] (defScope s_h_put) := ⟨rfl, rfl, rfl, by decide +kernel, rfl, by decide +kernel, by decide +kernel⟩
theorem sc_h_drop : FnScope ["self", "key"] ["self", "key"] (defScope s_h_drop) := ⟨rfl, rfl, rfl, by decide +kernel, rfl, by decide +kernel, by decide +kernel⟩
theorem sc_h_deal : FnScope ["self", "conditions", "then", "other", "deed", "good", "condition"] ["self", "conditions", "then", "other"] (defScope s_h_deal) := ⟨rfl, rfl, rfl, by decide +kernel, rfl, by decide +kernel, by decide +kernel⟩
theorem sc_h_number : FnScope ["self"] ["self"] (defScope s_h_number) := ⟨rfl, rfl, rfl, by decide +kernel, rfl, by decide +kernel, by decide +kernel⟩
theorem sc_h_records_at : FnScope ["self", "number", "made", "event"] ["self", "number"] (defScope s_h_records_at) := ⟨rfl, rfl, rfl, by decide +kernel, rfl, by decide +kernel, by decide +kernel⟩
theorem sc_h_records_when : FnScope ["self", "number"] ["self", "number"] (defScope s_h_records_when) := ⟨rfl, rfl, rfl, by decide +kernel, rfl, by decide +kernel, by decide +kernel⟩
theorem sc_h_rows : FnScope ["self", "first", "last", "number", "row"] ["self", "first", "last", "number"] (defScope s_h_rows) := ⟨rfl, rfl, rfl, by decide +kernel, rfl, by decide +kernel, by decide +kernel⟩
theorem sc_h_since : FnScope ["self", "first", "last", "number", "event"] ["self", "first", "last", "number"] (defScope s_h_since) := ⟨rfl, rfl, rfl, by decide +kernel, rfl, by decide +kernel, by decide +kernel⟩
theorem sc_h_changes : FnScope ["self", "first", "last", "number"] ["self", "first", "last", "number"] (defScope s_h_changes) := ⟨rfl, rfl, rfl, by decide +kernel, rfl, by decide +kernel, by decide +kernel⟩
theorem sc_h_need_lease : FnScope ["self", "lease"] ["self", "lease"] (defScope s_h_need_lease) := ⟨rfl, rfl, rfl, by decide +kernel, rfl, by decide +kernel, by decide +kernel⟩
theorem sc_h_need_term : FnScope ["self", "term"] ["self", "term"] (defScope s_h_need_term) := ⟨rfl, rfl, rfl, by decide +kernel, rfl, by decide +kernel, by decide +kernel⟩
theorem sc_h_grant : FnScope ["self", "term"] ["self", "term"] (defScope s_h_grant) := ⟨rfl, rfl, rfl, by decide +kernel, rfl, by decide +kernel, by decide +kernel⟩
theorem sc_h_renew : FnScope ["self", "lease"] ["self", "lease"] (defScope s_h_renew) := ⟨rfl, rfl, rfl, by decide +kernel, rfl, by decide +kernel, by decide +kernel⟩
theorem sc_h_keys_of : FnScope ["self", "lease", "key"] ["self", "lease"] (defScope s_h_keys_of) := ⟨rfl, rfl, rfl, by decide +kernel, rfl, by decide +kernel, by decide +kernel⟩
theorem sc_h_end : FnScope ["self", "lease", "key"] ["self", "lease"] (defScope s_h_end) := ⟨rfl, rfl, rfl, by decide +kernel, rfl, by decide +kernel, by decide +kernel⟩
theorem sc_h_give_back : FnScope ["self", "lease"] ["self", "lease"] (defScope s_h_give_back) := ⟨rfl, rfl, rfl, by decide +kernel, rfl, by decide +kernel, by decide +kernel⟩
theorem sc_h_wait : FnScope ["self", "many", "goal", "due", "lease", "when"] ["self", "many"] (defScope s_h_wait) := ⟨rfl, rfl, rfl, by decide +kernel, rfl, by decide +kernel, by decide +kernel⟩
theorem sc_h_leases : FnScope ["self"] ["self"] (defScope s_h_leases) := ⟨rfl, rfl, rfl, by decide +kernel, rfl, by decide +kernel, by decide +kernel⟩
theorem sc_l_cell_at : FnScope ["script", "k"] ["script", "k"] (defScope s_l_cell_at) := ⟨rfl, rfl, rfl, by decide +kernel, rfl, by decide +kernel, by decide +kernel⟩
theorem sc_l_mixed : FnScope ["script", "k", "many", "drawn"] ["script", "k", "many"] (defScope s_l_mixed) := ⟨rfl, rfl, rfl, by decide +kernel, rfl, by decide +kernel, by decide +kernel⟩
theorem sc_l_key : FnScope ["script", "at", "signs", "made", "k"] ["script", "at"] (defScope s_l_key) := ⟨rfl, rfl, rfl, by decide +kernel, rfl, by decide +kernel, by decide +kernel⟩
theorem sc_l_keys : FnScope ["script", "at", "made", "k", "here", "last", "way", "place"] ["script", "at"] (defScope s_l_keys) := ⟨rfl, rfl, rfl, by decide +kernel, rfl, by decide +kernel, by decide +kernel⟩
theorem sc_l_span : FnScope ["script", "at", "keys", "ends"] ["script", "at", "keys"] (defScope s_l_span) := ⟨rfl, rfl, rfl, by decide +kernel, rfl, by decide +kernel, by decide +kernel⟩
theorem sc_l_lease : FnScope ["script", "at", "leases"] ["script", "at", "leases"] (defScope s_l_lease) := ⟨rfl, rfl, rfl, by decide +kernel, rfl, by decide +kernel, by decide +kernel⟩
theorem sc_l_one_deed : FnScope ["script", "at", "key", "leases", "value"] ["script", "at", "key", "leases"] (defScope s_l_one_deed) := ⟨rfl, rfl, rfl, by decide +kernel, rfl, by decide +kernel, by decide +kernel⟩
theorem sc_l_condition : FnScope ["script", "at", "keys", "number", "kind", "key"] ["script", "at", "keys", "number"] (defScope s_l_condition) := ⟨rfl, rfl, rfl, by decide +kernel, rfl, by decide +kernel, by decide +kernel⟩
theorem sc_l_deal_deeds : FnScope ["script", "at", "keys", "leases", "turn", "names", "key", "some", "k"] ["script", "at", "keys", "leases"] (defScope s_l_deal_deeds) := ⟨rfl, rfl, rfl, by decide +kernel, rfl, by decide +kernel, by decide +kernel⟩
theorem sc_l_deed : FnScope ["script", "at", "keys", "leases", "number", "kind", "deed", "some", "k", "then", "terms", "lease"] ["script", "at", "keys", "leases", "number"] (defScope s_l_deed) := ⟨rfl, rfl, rfl, by decide +kernel, rfl, by decide +kernel, by decide +kernel⟩
theorem sc_l_do : FnScope ["house", "deed", "word"] ["house", "deed"] (defScope s_l_do) := ⟨rfl, rfl, rfl, by decide +kernel, rfl, by decide +kernel, by decide +kernel⟩
theorem sc_l_drive : FnScope ["script", "at", "house", "keys", "many", "rows", "k", "deed"] ["script", "at", "house", "keys", "many"] (defScope s_l_drive) := ⟨rfl, rfl, rfl, by decide +kernel, rfl, by decide +kernel, by decide +kernel⟩
theorem sc_law : FnScope ["script", "keys", "house", "ends", "first", "last", "events", "event"] ["script"] (defScope s_law) := ⟨rfl, rfl, rfl, by decide +kernel, rfl, by decide +kernel, by decide +kernel⟩
section
variable {P : Program} {w : World} {K : PySem.W.Frag} {mg : Str → Option Value} {base : Heap}
theorem ok_is_key (B : Bi mg) (n_SIGNS : ∃ t, mg "SIGNS" = some (.str "abcdefghijklmnopqrstuvwxyz0123456789/" t)) (n_LONGEST : ∃ t, mg "LONGEST" = some (.int 12 t)) {f : Addr} {fd : FuncData} (F : FunD K "is_key" "is_key" (defArgs s_is_key) (defBody s_is_key) (defScope s_is_key) [] [] f fd) : FnOk P w K mg base CX0 1 f fd ["thing"] (sp_is_key K) := by
  refine FunD.ok (CX := CX0) (k := 0) F sc_is_key (by
    intro vs H Q E h
    first
      | (obtain ⟨_, rfl, _⟩ := h; rfl)
      | (obtain ⟨_, _, rfl, _⟩ := h; rfl)
      | (obtain ⟨_, _, _, rfl, _⟩ := h; rfl)
      | (obtain ⟨_, _, _, _, rfl, _⟩ := h; rfl)
      | (obtain ⟨_, _, _, _, _, rfl, _⟩ := h; rfl)
      | (obtain ⟨_, _, _, _, _, _, rfl, _⟩ := h; rfl)
      | (obtain ⟨_, _, _, _, _, _, _, rfl, _⟩ := h; rfl)
      | (obtain ⟨_, _, _, _, _, _, _, _, rfl, _⟩ := h; rfl)
      | (obtain ⟨_, _, _, _, _, _, _, _, _, rfl, _⟩ := h; rfl)
      | (obtain ⟨_, _, _, _, _, _, _, _, _, _, rfl, _⟩ := h; rfl)
      | (obtain ⟨_, _, _, _, _, _, _, _, _, _, _, rfl, _⟩ := h; rfl)) (fun cdv A outer s H vs Q E hr h => ⟨t_is_key K, PSs.nox ?_, pure_is_key h⟩)
  exact (pss_one (ps_ret (pe_and (pe_callB call_isi (by rfl) B.isinstance (by decide +kernel) (pa_cons (pv 0) (pa_cons (pe_bltn (v := .ty "str") (by rfl) B.str (by decide +kernel) rfl) pa_nil))) (pe_and (pe_chain op_le op_le pe_int (pe_callB call_len_str1 (by rfl) B.len (by decide +kernel) (pa_cons (pv 0) pa_nil)) (pe_gi n_LONGEST (by rfl))) (pe_one (pe_callB (cr_all rfl) (by rfl) B.all (by decide +kernel) (pa_cons (pe_lc (own := [("sign", 1)]) (g := (gName 1)) (tt := tYes) rfl sc_is_key.nd (pi_str (pv 0)) (blkOk_by (own := [("sign", 1)]) (N := ["thing", "sign"]) (sc := defScope s_is_key) (by decide +kernel)) (fun _ _ _ _ _ => (pg_name (i := 1) sc_is_key.nd rfl (by first | exact Or.inl rfl | exact Or.inr rfl))) (fun _ _ _ _ _ => pts_nil) (fun _ _ _ _ _ => (pe_cmpR op_inS (pv 1) (pe_gs n_SIGNS (by rfl)) rfl))) pa_nil)))))))
theorem ok_is_whole (B : Bi mg) {f : Addr} {fd : FuncData} (F : FunD K "is_whole" "is_whole" (defArgs s_is_whole) (defBody s_is_whole) (defScope s_is_whole) [] [] f fd) : FnOk P w K mg base CX0 1 f fd ["thing", "low"] (sp_is_whole K) := by
  refine FunD.ok (CX := CX0) (k := 0) F sc_is_whole (by
    intro vs H Q E h
    first
      | (obtain ⟨_, rfl, _⟩ := h; rfl)
      | (obtain ⟨_, _, rfl, _⟩ := h; rfl)
      | (obtain ⟨_, _, _, rfl, _⟩ := h; rfl)
      | (obtain ⟨_, _, _, _, rfl, _⟩ := h; rfl)
      | (obtain ⟨_, _, _, _, _, rfl, _⟩ := h; rfl)
      | (obtain ⟨_, _, _, _, _, _, rfl, _⟩ := h; rfl)
      | (obtain ⟨_, _, _, _, _, _, _, rfl, _⟩ := h; rfl)
      | (obtain ⟨_, _, _, _, _, _, _, _, rfl, _⟩ := h; rfl)
      | (obtain ⟨_, _, _, _, _, _, _, _, _, rfl, _⟩ := h; rfl)
      | (obtain ⟨_, _, _, _, _, _, _, _, _, _, rfl, _⟩ := h; rfl)
      | (obtain ⟨_, _, _, _, _, _, _, _, _, _, _, rfl, _⟩ := h; rfl)) (fun cdv A outer s H vs Q E hr h => ⟨t_is_whole K, PSs.nox ?_, pure_is_whole h⟩)
  exact (pss_one (ps_ret (pe_and (pe_callB call_isi (by rfl) B.isinstance (by decide +kernel) (pa_cons (pv 0) (pa_cons (pe_bltn (v := .ty "int") (by rfl) B.int (by decide +kernel) rfl) pa_nil))) (pe_and (pe_not (pe_callB call_isi (by rfl) B.isinstance (by decide +kernel) (pa_cons (pv 0) (pa_cons (pe_bltn (v := .ty "bool") (by rfl) B.bool (by decide +kernel) rfl) pa_nil)))) (pe_one (pe_cmpR op_le (pv 1) (pv 0) (nomark _)))))))
theorem ok_is_value (n_MOST : ∃ t, mg "MOST" = some (.int 9999 t)) (c_is_whole : CFn P w K mg base CX0 1 "is_whole" ["thing", "low"] (sp_is_whole K)) {f : Addr} {fd : FuncData} (F : FunD K "is_value" "is_value" (defArgs s_is_value) (defBody s_is_value) (defScope s_is_value) [] [] f fd) : FnOk P w K mg base CX0 2 f fd ["thing"] (sp_is_value K) := by
  refine FunD.ok (CX := CX0) (k := 1) F sc_is_value (by
    intro vs H Q E h
    first
      | (obtain ⟨_, rfl, _⟩ := h; rfl)
      | (obtain ⟨_, _, rfl, _⟩ := h; rfl)
      | (obtain ⟨_, _, _, rfl, _⟩ := h; rfl)
      | (obtain ⟨_, _, _, _, rfl, _⟩ := h; rfl)
      | (obtain ⟨_, _, _, _, _, rfl, _⟩ := h; rfl)
      | (obtain ⟨_, _, _, _, _, _, rfl, _⟩ := h; rfl)
      | (obtain ⟨_, _, _, _, _, _, _, rfl, _⟩ := h; rfl)
      | (obtain ⟨_, _, _, _, _, _, _, _, rfl, _⟩ := h; rfl)
      | (obtain ⟨_, _, _, _, _, _, _, _, _, rfl, _⟩ := h; rfl)
      | (obtain ⟨_, _, _, _, _, _, _, _, _, _, rfl, _⟩ := h; rfl)
      | (obtain ⟨_, _, _, _, _, _, _, _, _, _, _, rfl, _⟩ := h; rfl)) (fun cdv A outer s H vs Q E hr h => ⟨t_is_value K, PSs.nox ?_, pure_is_value h⟩)
  exact (pss_one (ps_ret (pe_and (pe_cf c_is_whole (hr.mono (by decide)) (by rfl) pass0 (pa_cons (pv 0) (pa_cons pe_int pa_nil))) (pe_one (pe_cmpR op_le (pv 0) (pe_gi n_MOST (by rfl)) (nomark _))))))
theorem ok_need_key (x_NoKey : XcOk K mg "NoKey") (c_is_key : CFn P w K mg base CX0 1 "is_key" ["thing"] (sp_is_key K)) {f : Addr} {fd : FuncData} (F : FunD K "need_key" "need_key" (defArgs s_need_key) (defBody s_need_key) (defScope s_need_key) [] [] f fd) : FnOk P w K mg base (L2.CX P w) 2 f fd ["key"] (sp_need_key K) := by
  refine FunD.ok (CX := (L2.CX P w)) (k := 1) F sc_need_key (by
    intro vs H Q E h
    first
      | (obtain ⟨_, rfl, _⟩ := h; rfl)
      | (obtain ⟨_, _, rfl, _⟩ := h; rfl)
      | (obtain ⟨_, _, _, rfl, _⟩ := h; rfl)
      | (obtain ⟨_, _, _, _, rfl, _⟩ := h; rfl)
      | (obtain ⟨_, _, _, _, _, rfl, _⟩ := h; rfl)
      | (obtain ⟨_, _, _, _, _, _, rfl, _⟩ := h; rfl)
      | (obtain ⟨_, _, _, _, _, _, _, rfl, _⟩ := h; rfl)
      | (obtain ⟨_, _, _, _, _, _, _, _, rfl, _⟩ := h; rfl)
      | (obtain ⟨_, _, _, _, _, _, _, _, _, rfl, _⟩ := h; rfl)
      | (obtain ⟨_, _, _, _, _, _, _, _, _, _, rfl, _⟩ := h; rfl)
      | (obtain ⟨_, _, _, _, _, _, _, _, _, _, _, rfl, _⟩ := h; rfl)) (fun cdv A outer s H vs Q E hr h => ⟨t_need_key K E, ?_, pure_need_key h⟩)
  exact (pss_one (ps_if (pt_not (pt_val (pe_cf c_is_key (hr.mono (by decide)) (by rfl) pass0 (pa_cons (pv 0) pa_nil)))) (pss_one (ps_raise rfl (takes_of rfl rfl rfl rfl) (x_NoKey.pmk (by rfl)))) pss_nil))
theorem ok_need_value (x_NoValue : XcOk K mg "NoValue") (c_is_value : CFn P w K mg base CX0 2 "is_value" ["thing"] (sp_is_value K)) {f : Addr} {fd : FuncData} (F : FunD K "need_value" "need_value" (defArgs s_need_value) (defBody s_need_value) (defScope s_need_value) [] [] f fd) : FnOk P w K mg base (L2.CX P w) 3 f fd ["value"] (sp_need_value K) := by
  refine FunD.ok (CX := (L2.CX P w)) (k := 2) F sc_need_value (by
    intro vs H Q E h
    first
      | (obtain ⟨_, rfl, _⟩ := h; rfl)
      | (obtain ⟨_, _, rfl, _⟩ := h; rfl)
      | (obtain ⟨_, _, _, rfl, _⟩ := h; rfl)
      | (obtain ⟨_, _, _, _, rfl, _⟩ := h; rfl)
      | (obtain ⟨_, _, _, _, _, rfl, _⟩ := h; rfl)
      | (obtain ⟨_, _, _, _, _, _, rfl, _⟩ := h; rfl)
      | (obtain ⟨_, _, _, _, _, _, _, rfl, _⟩ := h; rfl)
      | (obtain ⟨_, _, _, _, _, _, _, _, rfl, _⟩ := h; rfl)
      | (obtain ⟨_, _, _, _, _, _, _, _, _, rfl, _⟩ := h; rfl)
      | (obtain ⟨_, _, _, _, _, _, _, _, _, _, rfl, _⟩ := h; rfl)
      | (obtain ⟨_, _, _, _, _, _, _, _, _, _, _, rfl, _⟩ := h; rfl)) (fun cdv A outer s H vs Q E hr h => ⟨t_need_value K E, ?_, pure_need_value h⟩)
  exact (pss_one (ps_if (pt_not (pt_val (pe_cf c_is_value (hr.mono (by decide)) (by rfl) pass0 (pa_cons (pv 0) pa_nil)))) (pss_one (ps_raise rfl (takes_of rfl rfl rfl rfl) (x_NoValue.pmk (by rfl)))) pss_nil))
theorem ok_need_whole (x_NoNumber : XcOk K mg "NoNumber") (c_is_whole : CFn P w K mg base CX0 1 "is_whole" ["thing", "low"] (sp_is_whole K)) {f : Addr} {fd : FuncData} (F : FunD K "need_whole" "need_whole" (defArgs s_need_whole) (defBody s_need_whole) (defScope s_need_whole) [] [] f fd) : FnOk P w K mg base (L2.CX P w) 2 f fd ["number", "low"] (sp_need_whole K) := by
  refine FunD.ok (CX := (L2.CX P w)) (k := 1) F sc_need_whole (by
    intro vs H Q E h
    first
      | (obtain ⟨_, rfl, _⟩ := h; rfl)
      | (obtain ⟨_, _, rfl, _⟩ := h; rfl)
      | (obtain ⟨_, _, _, rfl, _⟩ := h; rfl)
      | (obtain ⟨_, _, _, _, rfl, _⟩ := h; rfl)
      | (obtain ⟨_, _, _, _, _, rfl, _⟩ := h; rfl)
      | (obtain ⟨_, _, _, _, _, _, rfl, _⟩ := h; rfl)
      | (obtain ⟨_, _, _, _, _, _, _, rfl, _⟩ := h; rfl)
      | (obtain ⟨_, _, _, _, _, _, _, _, rfl, _⟩ := h; rfl)
      | (obtain ⟨_, _, _, _, _, _, _, _, _, rfl, _⟩ := h; rfl)
      | (obtain ⟨_, _, _, _, _, _, _, _, _, _, rfl, _⟩ := h; rfl)
      | (obtain ⟨_, _, _, _, _, _, _, _, _, _, _, rfl, _⟩ := h; rfl)) (fun cdv A outer s H vs Q E hr h => ⟨t_need_whole K E, ?_, pure_need_whole h⟩)
  exact (pss_one (ps_if (pt_not (pt_val (pe_cf c_is_whole (hr.mono (by decide)) (by rfl) pass0 (pa_cons (pv 0) (pa_cons (pv 1) pa_nil))))) (pss_one (ps_raise rfl (takes_of rfl rfl rfl rfl) (x_NoNumber.pmk (by rfl)))) pss_nil))
theorem ok_is_within {f : Addr} {fd : FuncData} (F : FunD K "is_within" "is_within" (defArgs s_is_within) (defBody s_is_within) (defScope s_is_within) [] [] f fd) : FnOk P w K mg base CX0 1 f fd ["key", "first", "last"] (sp_is_within K) := by
  refine FunD.ok (CX := CX0) (k := 0) F sc_is_within (by
    intro vs H Q E h
    first
      | (obtain ⟨_, rfl, _⟩ := h; rfl)
      | (obtain ⟨_, _, rfl, _⟩ := h; rfl)
      | (obtain ⟨_, _, _, rfl, _⟩ := h; rfl)
      | (obtain ⟨_, _, _, _, rfl, _⟩ := h; rfl)
      | (obtain ⟨_, _, _, _, _, rfl, _⟩ := h; rfl)
      | (obtain ⟨_, _, _, _, _, _, rfl, _⟩ := h; rfl)
      | (obtain ⟨_, _, _, _, _, _, _, rfl, _⟩ := h; rfl)
      | (obtain ⟨_, _, _, _, _, _, _, _, rfl, _⟩ := h; rfl)
      | (obtain ⟨_, _, _, _, _, _, _, _, _, rfl, _⟩ := h; rfl)
      | (obtain ⟨_, _, _, _, _, _, _, _, _, _, rfl, _⟩ := h; rfl)
      | (obtain ⟨_, _, _, _, _, _, _, _, _, _, _, rfl, _⟩ := h; rfl)) (fun cdv A outer s H vs Q E hr h => ⟨t_is_within K, PSs.nox ?_, pure_is_within h⟩)
  exact (pss_one (ps_ret (pe_chain op_leS op_leS (pv 1) (pv 0) (pv 2))))
theorem ok_change {f : Addr} {fd : FuncData} (F : FunD K "change" "change" (defArgs s_change) (defBody s_change) (defScope s_change) [] [] f fd) : FnOk P w K mg base CX0 1 f fd ["records", "event"] (sp_change K) := by
  refine FunD.ok (CX := CX0) (k := 0) F sc_change (by
    intro vs H Q E h
    first
      | (obtain ⟨_, rfl, _⟩ := h; rfl)
      | (obtain ⟨_, _, rfl, _⟩ := h; rfl)
      | (obtain ⟨_, _, _, rfl, _⟩ := h; rfl)
      | (obtain ⟨_, _, _, _, rfl, _⟩ := h; rfl)
      | (obtain ⟨_, _, _, _, _, rfl, _⟩ := h; rfl)
      | (obtain ⟨_, _, _, _, _, _, rfl, _⟩ := h; rfl)
      | (obtain ⟨_, _, _, _, _, _, _, rfl, _⟩ := h; rfl)
      | (obtain ⟨_, _, _, _, _, _, _, _, rfl, _⟩ := h; rfl)
      | (obtain ⟨_, _, _, _, _, _, _, _, _, rfl, _⟩ := h; rfl)
      | (obtain ⟨_, _, _, _, _, _, _, _, _, _, rfl, _⟩ := h; rfl)
      | (obtain ⟨_, _, _, _, _, _, _, _, _, _, _, rfl, _⟩ := h; rfl)) (fun cdv A outer s H vs Q E hr h => ⟨t_change K, PSs.nox ?_, pure_change h⟩)
  exact (pss_cons (ps_asg (pv 1) (pg_tup rfl (pgs_cons (pg_name (i := 2) sc_change.nd rfl (by first | exact Or.inl rfl | exact Or.inr rfl)) (pgs_cons (pg_name (i := 3) sc_change.nd rfl (by first | exact Or.inl rfl | exact Or.inr rfl)) (pgs_cons (pg_name (i := 4) sc_change.nd rfl (by first | exact Or.inl rfl | exact Or.inr rfl)) (pgs_cons (pg_name (i := 5) sc_change.nd rfl (by first | exact Or.inl rfl | exact Or.inr rfl)) (pgs_cons (pg_name (i := 6) sc_change.nd rfl (by first | exact Or.inl rfl | exact Or.inr rfl)) pgs_nil)))))))
  (pss_one (ps_if (pt_cmpR op_eq (pv 3) pe_str (nomark _)) (pss_one (ps_expr (pe_dpop1 (pv 0) (pv 4) (by constructor <;> rfl)))) (pss_one (ps_if (pt_cmp (pc_din (hu_of hr) (pv 4) (pv 0))) (pss_one (ps_dput (hu_of hr) (pv 0) (pv 4) (pe_tup (pa_cons (pv 5) (pa_cons (pe_ix ix_tup (pe_dget (hu_of hr) (pv 0) (pv 4) (fun _ _ => rfl)) pe_int (fun _ _ => rfl)) (pa_cons (pv 2) (pa_cons (pe_op op_add (pe_ix ix_tup (pe_dget (hu_of hr) (pv 0) (pv 4) (fun _ _ => rfl)) pe_int (fun _ _ => rfl)) pe_int) (pa_cons (pv 6) pa_nil)))))) rfl)) (pss_one (ps_dput (hu_of hr) (pv 0) (pv 4) (pe_tup (pa_cons (pv 5) (pa_cons (pv 2) (pa_cons (pv 2) (pa_cons pe_int (pa_cons (pv 6) pa_nil)))))) rfl)))))))
theorem ok_in_rows (B : Bi mg) {f : Addr} {fd : FuncData} (F : FunD K "in_rows" "in_rows" (defArgs s_in_rows) (defBody s_in_rows) (defScope s_in_rows) [] [] f fd) : FnOk P w K mg base CX0 1 f fd ["records"] (sp_in_rows K) := by
  refine FunD.ok (CX := CX0) (k := 0) F sc_in_rows (by
    intro vs H Q E h
    first
      | (obtain ⟨_, rfl, _⟩ := h; rfl)
      | (obtain ⟨_, _, rfl, _⟩ := h; rfl)
      | (obtain ⟨_, _, _, rfl, _⟩ := h; rfl)
      | (obtain ⟨_, _, _, _, rfl, _⟩ := h; rfl)
      | (obtain ⟨_, _, _, _, _, rfl, _⟩ := h; rfl)
      | (obtain ⟨_, _, _, _, _, _, rfl, _⟩ := h; rfl)
      | (obtain ⟨_, _, _, _, _, _, _, rfl, _⟩ := h; rfl)
      | (obtain ⟨_, _, _, _, _, _, _, _, rfl, _⟩ := h; rfl)
      | (obtain ⟨_, _, _, _, _, _, _, _, _, rfl, _⟩ := h; rfl)
      | (obtain ⟨_, _, _, _, _, _, _, _, _, _, rfl, _⟩ := h; rfl)
      | (obtain ⟨_, _, _, _, _, _, _, _, _, _, _, rfl, _⟩ := h; rfl)) (fun cdv A outer s H vs Q E hr h => ⟨t_in_rows K, PSs.nox ?_, pure_in_rows h⟩)
  exact (pss_one (ps_ret (pe_lc (own := [("key", 1)]) (g := (gName 1)) (tt := tYes) rfl sc_in_rows.nd (pi_list (pe_callB cr_sortedS (by rfl) B.sorted (by decide +kernel) (pa_cons (pe_callTy (call_list_dK rfl) (by rfl) B.list (by decide +kernel) (pa_cons (pv 0) pa_nil)) pa_nil))) (blkOk_by (own := [("key", 1)]) (N := ["records", "key"]) (sc := defScope s_in_rows) (by decide +kernel)) (fun _ _ _ _ _ => (pg_name (i := 1) sc_in_rows.nd rfl (by first | exact Or.inl rfl | exact Or.inr rfl))) (fun _ _ _ _ _ => pts_nil) (fun _ _ _ _ _ => (pe_tup (pa_cons (pv 1) (pa_cons (pe_dget (hu_of hr) (pv 0) (pv 1) (fun _ _ => rfl)) pa_nil)))))))
theorem ok_is_lease (c_is_whole : CFn P w K mg base CX0 1 "is_whole" ["thing", "low"] (sp_is_whole K)) {f : Addr} {fd : FuncData} (F : FunD K "is_lease" "is_lease" (defArgs s_is_lease) (defBody s_is_lease) (defScope s_is_lease) [] [] f fd) : FnOk P w K mg base CX0 2 f fd ["thing"] (sp_is_lease K) := by
  refine FunD.ok (CX := CX0) (k := 1) F sc_is_lease (by
    intro vs H Q E h
    first
      | (obtain ⟨_, rfl, _⟩ := h; rfl)
      | (obtain ⟨_, _, rfl, _⟩ := h; rfl)
      | (obtain ⟨_, _, _, rfl, _⟩ := h; rfl)
      | (obtain ⟨_, _, _, _, rfl, _⟩ := h; rfl)
      | (obtain ⟨_, _, _, _, _, rfl, _⟩ := h; rfl)
      | (obtain ⟨_, _, _, _, _, _, rfl, _⟩ := h; rfl)
      | (obtain ⟨_, _, _, _, _, _, _, rfl, _⟩ := h; rfl)
      | (obtain ⟨_, _, _, _, _, _, _, _, rfl, _⟩ := h; rfl)
      | (obtain ⟨_, _, _, _, _, _, _, _, _, rfl, _⟩ := h; rfl)
      | (obtain ⟨_, _, _, _, _, _, _, _, _, _, rfl, _⟩ := h; rfl)
      | (obtain ⟨_, _, _, _, _, _, _, _, _, _, _, rfl, _⟩ := h; rfl)) (fun cdv A outer s H vs Q E hr h => ⟨t_is_lease K, PSs.nox ?_, pure_is_lease h⟩)
  exact (pss_one (ps_ret (pe_or (pe_cmpR op_isN1 (pv 0) pe_non (nomark _)) (pe_one (pe_cf c_is_whole (hr.mono (by decide)) (by rfl) pass0 (pa_cons (pv 0) (pa_cons pe_int pa_nil)))))))
theorem ok_is_record (B : Bi mg) (c_is_value : CFn P w K mg base CX0 2 "is_value" ["thing"] (sp_is_value K)) (c_is_lease : CFn P w K mg base CX0 2 "is_lease" ["thing"] (sp_is_lease K)) (c_is_whole : CFn P w K mg base CX0 1 "is_whole" ["thing", "low"] (sp_is_whole K)) {f : Addr} {fd : FuncData} (F : FunD K "is_record" "is_record" (defArgs s_is_record) (defBody s_is_record) (defScope s_is_record) [] [] f fd) : FnOk P w K mg base CX0 3 f fd ["thing"] (sp_is_record K) := by
  refine FunD.ok (CX := CX0) (k := 2) F sc_is_record (by
    intro vs H Q E h
    first
      | (obtain ⟨_, rfl, _⟩ := h; rfl)
      | (obtain ⟨_, _, rfl, _⟩ := h; rfl)
      | (obtain ⟨_, _, _, rfl, _⟩ := h; rfl)
      | (obtain ⟨_, _, _, _, rfl, _⟩ := h; rfl)
      | (obtain ⟨_, _, _, _, _, rfl, _⟩ := h; rfl)
      | (obtain ⟨_, _, _, _, _, _, rfl, _⟩ := h; rfl)
      | (obtain ⟨_, _, _, _, _, _, _, rfl, _⟩ := h; rfl)
      | (obtain ⟨_, _, _, _, _, _, _, _, rfl, _⟩ := h; rfl)
      | (obtain ⟨_, _, _, _, _, _, _, _, _, rfl, _⟩ := h; rfl)
      | (obtain ⟨_, _, _, _, _, _, _, _, _, _, rfl, _⟩ := h; rfl)
      | (obtain ⟨_, _, _, _, _, _, _, _, _, _, _, rfl, _⟩ := h; rfl)) (fun cdv A outer s H vs Q E hr h => ⟨t_is_record K, PSs.nox ?_, pure_is_record h⟩)
  exact (pss_cons (ps_if (PW.pt (pw_or (pt_not (pt_val (pe_callB call_isi (by rfl) B.isinstance (by decide +kernel) (pa_cons (pv 0) (pa_cons (pe_bltn (v := .ty "tuple") (by rfl) B.tuple (by decide +kernel) rfl) pa_nil))))) (pw_or (pt_cmpR op_ne (pe_callB call_len_seq1 (by rfl) B.len (by decide +kernel) (pa_cons (pv 0) pa_nil)) pe_int (nomark _)) (pw_or (pt_not (pt_val (pe_cf c_is_value (hr.mono (by decide)) (by rfl) pass0 (pa_cons (pe_ix ix_tup (pv 0) pe_int (fun _ _ => rfl)) pa_nil)))) (pw_or1 (pt_not (pt_val (pe_cf c_is_lease (hr.mono (by decide)) (by rfl) pass0 (pa_cons (pe_ix ix_tup (pv 0) pe_int (fun _ _ => rfl)) pa_nil))))))))) (pss_one (ps_ret pe_bl)) pss_nil)
  (pss_one (ps_ret (pe_and (pe_callB (cr_all rfl) (by rfl) B.all (by decide +kernel) (pa_cons (pe_lc (own := [("number", 1)]) (g := (gName 1)) (tt := tYes) rfl sc_is_record.nd (pi_tup (pe_slice sl_tupA (pv 0) (po_some pe_int) (po_some pe_int))) (blkOk_by (own := [("number", 1)]) (N := ["thing", "number"]) (sc := defScope s_is_record) (by decide +kernel)) (fun _ _ _ _ _ => (pg_name (i := 1) sc_is_record.nd rfl (by first | exact Or.inl rfl | exact Or.inr rfl))) (fun _ _ _ _ _ => pts_nil) (fun _ _ _ _ _ => (pe_cf c_is_whole (hr.mono (by decide)) (by rfl) pass0 (pa_cons (pv 1) (pa_cons pe_int pa_nil))))) pa_nil)) (pe_one (pe_cmpR op_le (pe_ix ix_tup (pv 0) pe_int (fun _ _ => rfl)) (pe_ix ix_tup (pv 0) pe_int (fun _ _ => rfl)) (nomark _)))))))
theorem ok_is_row (B : Bi mg) (c_is_key : CFn P w K mg base CX0 1 "is_key" ["thing"] (sp_is_key K)) (c_is_record : CFn P w K mg base CX0 3 "is_record" ["thing"] (sp_is_record K)) {f : Addr} {fd : FuncData} (F : FunD K "is_row" "is_row" (defArgs s_is_row) (defBody s_is_row) (defScope s_is_row) [] [] f fd) : FnOk P w K mg base CX0 4 f fd ["thing"] (sp_is_row K) := by
  refine FunD.ok (CX := CX0) (k := 3) F sc_is_row (by
    intro vs H Q E h
    first
      | (obtain ⟨_, rfl, _⟩ := h; rfl)
      | (obtain ⟨_, _, rfl, _⟩ := h; rfl)
      | (obtain ⟨_, _, _, rfl, _⟩ := h; rfl)
      | (obtain ⟨_, _, _, _, rfl, _⟩ := h; rfl)
      | (obtain ⟨_, _, _, _, _, rfl, _⟩ := h; rfl)
      | (obtain ⟨_, _, _, _, _, _, rfl, _⟩ := h; rfl)
      | (obtain ⟨_, _, _, _, _, _, _, rfl, _⟩ := h; rfl)
      | (obtain ⟨_, _, _, _, _, _, _, _, rfl, _⟩ := h; rfl)
      | (obtain ⟨_, _, _, _, _, _, _, _, _, rfl, _⟩ := h; rfl)
      | (obtain ⟨_, _, _, _, _, _, _, _, _, _, rfl, _⟩ := h; rfl)
      | (obtain ⟨_, _, _, _, _, _, _, _, _, _, _, rfl, _⟩ := h; rfl)) (fun cdv A outer s H vs Q E hr h => ⟨t_is_row K, PSs.nox ?_, pure_is_row h⟩)
  exact (pss_one (ps_ret (pe_and (pe_callB call_isi (by rfl) B.isinstance (by decide +kernel) (pa_cons (pv 0) (pa_cons (pe_bltn (v := .ty "tuple") (by rfl) B.tuple (by decide +kernel) rfl) pa_nil))) (pe_and (pe_cmpR op_eq (pe_callB call_len_seq1 (by rfl) B.len (by decide +kernel) (pa_cons (pv 0) pa_nil)) pe_int (nomark _)) (pe_and (pe_cf c_is_key (hr.mono (by decide)) (by rfl) pass0 (pa_cons (pe_ix ix_tup (pv 0) pe_int (fun _ _ => rfl)) pa_nil)) (pe_one (pe_cf c_is_record (hr.mono (by decide)) (by rfl) pass0 (pa_cons (pe_ix ix_tup (pv 0) pe_int (fun _ _ => rfl)) pa_nil))))))))
theorem ok_are_rows (B : Bi mg) (c_is_row : CFn P w K mg base CX0 4 "is_row" ["thing"] (sp_is_row K)) {f : Addr} {fd : FuncData} (F : FunD K "are_rows" "are_rows" (defArgs s_are_rows) (defBody s_are_rows) (defScope s_are_rows) [] [] f fd) : FnOk P w K mg base CX0 5 f fd ["thing"] (sp_are_rows K) := by
  refine FunD.ok (CX := CX0) (k := 4) F sc_are_rows (by
    intro vs H Q E h
    first
      | (obtain ⟨_, rfl, _⟩ := h; rfl)
      | (obtain ⟨_, _, rfl, _⟩ := h; rfl)
      | (obtain ⟨_, _, _, rfl, _⟩ := h; rfl)
      | (obtain ⟨_, _, _, _, rfl, _⟩ := h; rfl)
      | (obtain ⟨_, _, _, _, _, rfl, _⟩ := h; rfl)
      | (obtain ⟨_, _, _, _, _, _, rfl, _⟩ := h; rfl)
      | (obtain ⟨_, _, _, _, _, _, _, rfl, _⟩ := h; rfl)
      | (obtain ⟨_, _, _, _, _, _, _, _, rfl, _⟩ := h; rfl)
      | (obtain ⟨_, _, _, _, _, _, _, _, _, rfl, _⟩ := h; rfl)
      | (obtain ⟨_, _, _, _, _, _, _, _, _, _, rfl, _⟩ := h; rfl)
      | (obtain ⟨_, _, _, _, _, _, _, _, _, _, _, rfl, _⟩ := h; rfl)) (fun cdv A outer s H vs Q E hr h => ⟨t_are_rows K, PSs.nox ?_, pure_are_rows h⟩)
  exact (pss_cons (ps_if (PW.pt (pw_or (pt_not (pt_val (pe_callB call_isi (by rfl) B.isinstance (by decide +kernel) (pa_cons (pv 0) (pa_cons (pe_bltn (v := .ty "list") (by rfl) B.list (by decide +kernel) rfl) pa_nil))))) (pw_or1 (pt_not (pt_val (pe_callB (cr_all rfl) (by rfl) B.all (by decide +kernel) (pa_cons (pe_lc (own := [("row", 1)]) (g := (gName 1)) (tt := tYes) rfl sc_are_rows.nd (pi_list (pv 0)) (blkOk_by (own := [("row", 1)]) (N := ["thing", "row", "k"]) (sc := defScope s_are_rows) (by decide +kernel)) (fun _ _ _ _ _ => (pg_name (i := 1) sc_are_rows.nd rfl (by first | exact Or.inl rfl | exact Or.inr rfl))) (fun _ _ _ _ _ => pts_nil) (fun _ _ _ _ _ => (pe_cf c_is_row (hr.mono (by decide)) (by rfl) pass0 (pa_cons (pv 1) pa_nil)))) pa_nil))))))) (pss_one (ps_ret pe_bl)) pss_nil)
  (pss_one (ps_ret (pe_callB (cr_all rfl) (by rfl) B.all (by decide +kernel) (pa_cons (pe_lc (own := [("k", 2)]) (g := (gName 2)) (tt := tYes) rfl sc_are_rows.nd (pi_range1 (by rfl) B.range (pa_cons (pe_op op_sub (pe_callB call_len_seq1 (by rfl) B.len (by decide +kernel) (pa_cons (pv 0) pa_nil)) pe_int) pa_nil)) (blkOk_by (own := [("k", 2)]) (N := ["thing", "row", "k"]) (sc := defScope s_are_rows) (by decide +kernel)) (fun _ _ _ _ _ => (pg_name (i := 2) sc_are_rows.nd rfl (by first | exact Or.inl rfl | exact Or.inr rfl))) (fun _ _ _ _ _ => pts_nil) (fun _ _ _ _ _ => (pe_cmpR op_ltS (pe_ix ix_tup (pe_ix ix_list (pv 0) (pv 2) (fun _ _ => rfl)) pe_int (fun _ _ => rfl)) (pe_ix ix_tup (pe_ix ix_list (pv 0) (pe_op op_add (pv 2) pe_int) (fun _ _ => rfl)) pe_int (fun _ _ => rfl)) (nomark _)))) pa_nil)))))
theorem ok_is_event (B : Bi mg) (c_is_whole : CFn P w K mg base CX0 1 "is_whole" ["thing", "low"] (sp_is_whole K)) (c_is_key : CFn P w K mg base CX0 1 "is_key" ["thing"] (sp_is_key K)) (c_is_value : CFn P w K mg base CX0 2 "is_value" ["thing"] (sp_is_value K)) (c_is_lease : CFn P w K mg base CX0 2 "is_lease" ["thing"] (sp_is_lease K)) {f : Addr} {fd : FuncData} (F : FunD K "is_event" "is_event" (defArgs s_is_event) (defBody s_is_event) (defScope s_is_event) [] [] f fd) : FnOk P w K mg base CX0 3 f fd ["thing"] (sp_is_event K) := by
  refine FunD.ok (CX := CX0) (k := 2) F sc_is_event (by
    intro vs H Q E h
    first
      | (obtain ⟨_, rfl, _⟩ := h; rfl)
      | (obtain ⟨_, _, rfl, _⟩ := h; rfl)
      | (obtain ⟨_, _, _, rfl, _⟩ := h; rfl)
      | (obtain ⟨_, _, _, _, rfl, _⟩ := h; rfl)
      | (obtain ⟨_, _, _, _, _, rfl, _⟩ := h; rfl)
      | (obtain ⟨_, _, _, _, _, _, rfl, _⟩ := h; rfl)
      | (obtain ⟨_, _, _, _, _, _, _, rfl, _⟩ := h; rfl)
      | (obtain ⟨_, _, _, _, _, _, _, _, rfl, _⟩ := h; rfl)
      | (obtain ⟨_, _, _, _, _, _, _, _, _, rfl, _⟩ := h; rfl)
      | (obtain ⟨_, _, _, _, _, _, _, _, _, _, rfl, _⟩ := h; rfl)
      | (obtain ⟨_, _, _, _, _, _, _, _, _, _, _, rfl, _⟩ := h; rfl)) (fun cdv A outer s H vs Q E hr h => ⟨t_is_event K, PSs.nox ?_, pure_is_event h⟩)
  exact (pss_cons (ps_if (PW.pt (pw_or (pt_not (pt_val (pe_callB call_isi (by rfl) B.isinstance (by decide +kernel) (pa_cons (pv 0) (pa_cons (pe_bltn (v := .ty "tuple") (by rfl) B.tuple (by decide +kernel) rfl) pa_nil))))) (pw_or (pt_cmpR op_ne (pe_callB call_len_seq1 (by rfl) B.len (by decide +kernel) (pa_cons (pv 0) pa_nil)) pe_int (nomark _)) (pw_or (pt_not (pt_val (pe_cf c_is_whole (hr.mono (by decide)) (by rfl) pass0 (pa_cons (pe_ix ix_tup (pv 0) pe_int (fun _ _ => rfl)) (pa_cons pe_int pa_nil))))) (pw_or1 (pt_not (pt_val (pe_cf c_is_key (hr.mono (by decide)) (by rfl) pass0 (pa_cons (pe_ix ix_tup (pv 0) pe_int (fun _ _ => rfl)) pa_nil))))))))) (pss_one (ps_ret pe_bl)) pss_nil)
  (pss_cons (ps_if (pt_cmpR op_eq (pe_ix ix_tup (pv 0) pe_int (fun _ _ => rfl)) pe_str (nomark _)) (pss_one (ps_ret (pe_and (pe_cmpR op_isN1 (pe_ix ix_tup (pv 0) pe_int (fun _ _ => rfl)) pe_non (nomark _)) (pe_one (pe_cmpR op_isN1 (pe_ix ix_tup (pv 0) pe_int (fun _ _ => rfl)) pe_non (nomark _)))))) pss_nil)
  (pss_one (ps_ret (pe_and (pe_cmpR op_eq (pe_ix ix_tup (pv 0) pe_int (fun _ _ => rfl)) pe_str (nomark _)) (pe_and (pe_cf c_is_value (hr.mono (by decide)) (by rfl) pass0 (pa_cons (pe_ix ix_tup (pv 0) pe_int (fun _ _ => rfl)) pa_nil)) (pe_one (pe_cf c_is_lease (hr.mono (by decide)) (by rfl) pass0 (pa_cons (pe_ix ix_tup (pv 0) pe_int (fun _ _ => rfl)) pa_nil)))))))))
theorem ok_mirrored (B : Bi mg) (x_NoRows : XcOk K mg "NoRows") (c_are_rows : CFn P w K mg base CX0 5 "are_rows" ["thing"] (sp_are_rows K)) (c_is_event : CFn P w K mg base CX0 3 "is_event" ["thing"] (sp_is_event K)) (c_change : CFn P w K mg base CX0 1 "change" ["records", "event"] (sp_change K)) (c_in_rows : CFn P w K mg base CX0 1 "in_rows" ["records"] (sp_in_rows K)) {f : Addr} {fd : FuncData} (F : FunD K "mirrored" "mirrored" (defArgs s_mirrored) (defBody s_mirrored) (defScope s_mirrored) [] [] f fd) : FnOk P w K mg base (L2.CX P w) 6 f fd ["rows", "events"] (sp_mirrored K) := by
  refine FunD.ok (CX := (L2.CX P w)) (k := 5) F sc_mirrored (by
    intro vs H Q E h
    rcases h with h | h
    · first | (obtain ⟨_, rfl, _⟩ := h; rfl) | (obtain ⟨_, _, rfl, _⟩ := h; rfl) | (obtain ⟨_, _, _, rfl, _⟩ := h; rfl) | (obtain ⟨_, _, _, _, rfl, _⟩ := h; rfl) | (obtain ⟨_, _, _, _, _, rfl, _⟩ := h; rfl) | (obtain ⟨_, _, _, _, _, _, rfl, _⟩ := h; rfl) | (obtain ⟨_, _, _, _, _, _, _, rfl, _⟩ := h; rfl) | (obtain ⟨_, _, _, _, _, _, _, _, rfl, _⟩ := h; rfl) | (obtain ⟨_, _, _, _, _, _, _, _, _, rfl, _⟩ := h; rfl) | (obtain ⟨_, _, _, _, _, _, _, _, _, _, rfl, _⟩ := h; rfl) | (obtain ⟨_, _, _, _, _, _, _, _, _, _, _, rfl, _⟩ := h; rfl)
    · first | (obtain ⟨_, rfl, _⟩ := h; rfl) | (obtain ⟨_, _, rfl, _⟩ := h; rfl) | (obtain ⟨_, _, _, rfl, _⟩ := h; rfl) | (obtain ⟨_, _, _, _, rfl, _⟩ := h; rfl) | (obtain ⟨_, _, _, _, _, rfl, _⟩ := h; rfl) | (obtain ⟨_, _, _, _, _, _, rfl, _⟩ := h; rfl) | (obtain ⟨_, _, _, _, _, _, _, rfl, _⟩ := h; rfl) | (obtain ⟨_, _, _, _, _, _, _, _, rfl, _⟩ := h; rfl) | (obtain ⟨_, _, _, _, _, _, _, _, _, rfl, _⟩ := h; rfl) | (obtain ⟨_, _, _, _, _, _, _, _, _, _, rfl, _⟩ := h; rfl) | (obtain ⟨_, _, _, _, _, _, _, _, _, _, _, rfl, _⟩ := h; rfl)) (fun cdv A outer s H vs Q E hr h => ⟨t_mirrored K E, ?_, pure_mirrored h⟩)
  exact (pss_cons (ps_if (PW.pt (pw_or (pt_not (pt_val (pe_cf c_are_rows (hr.mono (by decide)) (by rfl) pass0 (pa_cons (pv 0) pa_nil)))) (pw_or (pt_not (pt_val (pe_callB call_isi (by rfl) B.isinstance (by decide +kernel) (pa_cons (pv 1) (pa_cons (pe_bltn (v := .ty "list") (by rfl) B.list (by decide +kernel) rfl) pa_nil))))) (pw_or1 (pt_not (pt_val (pe_callB (cr_all rfl) (by rfl) B.all (by decide +kernel) (pa_cons (pe_lc (own := [("event", 2)]) (g := (gName 2)) (tt := tYes) rfl sc_mirrored.nd (pi_list (pv 1)) (blkOk_by (own := [("event", 2)]) (N := ["rows", "events", "event", "records"]) (sc := defScope s_mirrored) (by decide +kernel)) (fun _ _ _ _ _ => (pg_name (i := 2) sc_mirrored.nd rfl (by first | exact Or.inl rfl | exact Or.inr rfl))) (fun _ _ _ _ _ => pts_nil) (fun _ _ _ _ _ => (pe_cf c_is_event (hr.mono (by decide)) (by rfl) pass0 (pa_cons (pv 2) pa_nil)))) pa_nil)))))))) (pss_one (ps_raise rfl (takes_of rfl rfl rfl rfl) (x_NoRows.pmk (by rfl)))) pss_nil)
  (pss_cons (ps_set (i := 3) sc_mirrored.nd rfl (by first | exact Or.inl rfl | exact Or.inr rfl) (pe_callTy (call_dictP1 rfl) (by rfl) B.dict (by decide +kernel) (pa_cons (pv 0) pa_nil)))
  (pss_cons (ps_for (passes_of rfl) rfl (pi_list (pv 1)) (pg_name (i := 2) sc_mirrored.nd rfl (by first | exact Or.inl rfl | exact Or.inr rfl))
  (pss_cons (ps_if (PW.pt (pw_and (pt_cmpR op_eq (pe_ix ix_tup (pv 2) pe_int (fun _ _ => rfl)) pe_str (nomark _)) (pw_and1 (pt_cmp (pc_dnotin (hu_of hr) (pe_ix ix_tup (pv 2) pe_int (fun _ _ => rfl)) (pv 3)))))) (pss_one (ps_raise rfl (takes_of rfl rfl rfl rfl) (x_NoRows.pmk (by rfl)))) pss_nil)
  (pss_one (ps_expr (pe_cf c_change (hr.mono (by decide)) (by rfl) pass0 (pa_cons (pv 3) (pa_cons (pv 2) pa_nil)))))))
  (pss_one (ps_ret (pe_cf c_in_rows (hr.mono (by decide)) (by rfl) pass0 (pa_cons (pv 3) pa_nil)))))))
theorem ok_is_condition_1 (B : Bi mg) (c_is_key : CFn P w K mg base CX0 1 "is_key" ["thing"] (sp_is_key K)) (c_is_value : CFn P w K mg base CX0 2 "is_value" ["thing"] (sp_is_value K)) (c_is_whole : CFn P w K mg base CX0 1 "is_whole" ["thing", "low"] (sp_is_whole K)) (c_self : CFn P w K mg base CX0 3 "is_condition" ["thing", "deep"] (spr_is_condition K 0)) {f : Addr} {fd : FuncData} (F : FunD K "is_condition" "is_condition" (defArgs s_is_condition) (defBody s_is_condition) (defScope s_is_condition) [] [] f fd) : FnOk P w K mg base CX0 4 f fd ["thing", "deep"] (spr_is_condition K 1) := by
  refine FunD.ok (CX := CX0) (k := 3) F sc_is_condition (by
    intro vs H Q E h
    first
      | (obtain ⟨_, rfl, _⟩ := h; rfl)
      | (obtain ⟨_, _, rfl, _⟩ := h; rfl)
      | (obtain ⟨_, _, _, rfl, _⟩ := h; rfl)
      | (obtain ⟨_, _, _, _, rfl, _⟩ := h; rfl)
      | (obtain ⟨_, _, _, _, _, rfl, _⟩ := h; rfl)
      | (obtain ⟨_, _, _, _, _, _, rfl, _⟩ := h; rfl)
      | (obtain ⟨_, _, _, _, _, _, _, rfl, _⟩ := h; rfl)
      | (obtain ⟨_, _, _, _, _, _, _, _, rfl, _⟩ := h; rfl)
      | (obtain ⟨_, _, _, _, _, _, _, _, _, rfl, _⟩ := h; rfl)
      | (obtain ⟨_, _, _, _, _, _, _, _, _, _, rfl, _⟩ := h; rfl)
      | (obtain ⟨_, _, _, _, _, _, _, _, _, _, _, rfl, _⟩ := h; rfl)) (fun cdv A outer s H vs Q E hr h => ⟨t_is_condition K (spr_is_condition K 0), PSs.nox ?_, purer_is_condition h⟩)
  exact (pss_cons (ps_if (PW.pt (pw_or (pt_cmpR op_eq (pv 1) pe_int (nomark _)) (pw_or (pt_not (pt_val (pe_callB call_isi (by rfl) B.isinstance (by decide +kernel) (pa_cons (pv 0) (pa_cons (pe_bltn (v := .ty "tuple") (by rfl) B.tuple (by decide +kernel) rfl) pa_nil))))) (pw_or (pt_cmpR op_eq (pe_callB call_len_seq1 (by rfl) B.len (by decide +kernel) (pa_cons (pv 0) pa_nil)) pe_int (nomark _)) (pw_or1 (pt_not (pt_val (pe_callB call_isi (by rfl) B.isinstance (by decide +kernel) (pa_cons (pe_ix ix_tup (pv 0) pe_int (fun _ _ => rfl)) (pa_cons (pe_bltn (v := .ty "str") (by rfl) B.str (by decide +kernel) rfl) pa_nil)))))))))) (pss_one (ps_ret pe_bl)) pss_nil)
  (pss_cons (ps_if (pt_cmpR op_eq (pe_ix ix_tup (pv 0) pe_int (fun _ _ => rfl)) pe_str (nomark _)) (pss_one (ps_ret (pe_and (pe_cmpR op_eq (pe_callB call_len_seq1 (by rfl) B.len (by decide +kernel) (pa_cons (pv 0) pa_nil)) pe_int (nomark _)) (pe_one (pe_cf c_self (hr.mono (by decide)) (by rfl) pass0 (pa_cons (pe_ix ix_tup (pv 0) pe_int (fun _ _ => rfl)) (pa_cons (pe_op op_sub (pv 1) pe_int) pa_nil))))))) pss_nil)
  (pss_cons (ps_if (PW.pt (pw_or (pt_cmpR op_ne (pe_callB call_len_seq1 (by rfl) B.len (by decide +kernel) (pa_cons (pv 0) pa_nil)) pe_int (nomark _)) (pw_or1 (pt_not (pt_val (pe_cf c_is_key (hr.mono (by decide)) (by rfl) pass0 (pa_cons (pe_ix ix_tup (pv 0) pe_int (fun _ _ => rfl)) pa_nil))))))) (pss_one (ps_ret pe_bl)) pss_nil)
  (pss_cons (ps_if (pt_cmpR op_eq (pe_ix ix_tup (pv 0) pe_int (fun _ _ => rfl)) pe_str (nomark _)) (pss_one (ps_ret (pe_cf c_is_value (hr.mono (by decide)) (by rfl) pass0 (pa_cons (pe_ix ix_tup (pv 0) pe_int (fun _ _ => rfl)) pa_nil)))) pss_nil)
  (pss_one (ps_ret (pe_and (pe_cmpR op_in_seq (pe_ix ix_tup (pv 0) pe_int (fun _ _ => rfl)) (pe_tup (pa_cons pe_str (pa_cons pe_str (pa_cons pe_str pa_nil)))) rfl) (pe_one (pe_cf c_is_whole (hr.mono (by decide)) (by rfl) pass0 (pa_cons (pe_ix ix_tup (pv 0) pe_int (fun _ _ => rfl)) (pa_cons pe_int pa_nil)))))))))))
theorem ok_is_condition_2 (B : Bi mg) (c_is_key : CFn P w K mg base CX0 1 "is_key" ["thing"] (sp_is_key K)) (c_is_value : CFn P w K mg base CX0 2 "is_value" ["thing"] (sp_is_value K)) (c_is_whole : CFn P w K mg base CX0 1 "is_whole" ["thing", "low"] (sp_is_whole K)) (c_self : CFn P w K mg base CX0 4 "is_condition" ["thing", "deep"] (spr_is_condition K 1)) {f : Addr} {fd : FuncData} (F : FunD K "is_condition" "is_condition" (defArgs s_is_condition) (defBody s_is_condition) (defScope s_is_condition) [] [] f fd) : FnOk P w K mg base CX0 5 f fd ["thing", "deep"] (spr_is_condition K 2) := by
  refine FunD.ok (CX := CX0) (k := 4) F sc_is_condition (by
    intro vs H Q E h
    first
      | (obtain ⟨_, rfl, _⟩ := h; rfl)
      | (obtain ⟨_, _, rfl, _⟩ := h; rfl)
      | (obtain ⟨_, _, _, rfl, _⟩ := h; rfl)
      | (obtain ⟨_, _, _, _, rfl, _⟩ := h; rfl)
      | (obtain ⟨_, _, _, _, _, rfl, _⟩ := h; rfl)
      | (obtain ⟨_, _, _, _, _, _, rfl, _⟩ := h; rfl)
      | (obtain ⟨_, _, _, _, _, _, _, rfl, _⟩ := h; rfl)
      | (obtain ⟨_, _, _, _, _, _, _, _, rfl, _⟩ := h; rfl)
      | (obtain ⟨_, _, _, _, _, _, _, _, _, rfl, _⟩ := h; rfl)
      | (obtain ⟨_, _, _, _, _, _, _, _, _, _, rfl, _⟩ := h; rfl)
      | (obtain ⟨_, _, _, _, _, _, _, _, _, _, _, rfl, _⟩ := h; rfl)) (fun cdv A outer s H vs Q E hr h => ⟨t_is_condition K (spr_is_condition K 1), PSs.nox ?_, purer_is_condition h⟩)
  exact (pss_cons (ps_if (PW.pt (pw_or (pt_cmpR op_eq (pv 1) pe_int (nomark _)) (pw_or (pt_not (pt_val (pe_callB call_isi (by rfl) B.isinstance (by decide +kernel) (pa_cons (pv 0) (pa_cons (pe_bltn (v := .ty "tuple") (by rfl) B.tuple (by decide +kernel) rfl) pa_nil))))) (pw_or (pt_cmpR op_eq (pe_callB call_len_seq1 (by rfl) B.len (by decide +kernel) (pa_cons (pv 0) pa_nil)) pe_int (nomark _)) (pw_or1 (pt_not (pt_val (pe_callB call_isi (by rfl) B.isinstance (by decide +kernel) (pa_cons (pe_ix ix_tup (pv 0) pe_int (fun _ _ => rfl)) (pa_cons (pe_bltn (v := .ty "str") (by rfl) B.str (by decide +kernel) rfl) pa_nil)))))))))) (pss_one (ps_ret pe_bl)) pss_nil)
  (pss_cons (ps_if (pt_cmpR op_eq (pe_ix ix_tup (pv 0) pe_int (fun _ _ => rfl)) pe_str (nomark _)) (pss_one (ps_ret (pe_and (pe_cmpR op_eq (pe_callB call_len_seq1 (by rfl) B.len (by decide +kernel) (pa_cons (pv 0) pa_nil)) pe_int (nomark _)) (pe_one (pe_cf c_self (hr.mono (by decide)) (by rfl) pass0 (pa_cons (pe_ix ix_tup (pv 0) pe_int (fun _ _ => rfl)) (pa_cons (pe_op op_sub (pv 1) pe_int) pa_nil))))))) pss_nil)
  (pss_cons (ps_if (PW.pt (pw_or (pt_cmpR op_ne (pe_callB call_len_seq1 (by rfl) B.len (by decide +kernel) (pa_cons (pv 0) pa_nil)) pe_int (nomark _)) (pw_or1 (pt_not (pt_val (pe_cf c_is_key (hr.mono (by decide)) (by rfl) pass0 (pa_cons (pe_ix ix_tup (pv 0) pe_int (fun _ _ => rfl)) pa_nil))))))) (pss_one (ps_ret pe_bl)) pss_nil)
  (pss_cons (ps_if (pt_cmpR op_eq (pe_ix ix_tup (pv 0) pe_int (fun _ _ => rfl)) pe_str (nomark _)) (pss_one (ps_ret (pe_cf c_is_value (hr.mono (by decide)) (by rfl) pass0 (pa_cons (pe_ix ix_tup (pv 0) pe_int (fun _ _ => rfl)) pa_nil)))) pss_nil)
  (pss_one (ps_ret (pe_and (pe_cmpR op_in_seq (pe_ix ix_tup (pv 0) pe_int (fun _ _ => rfl)) (pe_tup (pa_cons pe_str (pa_cons pe_str (pa_cons pe_str pa_nil)))) rfl) (pe_one (pe_cf c_is_whole (hr.mono (by decide)) (by rfl) pass0 (pa_cons (pe_ix ix_tup (pv 0) pe_int (fun _ _ => rfl)) (pa_cons pe_int pa_nil)))))))))))
theorem ok_is_condition_3 (B : Bi mg) (c_is_key : CFn P w K mg base CX0 1 "is_key" ["thing"] (sp_is_key K)) (c_is_value : CFn P w K mg base CX0 2 "is_value" ["thing"] (sp_is_value K)) (c_is_whole : CFn P w K mg base CX0 1 "is_whole" ["thing", "low"] (sp_is_whole K)) (c_self : CFn P w K mg base CX0 5 "is_condition" ["thing", "deep"] (spr_is_condition K 2)) {f : Addr} {fd : FuncData} (F : FunD K "is_condition" "is_condition" (defArgs s_is_condition) (defBody s_is_condition) (defScope s_is_condition) [] [] f fd) : FnOk P w K mg base CX0 6 f fd ["thing", "deep"] (spr_is_condition K 3) := by
  refine FunD.ok (CX := CX0) (k := 5) F sc_is_condition (by
    intro vs H Q E h
    first
      | (obtain ⟨_, rfl, _⟩ := h; rfl)
      | (obtain ⟨_, _, rfl, _⟩ := h; rfl)
      | (obtain ⟨_, _, _, rfl, _⟩ := h; rfl)
      | (obtain ⟨_, _, _, _, rfl, _⟩ := h; rfl)
      | (obtain ⟨_, _, _, _, _, rfl, _⟩ := h; rfl)
      | (obtain ⟨_, _, _, _, _, _, rfl, _⟩ := h; rfl)
      | (obtain ⟨_, _, _, _, _, _, _, rfl, _⟩ := h; rfl)
      | (obtain ⟨_, _, _, _, _, _, _, _, rfl, _⟩ := h; rfl)
      | (obtain ⟨_, _, _, _, _, _, _, _, _, rfl, _⟩ := h; rfl)
      | (obtain ⟨_, _, _, _, _, _, _, _, _, _, rfl, _⟩ := h; rfl)
      | (obtain ⟨_, _, _, _, _, _, _, _, _, _, _, rfl, _⟩ := h; rfl)) (fun cdv A outer s H vs Q E hr h => ⟨t_is_condition K (spr_is_condition K 2), PSs.nox ?_, purer_is_condition h⟩)
  exact (pss_cons (ps_if (PW.pt (pw_or (pt_cmpR op_eq (pv 1) pe_int (nomark _)) (pw_or (pt_not (pt_val (pe_callB call_isi (by rfl) B.isinstance (by decide +kernel) (pa_cons (pv 0) (pa_cons (pe_bltn (v := .ty "tuple") (by rfl) B.tuple (by decide +kernel) rfl) pa_nil))))) (pw_or (pt_cmpR op_eq (pe_callB call_len_seq1 (by rfl) B.len (by decide +kernel) (pa_cons (pv 0) pa_nil)) pe_int (nomark _)) (pw_or1 (pt_not (pt_val (pe_callB call_isi (by rfl) B.isinstance (by decide +kernel) (pa_cons (pe_ix ix_tup (pv 0) pe_int (fun _ _ => rfl)) (pa_cons (pe_bltn (v := .ty "str") (by rfl) B.str (by decide +kernel) rfl) pa_nil)))))))))) (pss_one (ps_ret pe_bl)) pss_nil)
  (pss_cons (ps_if (pt_cmpR op_eq (pe_ix ix_tup (pv 0) pe_int (fun _ _ => rfl)) pe_str (nomark _)) (pss_one (ps_ret (pe_and (pe_cmpR op_eq (pe_callB call_len_seq1 (by rfl) B.len (by decide +kernel) (pa_cons (pv 0) pa_nil)) pe_int (nomark _)) (pe_one (pe_cf c_self (hr.mono (by decide)) (by rfl) pass0 (pa_cons (pe_ix ix_tup (pv 0) pe_int (fun _ _ => rfl)) (pa_cons (pe_op op_sub (pv 1) pe_int) pa_nil))))))) pss_nil)
  (pss_cons (ps_if (PW.pt (pw_or (pt_cmpR op_ne (pe_callB call_len_seq1 (by rfl) B.len (by decide +kernel) (pa_cons (pv 0) pa_nil)) pe_int (nomark _)) (pw_or1 (pt_not (pt_val (pe_cf c_is_key (hr.mono (by decide)) (by rfl) pass0 (pa_cons (pe_ix ix_tup (pv 0) pe_int (fun _ _ => rfl)) pa_nil))))))) (pss_one (ps_ret pe_bl)) pss_nil)
  (pss_cons (ps_if (pt_cmpR op_eq (pe_ix ix_tup (pv 0) pe_int (fun _ _ => rfl)) pe_str (nomark _)) (pss_one (ps_ret (pe_cf c_is_value (hr.mono (by decide)) (by rfl) pass0 (pa_cons (pe_ix ix_tup (pv 0) pe_int (fun _ _ => rfl)) pa_nil)))) pss_nil)
  (pss_one (ps_ret (pe_and (pe_cmpR op_in_seq (pe_ix ix_tup (pv 0) pe_int (fun _ _ => rfl)) (pe_tup (pa_cons pe_str (pa_cons pe_str (pa_cons pe_str pa_nil)))) rfl) (pe_one (pe_cf c_is_whole (hr.mono (by decide)) (by rfl) pass0 (pa_cons (pe_ix ix_tup (pv 0) pe_int (fun _ _ => rfl)) (pa_cons pe_int pa_nil)))))))))))
theorem ok_is_condition (B : Bi mg) (c_is_key : CFn P w K mg base CX0 1 "is_key" ["thing"] (sp_is_key K)) (c_is_value : CFn P w K mg base CX0 2 "is_value" ["thing"] (sp_is_value K)) (c_is_whole : CFn P w K mg base CX0 1 "is_whole" ["thing", "low"] (sp_is_whole K)) {f : Addr} {fd : FuncData} (hg : mg "is_condition" = some (.ref f)) (hb : Binds K fd ["thing", "deep"] []) (F : FunD K "is_condition" "is_condition" (defArgs s_is_condition) (defBody s_is_condition) (defScope s_is_condition) [] [] f fd) : FnOk P w K mg base CX0 6 f fd ["thing", "deep"] (sp_is_condition K) := by
  have o0 : FnOk P w K mg base CX0 3 f fd ["thing", "deep"] (spr_is_condition K 0) := FunD.ok (CX := CX0) (k := 2) F sc_is_condition (by
    intro vs H Q E h
    first
      | (obtain ⟨_, rfl, _⟩ := h; rfl)
      | (obtain ⟨_, _, rfl, _⟩ := h; rfl)
      | (obtain ⟨_, _, _, rfl, _⟩ := h; rfl)
      | (obtain ⟨_, _, _, _, rfl, _⟩ := h; rfl)
      | (obtain ⟨_, _, _, _, _, rfl, _⟩ := h; rfl)
      | (obtain ⟨_, _, _, _, _, _, rfl, _⟩ := h; rfl)
      | (obtain ⟨_, _, _, _, _, _, _, rfl, _⟩ := h; rfl)
      | (obtain ⟨_, _, _, _, _, _, _, _, rfl, _⟩ := h; rfl)
      | (obtain ⟨_, _, _, _, _, _, _, _, _, rfl, _⟩ := h; rfl)
      | (obtain ⟨_, _, _, _, _, _, _, _, _, _, rfl, _⟩ := h; rfl)
      | (obtain ⟨_, _, _, _, _, _, _, _, _, _, _, rfl, _⟩ := h; rfl)) (fun cdv A outer s H vs Q E hr h => absurd h no_is_condition)
  have o1 := ok_is_condition_1 (P := P) (w := w) (mg := mg) (base := base) B c_is_key c_is_value c_is_whole ⟨f, fd, hg, F.kp, hb, o0⟩ F
  have o2 := ok_is_condition_2 (P := P) (w := w) (mg := mg) (base := base) B c_is_key c_is_value c_is_whole ⟨f, fd, hg, F.kp, hb, o1⟩ F
  have o3 := ok_is_condition_3 (P := P) (w := w) (mg := mg) (base := base) B c_is_key c_is_value c_is_whole ⟨f, fd, hg, F.kp, hb, o2⟩ F
  exact o3
theorem ok_are_conditions (B : Bi mg) (n_MANY : ∃ t, mg "MANY" = some (.int 4 t)) (n_DEEP : ∃ t, mg "DEEP" = some (.int 3 t)) (c_is_condition : CFn P w K mg base CX0 6 "is_condition" ["thing", "deep"] (sp_is_condition K)) {f : Addr} {fd : FuncData} (F : FunD K "are_conditions" "are_conditions" (defArgs s_are_conditions) (defBody s_are_conditions) (defScope s_are_conditions) [] [] f fd) : FnOk P w K mg base CX0 7 f fd ["thing"] (sp_are_conditions K) := by
  refine FunD.ok (CX := CX0) (k := 6) F sc_are_conditions (by
    intro vs H Q E h
    first
      | (obtain ⟨_, rfl, _⟩ := h; rfl)
      | (obtain ⟨_, _, rfl, _⟩ := h; rfl)
      | (obtain ⟨_, _, _, rfl, _⟩ := h; rfl)
      | (obtain ⟨_, _, _, _, rfl, _⟩ := h; rfl)
      | (obtain ⟨_, _, _, _, _, rfl, _⟩ := h; rfl)
      | (obtain ⟨_, _, _, _, _, _, rfl, _⟩ := h; rfl)
      | (obtain ⟨_, _, _, _, _, _, _, rfl, _⟩ := h; rfl)
      | (obtain ⟨_, _, _, _, _, _, _, _, rfl, _⟩ := h; rfl)
      | (obtain ⟨_, _, _, _, _, _, _, _, _, rfl, _⟩ := h; rfl)
      | (obtain ⟨_, _, _, _, _, _, _, _, _, _, rfl, _⟩ := h; rfl)
      | (obtain ⟨_, _, _, _, _, _, _, _, _, _, _, rfl, _⟩ := h; rfl)) (fun cdv A outer s H vs Q E hr h => ⟨t_are_conditions K, PSs.nox ?_, pure_are_conditions h⟩)
  exact (pss_one (ps_ret (pe_and (pe_callB call_isi (by rfl) B.isinstance (by decide +kernel) (pa_cons (pv 0) (pa_cons (pe_bltn (v := .ty "tuple") (by rfl) B.tuple (by decide +kernel) rfl) pa_nil))) (pe_and (pe_cmpR op_le (pe_callB call_len_seq1 (by rfl) B.len (by decide +kernel) (pa_cons (pv 0) pa_nil)) (pe_gi n_MANY (by rfl)) (nomark _)) (pe_one (pe_callB (cr_all rfl) (by rfl) B.all (by decide +kernel) (pa_cons (pe_lc (own := [("one", 1)]) (g := (gName 1)) (tt := tYes) rfl sc_are_conditions.nd (pi_tup (pv 0)) (blkOk_by (own := [("one", 1)]) (N := ["thing", "one"]) (sc := defScope s_are_conditions) (by decide +kernel)) (fun _ _ _ _ _ => (pg_name (i := 1) sc_are_conditions.nd rfl (by first | exact Or.inl rfl | exact Or.inr rfl))) (fun _ _ _ _ _ => pts_nil) (fun _ _ _ _ _ => (pe_cf c_is_condition (hr.mono (by decide)) (by rfl) pass0 (pa_cons (pv 1) (pa_cons (pe_gi n_DEEP (by rfl)) pa_nil))))) pa_nil)))))))
theorem ok_holds_1 (c_self : CFn P w K mg base CX0 1 "holds" ["condition", "records"] (spr_holds K 0)) {f : Addr} {fd : FuncData} (F : FunD K "holds" "holds" (defArgs s_holds) (defBody s_holds) (defScope s_holds) [] [] f fd) : FnOk P w K mg base CX0 2 f fd ["condition", "records"] (spr_holds K 1) := by
  refine FunD.ok (CX := CX0) (k := 1) F sc_holds (by
    intro vs H Q E h
    first
      | (obtain ⟨_, rfl, _⟩ := h; rfl)
      | (obtain ⟨_, _, rfl, _⟩ := h; rfl)
      | (obtain ⟨_, _, _, rfl, _⟩ := h; rfl)
      | (obtain ⟨_, _, _, _, rfl, _⟩ := h; rfl)
      | (obtain ⟨_, _, _, _, _, rfl, _⟩ := h; rfl)
      | (obtain ⟨_, _, _, _, _, _, rfl, _⟩ := h; rfl)
      | (obtain ⟨_, _, _, _, _, _, _, rfl, _⟩ := h; rfl)
      | (obtain ⟨_, _, _, _, _, _, _, _, rfl, _⟩ := h; rfl)
      | (obtain ⟨_, _, _, _, _, _, _, _, _, rfl, _⟩ := h; rfl)
      | (obtain ⟨_, _, _, _, _, _, _, _, _, _, rfl, _⟩ := h; rfl)
      | (obtain ⟨_, _, _, _, _, _, _, _, _, _, _, rfl, _⟩ := h; rfl)) (fun cdv A outer s H vs Q E hr h => ⟨t_holds K (spr_holds K 0), PSs.nox ?_, purer_holds h⟩)
  exact (pss_cons (ps_if (pt_cmpR op_eq (pe_ix ix_tup (pv 0) pe_int (fun _ _ => rfl)) pe_str (nomark _)) (pss_one (ps_ret (pe_not (pe_cf c_self (hr.mono (by decide)) (by rfl) pass0 (pa_cons (pe_ix ix_tup (pv 0) pe_int (fun _ _ => rfl)) (pa_cons (pv 1) pa_nil)))))) pss_nil)
  (pss_cons (ps_asg (pe_dget2 (hu_of hr) (pv 1) (pe_ix ix_tup (pv 0) pe_int (fun _ _ => rfl)) (pe_tup (pa_cons pe_non (pa_cons pe_int (pa_cons pe_int (pa_cons pe_int (pa_cons pe_non pa_nil)))))) (by constructor <;> rfl)) (pg_tup rfl (pgs_cons (pg_name (i := 2) sc_holds.nd rfl (by first | exact Or.inl rfl | exact Or.inr rfl)) (pgs_cons (pg_name (i := 3) sc_holds.nd rfl (by first | exact Or.inl rfl | exact Or.inr rfl)) (pgs_cons (pg_name (i := 4) sc_holds.nd rfl (by first | exact Or.inl rfl | exact Or.inr rfl)) (pgs_cons (pg_name (i := 5) sc_holds.nd rfl (by first | exact Or.inl rfl | exact Or.inr rfl)) (pgs_cons (pg_name (i := 6) sc_holds.nd rfl (by first | exact Or.inl rfl | exact Or.inr rfl)) pgs_nil)))))))
  (pss_cons (ps_if (pt_cmpR op_eq (pe_ix ix_tup (pv 0) pe_int (fun _ _ => rfl)) pe_str (nomark _)) (pss_one (ps_ret (pe_cmpR op_eq (pv 2) (pe_ix ix_tup (pv 0) pe_int (fun _ _ => rfl)) (nomark _)))) pss_nil)
  (pss_cons (ps_if (pt_cmpR op_eq (pe_ix ix_tup (pv 0) pe_int (fun _ _ => rfl)) pe_str (nomark _)) (pss_one (ps_ret (pe_cmpR op_eq (pv 4) (pe_ix ix_tup (pv 0) pe_int (fun _ _ => rfl)) (nomark _)))) pss_nil)
  (pss_cons (ps_if (pt_cmpR op_eq (pe_ix ix_tup (pv 0) pe_int (fun _ _ => rfl)) pe_str (nomark _)) (pss_one (ps_ret (pe_cmpR op_eq (pv 5) (pe_ix ix_tup (pv 0) pe_int (fun _ _ => rfl)) (nomark _)))) pss_nil)
  (pss_one (ps_ret (pe_cmpR op_lt (pv 4) (pe_ix ix_tup (pv 0) pe_int (fun _ _ => rfl)) (nomark _)))))))))
theorem ok_holds_2 (c_self : CFn P w K mg base CX0 2 "holds" ["condition", "records"] (spr_holds K 1)) {f : Addr} {fd : FuncData} (F : FunD K "holds" "holds" (defArgs s_holds) (defBody s_holds) (defScope s_holds) [] [] f fd) : FnOk P w K mg base CX0 3 f fd ["condition", "records"] (spr_holds K 2) := by
  refine FunD.ok (CX := CX0) (k := 2) F sc_holds (by
    intro vs H Q E h
    first
      | (obtain ⟨_, rfl, _⟩ := h; rfl)
      | (obtain ⟨_, _, rfl, _⟩ := h; rfl)
      | (obtain ⟨_, _, _, rfl, _⟩ := h; rfl)
      | (obtain ⟨_, _, _, _, rfl, _⟩ := h; rfl)
      | (obtain ⟨_, _, _, _, _, rfl, _⟩ := h; rfl)
      | (obtain ⟨_, _, _, _, _, _, rfl, _⟩ := h; rfl)
      | (obtain ⟨_, _, _, _, _, _, _, rfl, _⟩ := h; rfl)
      | (obtain ⟨_, _, _, _, _, _, _, _, rfl, _⟩ := h; rfl)
      | (obtain ⟨_, _, _, _, _, _, _, _, _, rfl, _⟩ := h; rfl)
      | (obtain ⟨_, _, _, _, _, _, _, _, _, _, rfl, _⟩ := h; rfl)
      | (obtain ⟨_, _, _, _, _, _, _, _, _, _, _, rfl, _⟩ := h; rfl)) (fun cdv A outer s H vs Q E hr h => ⟨t_holds K (spr_holds K 1), PSs.nox ?_, purer_holds h⟩)
  exact (pss_cons (ps_if (pt_cmpR op_eq (pe_ix ix_tup (pv 0) pe_int (fun _ _ => rfl)) pe_str (nomark _)) (pss_one (ps_ret (pe_not (pe_cf c_self (hr.mono (by decide)) (by rfl) pass0 (pa_cons (pe_ix ix_tup (pv 0) pe_int (fun _ _ => rfl)) (pa_cons (pv 1) pa_nil)))))) pss_nil)
  (pss_cons (ps_asg (pe_dget2 (hu_of hr) (pv 1) (pe_ix ix_tup (pv 0) pe_int (fun _ _ => rfl)) (pe_tup (pa_cons pe_non (pa_cons pe_int (pa_cons pe_int (pa_cons pe_int (pa_cons pe_non pa_nil)))))) (by constructor <;> rfl)) (pg_tup rfl (pgs_cons (pg_name (i := 2) sc_holds.nd rfl (by first | exact Or.inl rfl | exact Or.inr rfl)) (pgs_cons (pg_name (i := 3) sc_holds.nd rfl (by first | exact Or.inl rfl | exact Or.inr rfl)) (pgs_cons (pg_name (i := 4) sc_holds.nd rfl (by first | exact Or.inl rfl | exact Or.inr rfl)) (pgs_cons (pg_name (i := 5) sc_holds.nd rfl (by first | exact Or.inl rfl | exact Or.inr rfl)) (pgs_cons (pg_name (i := 6) sc_holds.nd rfl (by first | exact Or.inl rfl | exact Or.inr rfl)) pgs_nil)))))))
  (pss_cons (ps_if (pt_cmpR op_eq (pe_ix ix_tup (pv 0) pe_int (fun _ _ => rfl)) pe_str (nomark _)) (pss_one (ps_ret (pe_cmpR op_eq (pv 2) (pe_ix ix_tup (pv 0) pe_int (fun _ _ => rfl)) (nomark _)))) pss_nil)
  (pss_cons (ps_if (pt_cmpR op_eq (pe_ix ix_tup (pv 0) pe_int (fun _ _ => rfl)) pe_str (nomark _)) (pss_one (ps_ret (pe_cmpR op_eq (pv 4) (pe_ix ix_tup (pv 0) pe_int (fun _ _ => rfl)) (nomark _)))) pss_nil)
  (pss_cons (ps_if (pt_cmpR op_eq (pe_ix ix_tup (pv 0) pe_int (fun _ _ => rfl)) pe_str (nomark _)) (pss_one (ps_ret (pe_cmpR op_eq (pv 5) (pe_ix ix_tup (pv 0) pe_int (fun _ _ => rfl)) (nomark _)))) pss_nil)
  (pss_one (ps_ret (pe_cmpR op_lt (pv 4) (pe_ix ix_tup (pv 0) pe_int (fun _ _ => rfl)) (nomark _)))))))))
theorem ok_holds_3 (c_self : CFn P w K mg base CX0 3 "holds" ["condition", "records"] (spr_holds K 2)) {f : Addr} {fd : FuncData} (F : FunD K "holds" "holds" (defArgs s_holds) (defBody s_holds) (defScope s_holds) [] [] f fd) : FnOk P w K mg base CX0 4 f fd ["condition", "records"] (spr_holds K 3) := by
  refine FunD.ok (CX := CX0) (k := 3) F sc_holds (by
    intro vs H Q E h
    first
      | (obtain ⟨_, rfl, _⟩ := h; rfl)
      | (obtain ⟨_, _, rfl, _⟩ := h; rfl)
      | (obtain ⟨_, _, _, rfl, _⟩ := h; rfl)
      | (obtain ⟨_, _, _, _, rfl, _⟩ := h; rfl)
      | (obtain ⟨_, _, _, _, _, rfl, _⟩ := h; rfl)
      | (obtain ⟨_, _, _, _, _, _, rfl, _⟩ := h; rfl)
      | (obtain ⟨_, _, _, _, _, _, _, rfl, _⟩ := h; rfl)
      | (obtain ⟨_, _, _, _, _, _, _, _, rfl, _⟩ := h; rfl)
      | (obtain ⟨_, _, _, _, _, _, _, _, _, rfl, _⟩ := h; rfl)
      | (obtain ⟨_, _, _, _, _, _, _, _, _, _, rfl, _⟩ := h; rfl)
      | (obtain ⟨_, _, _, _, _, _, _, _, _, _, _, rfl, _⟩ := h; rfl)) (fun cdv A outer s H vs Q E hr h => ⟨t_holds K (spr_holds K 2), PSs.nox ?_, purer_holds h⟩)
  exact (pss_cons (ps_if (pt_cmpR op_eq (pe_ix ix_tup (pv 0) pe_int (fun _ _ => rfl)) pe_str (nomark _)) (pss_one (ps_ret (pe_not (pe_cf c_self (hr.mono (by decide)) (by rfl) pass0 (pa_cons (pe_ix ix_tup (pv 0) pe_int (fun _ _ => rfl)) (pa_cons (pv 1) pa_nil)))))) pss_nil)
  (pss_cons (ps_asg (pe_dget2 (hu_of hr) (pv 1) (pe_ix ix_tup (pv 0) pe_int (fun _ _ => rfl)) (pe_tup (pa_cons pe_non (pa_cons pe_int (pa_cons pe_int (pa_cons pe_int (pa_cons pe_non pa_nil)))))) (by constructor <;> rfl)) (pg_tup rfl (pgs_cons (pg_name (i := 2) sc_holds.nd rfl (by first | exact Or.inl rfl | exact Or.inr rfl)) (pgs_cons (pg_name (i := 3) sc_holds.nd rfl (by first | exact Or.inl rfl | exact Or.inr rfl)) (pgs_cons (pg_name (i := 4) sc_holds.nd rfl (by first | exact Or.inl rfl | exact Or.inr rfl)) (pgs_cons (pg_name (i := 5) sc_holds.nd rfl (by first | exact Or.inl rfl | exact Or.inr rfl)) (pgs_cons (pg_name (i := 6) sc_holds.nd rfl (by first | exact Or.inl rfl | exact Or.inr rfl)) pgs_nil)))))))
  (pss_cons (ps_if (pt_cmpR op_eq (pe_ix ix_tup (pv 0) pe_int (fun _ _ => rfl)) pe_str (nomark _)) (pss_one (ps_ret (pe_cmpR op_eq (pv 2) (pe_ix ix_tup (pv 0) pe_int (fun _ _ => rfl)) (nomark _)))) pss_nil)
  (pss_cons (ps_if (pt_cmpR op_eq (pe_ix ix_tup (pv 0) pe_int (fun _ _ => rfl)) pe_str (nomark _)) (pss_one (ps_ret (pe_cmpR op_eq (pv 4) (pe_ix ix_tup (pv 0) pe_int (fun _ _ => rfl)) (nomark _)))) pss_nil)
  (pss_cons (ps_if (pt_cmpR op_eq (pe_ix ix_tup (pv 0) pe_int (fun _ _ => rfl)) pe_str (nomark _)) (pss_one (ps_ret (pe_cmpR op_eq (pv 5) (pe_ix ix_tup (pv 0) pe_int (fun _ _ => rfl)) (nomark _)))) pss_nil)
  (pss_one (ps_ret (pe_cmpR op_lt (pv 4) (pe_ix ix_tup (pv 0) pe_int (fun _ _ => rfl)) (nomark _)))))))))
theorem ok_holds {f : Addr} {fd : FuncData} (hg : mg "holds" = some (.ref f)) (hb : Binds K fd ["condition", "records"] []) (F : FunD K "holds" "holds" (defArgs s_holds) (defBody s_holds) (defScope s_holds) [] [] f fd) : FnOk P w K mg base CX0 4 f fd ["condition", "records"] (sp_holds K) := by
  have o0 : FnOk P w K mg base CX0 1 f fd ["condition", "records"] (spr_holds K 0) := FunD.ok (CX := CX0) (k := 0) F sc_holds (by
    intro vs H Q E h
    first
      | (obtain ⟨_, rfl, _⟩ := h; rfl)
      | (obtain ⟨_, _, rfl, _⟩ := h; rfl)
      | (obtain ⟨_, _, _, rfl, _⟩ := h; rfl)
      | (obtain ⟨_, _, _, _, rfl, _⟩ := h; rfl)
      | (obtain ⟨_, _, _, _, _, rfl, _⟩ := h; rfl)
      | (obtain ⟨_, _, _, _, _, _, rfl, _⟩ := h; rfl)
      | (obtain ⟨_, _, _, _, _, _, _, rfl, _⟩ := h; rfl)
      | (obtain ⟨_, _, _, _, _, _, _, _, rfl, _⟩ := h; rfl)
      | (obtain ⟨_, _, _, _, _, _, _, _, _, rfl, _⟩ := h; rfl)
      | (obtain ⟨_, _, _, _, _, _, _, _, _, _, rfl, _⟩ := h; rfl)
      | (obtain ⟨_, _, _, _, _, _, _, _, _, _, _, rfl, _⟩ := h; rfl)) (fun cdv A outer s H vs Q E hr h => absurd h no_holds)
  have o1 := ok_holds_1 (P := P) (w := w) (mg := mg) (base := base)  ⟨f, fd, hg, F.kp, hb, o0⟩ F
  have o2 := ok_holds_2 (P := P) (w := w) (mg := mg) (base := base)  ⟨f, fd, hg, F.kp, hb, o1⟩ F
  have o3 := ok_holds_3 (P := P) (w := w) (mg := mg) (base := base)  ⟨f, fd, hg, F.kp, hb, o2⟩ F
  exact o3
theorem ok_is_deed (B : Bi mg) (c_is_key : CFn P w K mg base CX0 1 "is_key" ["thing"] (sp_is_key K)) (c_is_value : CFn P w K mg base CX0 2 "is_value" ["thing"] (sp_is_value K)) (c_is_lease : CFn P w K mg base CX0 2 "is_lease" ["thing"] (sp_is_lease K)) {f : Addr} {fd : FuncData} (F : FunD K "is_deed" "is_deed" (defArgs s_is_deed) (defBody s_is_deed) (defScope s_is_deed) [] [] f fd) : FnOk P w K mg base CX0 3 f fd ["thing"] (sp_is_deed K) := by
  refine FunD.ok (CX := CX0) (k := 2) F sc_is_deed (by
    intro vs H Q E h
    first
      | (obtain ⟨_, rfl, _⟩ := h; rfl)
      | (obtain ⟨_, _, rfl, _⟩ := h; rfl)
      | (obtain ⟨_, _, _, rfl, _⟩ := h; rfl)
      | (obtain ⟨_, _, _, _, rfl, _⟩ := h; rfl)
      | (obtain ⟨_, _, _, _, _, rfl, _⟩ := h; rfl)
      | (obtain ⟨_, _, _, _, _, _, rfl, _⟩ := h; rfl)
      | (obtain ⟨_, _, _, _, _, _, _, rfl, _⟩ := h; rfl)
      | (obtain ⟨_, _, _, _, _, _, _, _, rfl, _⟩ := h; rfl)
      | (obtain ⟨_, _, _, _, _, _, _, _, _, rfl, _⟩ := h; rfl)
      | (obtain ⟨_, _, _, _, _, _, _, _, _, _, rfl, _⟩ := h; rfl)
      | (obtain ⟨_, _, _, _, _, _, _, _, _, _, _, rfl, _⟩ := h; rfl)) (fun cdv A outer s H vs Q E hr h => ⟨t_is_deed K, PSs.nox ?_, pure_is_deed h⟩)
  exact (pss_cons (ps_if (PW.pt (pw_or (pt_not (pt_val (pe_callB call_isi (by rfl) B.isinstance (by decide +kernel) (pa_cons (pv 0) (pa_cons (pe_bltn (v := .ty "tuple") (by rfl) B.tuple (by decide +kernel) rfl) pa_nil))))) (pw_or (pt_cmpR op_lt (pe_callB call_len_seq1 (by rfl) B.len (by decide +kernel) (pa_cons (pv 0) pa_nil)) pe_int (nomark _)) (pw_or (pt_not (pt_val (pe_callB call_isi (by rfl) B.isinstance (by decide +kernel) (pa_cons (pe_ix ix_tup (pv 0) pe_int (fun _ _ => rfl)) (pa_cons (pe_bltn (v := .ty "str") (by rfl) B.str (by decide +kernel) rfl) pa_nil))))) (pw_or1 (pt_not (pt_val (pe_cf c_is_key (hr.mono (by decide)) (by rfl) pass0 (pa_cons (pe_ix ix_tup (pv 0) pe_int (fun _ _ => rfl)) pa_nil))))))))) (pss_one (ps_ret pe_bl)) pss_nil)
  (pss_cons (ps_if (pt_cmpR op_eq (pe_ix ix_tup (pv 0) pe_int (fun _ _ => rfl)) pe_str (nomark _)) (pss_one (ps_ret (pe_cmpR op_eq (pe_callB call_len_seq1 (by rfl) B.len (by decide +kernel) (pa_cons (pv 0) pa_nil)) pe_int (nomark _)))) pss_nil)
  (pss_one (ps_ret (pe_and (pe_cmpR op_eq (pe_ix ix_tup (pv 0) pe_int (fun _ _ => rfl)) pe_str (nomark _)) (pe_and (pe_cmpR op_eq (pe_callB call_len_seq1 (by rfl) B.len (by decide +kernel) (pa_cons (pv 0) pa_nil)) pe_int (nomark _)) (pe_and (pe_cf c_is_value (hr.mono (by decide)) (by rfl) pass0 (pa_cons (pe_ix ix_tup (pv 0) pe_int (fun _ _ => rfl)) pa_nil)) (pe_one (pe_cf c_is_lease (hr.mono (by decide)) (by rfl) pass0 (pa_cons (pe_ix ix_tup (pv 0) pe_int (fun _ _ => rfl)) pa_nil))))))))))
theorem ok_are_deeds (B : Bi mg) (n_MANY : ∃ t, mg "MANY" = some (.int 4 t)) (c_is_deed : CFn P w K mg base CX0 3 "is_deed" ["thing"] (sp_is_deed K)) {f : Addr} {fd : FuncData} (F : FunD K "are_deeds" "are_deeds" (defArgs s_are_deeds) (defBody s_are_deeds) (defScope s_are_deeds) [] [] f fd) : FnOk P w K mg base CX0 4 f fd ["thing"] (sp_are_deeds K) := by
  refine FunD.ok (CX := CX0) (k := 3) F sc_are_deeds (by
    intro vs H Q E h
    first
      | (obtain ⟨_, rfl, _⟩ := h; rfl)
      | (obtain ⟨_, _, rfl, _⟩ := h; rfl)
      | (obtain ⟨_, _, _, rfl, _⟩ := h; rfl)
      | (obtain ⟨_, _, _, _, rfl, _⟩ := h; rfl)
      | (obtain ⟨_, _, _, _, _, rfl, _⟩ := h; rfl)
      | (obtain ⟨_, _, _, _, _, _, rfl, _⟩ := h; rfl)
      | (obtain ⟨_, _, _, _, _, _, _, rfl, _⟩ := h; rfl)
      | (obtain ⟨_, _, _, _, _, _, _, _, rfl, _⟩ := h; rfl)
      | (obtain ⟨_, _, _, _, _, _, _, _, _, rfl, _⟩ := h; rfl)
      | (obtain ⟨_, _, _, _, _, _, _, _, _, _, rfl, _⟩ := h; rfl)
      | (obtain ⟨_, _, _, _, _, _, _, _, _, _, _, rfl, _⟩ := h; rfl)) (fun cdv A outer s H vs Q E hr h => ⟨t_are_deeds K, PSs.nox ?_, pure_are_deeds h⟩)
  exact (pss_cons (ps_if (PW.pt (pw_or (pt_not (pt_val (pe_callB call_isi (by rfl) B.isinstance (by decide +kernel) (pa_cons (pv 0) (pa_cons (pe_bltn (v := .ty "tuple") (by rfl) B.tuple (by decide +kernel) rfl) pa_nil))))) (pw_or (pt_cmpR op_gt (pe_callB call_len_seq1 (by rfl) B.len (by decide +kernel) (pa_cons (pv 0) pa_nil)) (pe_gi n_MANY (by rfl)) (nomark _)) (pw_or1 (pt_not (pt_val (pe_callB (cr_all rfl) (by rfl) B.all (by decide +kernel) (pa_cons (pe_lc (own := [("deed", 1)]) (g := (gName 1)) (tt := tYes) rfl sc_are_deeds.nd (pi_tup (pv 0)) (blkOk_by (own := [("deed", 1)]) (N := ["thing", "deed"]) (sc := defScope s_are_deeds) (by decide +kernel)) (fun _ _ _ _ _ => (pg_name (i := 1) sc_are_deeds.nd rfl (by first | exact Or.inl rfl | exact Or.inr rfl))) (fun _ _ _ _ _ => pts_nil) (fun _ _ _ _ _ => (pe_cf c_is_deed (hr.mono (by decide)) (by rfl) pass0 (pa_cons (pv 1) pa_nil)))) pa_nil)))))))) (pss_one (ps_ret pe_bl)) pss_nil)
  (pss_one (ps_ret (pe_cmpR op_eq (pe_unlike rfl (by rfl) B.len (by rfl) B.set (pe_lc (own := [("deed", 1)]) (g := (gName 1)) (tt := tYes) rfl sc_are_deeds.nd (pi_tup (pv 0)) (blkOk_by (own := [("deed", 1)]) (N := ["thing", "deed"]) (sc := defScope s_are_deeds) (by decide +kernel)) (fun _ _ _ _ _ => (pg_name (i := 1) sc_are_deeds.nd rfl (by first | exact Or.inl rfl | exact Or.inr rfl))) (fun _ _ _ _ _ => pts_nil) (fun _ _ _ _ _ => (pe_ix ix_tup (pv 1) pe_int (fun _ _ => rfl))))) (pe_callB call_len_seq1 (by rfl) B.len (by decide +kernel) (pa_cons (pv 0) pa_nil)) (nomark _)))))
theorem ok_h_init (HC : HCls K) {f : Addr} {fd : FuncData} (F : FunD K "__init__" "House.__init__" (defArgs s_h_init) (defBody s_h_init) (defScope s_h_init) [] [] f fd) : FnOk P w K mg base CX0 1 f fd ["self"] (sp_h_init K) := by
  refine FunD.ok (CX := CX0) (k := 0) F sc_h_init (by
    intro vs H Q E h
    first
      | (obtain ⟨_, rfl, _⟩ := h; rfl)
      | (obtain ⟨_, _, rfl, _⟩ := h; rfl)
      | (obtain ⟨_, _, _, rfl, _⟩ := h; rfl)
      | (obtain ⟨_, _, _, _, rfl, _⟩ := h; rfl)
      | (obtain ⟨_, _, _, _, _, rfl, _⟩ := h; rfl)
      | (obtain ⟨_, _, _, _, _, _, rfl, _⟩ := h; rfl)
      | (obtain ⟨_, _, _, _, _, _, _, rfl, _⟩ := h; rfl)
      | (obtain ⟨_, _, _, _, _, _, _, _, rfl, _⟩ := h; rfl)
      | (obtain ⟨_, _, _, _, _, _, _, _, _, rfl, _⟩ := h; rfl)
      | (obtain ⟨_, _, _, _, _, _, _, _, _, _, rfl, _⟩ := h; rfl)
      | (obtain ⟨_, _, _, _, _, _, _, _, _, _, _, rfl, _⟩ := h; rfl)) (fun cdv A outer s H vs Q E hr h => ⟨t_h_init K, PSs.nox ?_, pure_h_init HC h⟩)
  exact (pss_cons (ps_fld (pv 0) pe_dnewK rfl)
  (pss_cons (ps_fld (pv 0) pe_dnewK rfl)
  (pss_cons (ps_fld (pv 0) (pe_lst pa_nil) rfl)
  (pss_cons (ps_fld (pv 0) pe_int rfl)
  (pss_cons (ps_fld (pv 0) pe_int rfl)
  (pss_cons (ps_fld (pv 0) pe_dnewK rfl)
  (pss_cons (ps_fld (pv 0) pe_int rfl)
  (pss_cons (ps_fld (pv 0) pe_int rfl)
  (pss_cons (ps_fld (pv 0) (pe_lst pa_nil) rfl)
  (pss_one (ps_fld (pv 0) pe_dnewK rfl)))))))))))
theorem ok_h_write (B : Bi mg) (HC : HCls K) (c_change : CFn P w K mg base CX0 1 "change" ["records", "event"] (sp_change K)) {f : Addr} {fd : FuncData} (F : FunD K "write" "House.write" (defArgs s_h_write) (defBody s_h_write) (defScope s_h_write) [] [] f fd) : FnOk P w K mg base CX0 2 f fd ["self", "deeds"] (sp_h_write K) := by
  refine FunD.ok (CX := CX0) (k := 1) F sc_h_write (by
    intro vs H Q E h
    first
      | (obtain ⟨_, rfl, _⟩ := h; rfl)
      | (obtain ⟨_, _, rfl, _⟩ := h; rfl)
      | (obtain ⟨_, _, _, rfl, _⟩ := h; rfl)
      | (obtain ⟨_, _, _, _, rfl, _⟩ := h; rfl)
      | (obtain ⟨_, _, _, _, _, rfl, _⟩ := h; rfl)
      | (obtain ⟨_, _, _, _, _, _, rfl, _⟩ := h; rfl)
      | (obtain ⟨_, _, _, _, _, _, _, rfl, _⟩ := h; rfl)
      | (obtain ⟨_, _, _, _, _, _, _, _, rfl, _⟩ := h; rfl)
      | (obtain ⟨_, _, _, _, _, _, _, _, _, rfl, _⟩ := h; rfl)
      | (obtain ⟨_, _, _, _, _, _, _, _, _, _, rfl, _⟩ := h; rfl)
      | (obtain ⟨_, _, _, _, _, _, _, _, _, _, _, rfl, _⟩ := h; rfl)) (fun cdv A outer s H vs Q E hr h => ⟨t_h_write K, PSs.nox ?_, pure_h_write HC h⟩)
  exact (pss_cons (ps_setLc (i := 2) (own := [("deed", 3)]) (g := (gName 3)) (tt := (tOr (tTest (tOp rEq (tOp (rIxT K) (tVar 3) (tC (.int 0))) (tC (.str "put")))) (tB (tDIn (tOp (rIxT K) (tVar 3) (tC (.int 1))) (tFld K (tVar 0) "records"))))) rfl sc_h_write.nd rfl rfl (sw_true rfl rfl rfl (by decide +kernel)) (pi_seq (pv 1)) (blkOk_by (own := [("deed", 3)]) (N := ["self", "deeds", "real", "deed", "event"]) (sc := defScope s_h_write) (by decide +kernel)) (fun _ _ _ _ _ => (pg_name (i := 3) sc_h_write.nd rfl (by first | exact Or.inl rfl | exact Or.inr rfl))) (fun _ _ _ _ _ => (pts_one (PW.pt (pw_or (pt_cmpR op_eq (pe_ix ix_tup (pv 3) pe_int (fun _ _ => rfl)) pe_str (nomark _)) (pw_or1 (pt_cmp (pc_din (hu_of hr) (pe_ix ix_tup (pv 3) pe_int (fun _ _ => rfl)) (pe_fld (pv 0) rfl)))))))) (fun _ _ _ _ _ => (pv 3)))
  (pss_cons (ps_if (pt_cmpR (op_neP hr.units) (pv 2) (pe_lst pa_nil) (nomark _)) (pss_one (ps_fld (pv 0) (pe_op op_add (pe_fld (pv 0) rfl) pe_int) rfl)) pss_nil)
  (pss_cons (ps_for PassesOwn.never rfl (pi_list (pv 2)) (pg_name (i := 3) sc_h_write.nd rfl (by first | exact Or.inl rfl | exact Or.inr rfl))
  (pss_cons (ps_set (i := 4) sc_h_write.nd rfl (by first | exact Or.inl rfl | exact Or.inr rfl) (pe_op op_catA (pe_op op_catA (pe_tup (pa_cons (pe_fld (pv 0) rfl) pa_nil)) (pv 3)) (pe_op op_rep01 (pe_tup (pa_cons pe_non (pa_cons pe_non pa_nil))) (pe_callTy call_int1a (by rfl) B.int (by decide +kernel) (pa_cons (pe_cmpR op_eq (pe_ix ix_tup (pv 3) pe_int (fun _ _ => rfl)) pe_str (nomark _)) pa_nil)))))
  (pss_cons (ps_expr (pe_bm PySem.F.plainAttrs_list PySem.F.slot_list_append PySem.F.type_list_append mt_append (pe_fld (pv 0) rfl) (pa_cons (pv 4) pa_nil)))
  (pss_one (ps_expr (pe_cf c_change (hr.mono (by decide)) (by rfl) pass0 (pa_cons (pe_fld (pv 0) rfl) (pa_cons (pv 4) pa_nil))))))))
  (pss_one (ps_ret (pe_cmpR (op_neP hr.units) (pv 2) (pe_lst pa_nil) (nomark _)))))))
theorem ok_h_put (HC : HCls K) (c_need_key : CFn P w K mg base (L2.CX P w) 2 "need_key" ["key"] (sp_need_key K)) (c_need_value : CFn P w K mg base (L2.CX P w) 3 "need_value" ["value"] (sp_need_value K)) (m_h_need_lease : CMn P w K mg base (L2.CX P w) 2 (clsHouse K) "need_lease" ["self", "lease"] [] (sp_h_need_lease K)) (m_h_write : CMn P w K mg base CX0 2 (clsHouse K) "write" ["self", "deeds"] [] (sp_h_write K)) {f : Addr} {fd : FuncData} (F : FunD K "put" "House.put" (defArgs s_h_put) (defBody s_h_put) (defScope s_h_put) [.non] [] f fd) : FnOk P w K mg base (L2.CX P w) 4 f fd ["self", "key", "value", "lease"] (sp_h_put K) := by
  refine FunD.ok (CX := (L2.CX P w)) (k := 3) F sc_h_put (by
    intro vs H Q E h
    first
      | (obtain ⟨_, rfl, _⟩ := h; rfl)
      | (obtain ⟨_, _, rfl, _⟩ := h; rfl)
      | (obtain ⟨_, _, _, rfl, _⟩ := h; rfl)
      | (obtain ⟨_, _, _, _, rfl, _⟩ := h; rfl)
      | (obtain ⟨_, _, _, _, _, rfl, _⟩ := h; rfl)
      | (obtain ⟨_, _, _, _, _, _, rfl, _⟩ := h; rfl)
      | (obtain ⟨_, _, _, _, _, _, _, rfl, _⟩ := h; rfl)
      | (obtain ⟨_, _, _, _, _, _, _, _, rfl, _⟩ := h; rfl)
      | (obtain ⟨_, _, _, _, _, _, _, _, _, rfl, _⟩ := h; rfl)
      | (obtain ⟨_, _, _, _, _, _, _, _, _, _, rfl, _⟩ := h; rfl)
      | (obtain ⟨_, _, _, _, _, _, _, _, _, _, _, rfl, _⟩ := h; rfl)) (fun cdv A outer s H vs Q E hr h => ⟨t_h_put K E, ?_, pure_h_put HC h⟩)
  exact (pss_cons (ps_expr (pe_cf c_need_key (hr.mono (by decide)) (by rfl) (passE (takes_of rfl rfl rfl rfl)) (pa_cons (pv 1) pa_nil)))
  (pss_cons (ps_expr (pe_cf c_need_value (hr.mono (by decide)) (by rfl) (passE (takes_of rfl rfl rfl rfl)) (pa_cons (pv 2) pa_nil)))
  (pss_cons (ps_if (pt_cmpR op_notN1 (pv 3) pe_non (nomark _)) (pss_one (ps_expr (pe_cm (pl := plainOf' _ _) (pv 0) HC.Housecl m_h_need_lease (hr.mono (by decide)) (passE (takes_of rfl rfl rfl rfl)) (pa_cons (pv 3) pa_nil)))) pss_nil)
  (pss_cons (ps_expr (pe_cm (pl := plainOf' _ _) (pv 0) HC.Housecl m_h_write (hr.mono (by decide)) pass0 (pa_cons (pe_lst (pa_cons (pe_tup (pa_cons pe_str (pa_cons (pv 1) (pa_cons (pv 2) (pa_cons (pv 3) pa_nil))))) pa_nil)) pa_nil)))
  (pss_one (ps_ret (pe_fld (pv 0) rfl)))))))
theorem ok_h_drop (HC : HCls K) (c_need_key : CFn P w K mg base (L2.CX P w) 2 "need_key" ["key"] (sp_need_key K)) (m_h_write : CMn P w K mg base CX0 2 (clsHouse K) "write" ["self", "deeds"] [] (sp_h_write K)) {f : Addr} {fd : FuncData} (F : FunD K "drop" "House.drop" (defArgs s_h_drop) (defBody s_h_drop) (defScope s_h_drop) [] [] f fd) : FnOk P w K mg base (L2.CX P w) 3 f fd ["self", "key"] (sp_h_drop K) := by
  refine FunD.ok (CX := (L2.CX P w)) (k := 2) F sc_h_drop (by
    intro vs H Q E h
    first
      | (obtain ⟨_, rfl, _⟩ := h; rfl)
      | (obtain ⟨_, _, rfl, _⟩ := h; rfl)
      | (obtain ⟨_, _, _, rfl, _⟩ := h; rfl)
      | (obtain ⟨_, _, _, _, rfl, _⟩ := h; rfl)
      | (obtain ⟨_, _, _, _, _, rfl, _⟩ := h; rfl)
      | (obtain ⟨_, _, _, _, _, _, rfl, _⟩ := h; rfl)
      | (obtain ⟨_, _, _, _, _, _, _, rfl, _⟩ := h; rfl)
      | (obtain ⟨_, _, _, _, _, _, _, _, rfl, _⟩ := h; rfl)
      | (obtain ⟨_, _, _, _, _, _, _, _, _, rfl, _⟩ := h; rfl)
      | (obtain ⟨_, _, _, _, _, _, _, _, _, _, rfl, _⟩ := h; rfl)
      | (obtain ⟨_, _, _, _, _, _, _, _, _, _, _, rfl, _⟩ := h; rfl)) (fun cdv A outer s H vs Q E hr h => ⟨t_h_drop K E, ?_, pure_h_drop HC h⟩)
  exact (pss_cons (ps_expr (pe_cf c_need_key (hr.mono (by decide)) (by rfl) (passE (takes_of rfl rfl rfl rfl)) (pa_cons (pv 1) pa_nil)))
  (pss_one (ps_ret (pe_cm (pl := plainOf' _ _) (pv 0) HC.Housecl m_h_write (hr.mono (by decide)) pass0 (pa_cons (pe_lst (pa_cons (pe_tup (pa_cons pe_str (pa_cons (pv 1) pa_nil))) pa_nil)) pa_nil)))))
theorem ok_h_deal (B : Bi mg) (HC : HCls K) (x_NoCondition : XcOk K mg "NoCondition") (x_NoDeeds : XcOk K mg "NoDeeds") (c_are_conditions : CFn P w K mg base CX0 7 "are_conditions" ["thing"] (sp_are_conditions K)) (c_are_deeds : CFn P w K mg base CX0 4 "are_deeds" ["thing"] (sp_are_deeds K)) (m_h_need_lease : CMn P w K mg base (L2.CX P w) 2 (clsHouse K) "need_lease" ["self", "lease"] [] (sp_h_need_lease K)) (c_holds : CFn P w K mg base CX0 4 "holds" ["condition", "records"] (sp_holds K)) (m_h_write : CMn P w K mg base CX0 2 (clsHouse K) "write" ["self", "deeds"] [] (sp_h_write K)) {f : Addr} {fd : FuncData} (F : FunD K "deal" "House.deal" (defArgs s_h_deal) (defBody s_h_deal) (defScope s_h_deal) [] [] f fd) : FnOk P w K mg base (L2.CX P w) 8 f fd ["self", "conditions", "then", "other"] (sp_h_deal K) := by
  refine FunD.ok (CX := (L2.CX P w)) (k := 7) F sc_h_deal (by
    intro vs H Q E h
    first
      | (obtain ⟨_, rfl, _⟩ := h; rfl)
      | (obtain ⟨_, _, rfl, _⟩ := h; rfl)
      | (obtain ⟨_, _, _, rfl, _⟩ := h; rfl)
      | (obtain ⟨_, _, _, _, rfl, _⟩ := h; rfl)
      | (obtain ⟨_, _, _, _, _, rfl, _⟩ := h; rfl)
      | (obtain ⟨_, _, _, _, _, _, rfl, _⟩ := h; rfl)
      | (obtain ⟨_, _, _, _, _, _, _, rfl, _⟩ := h; rfl)
      | (obtain ⟨_, _, _, _, _, _, _, _, rfl, _⟩ := h; rfl)
      | (obtain ⟨_, _, _, _, _, _, _, _, _, rfl, _⟩ := h; rfl)
      | (obtain ⟨_, _, _, _, _, _, _, _, _, _, rfl, _⟩ := h; rfl)
      | (obtain ⟨_, _, _, _, _, _, _, _, _, _, _, rfl, _⟩ := h; rfl)) (fun cdv A outer s H vs Q E hr h => ⟨t_h_deal K E, ?_, pure_h_deal HC h⟩)
  exact (pss_cons (ps_if (pt_not (pt_val (pe_cf c_are_conditions (hr.mono (by decide)) (by rfl) pass0 (pa_cons (pv 1) pa_nil)))) (pss_one (ps_raise rfl (takes_of rfl rfl rfl rfl) (x_NoCondition.pmk (by rfl)))) pss_nil)
  (pss_cons (ps_if (PW.pt (pw_or (pt_not (pt_val (pe_cf c_are_deeds (hr.mono (by decide)) (by rfl) pass0 (pa_cons (pv 2) pa_nil)))) (pw_or1 (pt_not (pt_val (pe_cf c_are_deeds (hr.mono (by decide)) (by rfl) pass0 (pa_cons (pv 3) pa_nil))))))) (pss_one (ps_raise rfl (takes_of rfl rfl rfl rfl) (x_NoDeeds.pmk (by rfl)))) pss_nil)
  (pss_cons (ps_for (passes_of rfl) rfl (pi_tup (pe_op op_catA (pv 2) (pv 3))) (pg_name (i := 4) sc_h_deal.nd rfl (by first | exact Or.inl rfl | exact Or.inr rfl))
  (pss_one (ps_if (PW.pt (pw_and (pt_cmpR op_eq (pe_ix ix_tup (pv 4) pe_int (fun _ _ => rfl)) pe_str (nomark _)) (pw_and1 (pt_cmpR op_notN1 (pe_ix ix_tup (pv 4) pe_int (fun _ _ => rfl)) pe_non (nomark _))))) (pss_one (ps_expr (pe_cm (pl := plainOf' _ _) (pv 0) HC.Housecl m_h_need_lease (hr.mono (by decide)) (passE (takes_of rfl rfl rfl rfl)) (pa_cons (pe_ix ix_tup (pv 4) pe_int (fun _ _ => rfl)) pa_nil)))) pss_nil)))
  (pss_cons (ps_set (i := 5) sc_h_deal.nd rfl (by first | exact Or.inl rfl | exact Or.inr rfl) (pe_callB (cr_all rfl) (by rfl) B.all (by decide +kernel) (pa_cons (pe_lc (own := [("condition", 6)]) (g := (gName 6)) (tt := tYes) rfl sc_h_deal.nd (pi_tup (pv 1)) (blkOk_by (own := [("condition", 6)]) (N := ["self", "conditions", "then", "other", "deed", "good", "condition"]) (sc := defScope s_h_deal) (by decide +kernel)) (fun _ _ _ _ _ => (pg_name (i := 6) sc_h_deal.nd rfl (by first | exact Or.inl rfl | exact Or.inr rfl))) (fun _ _ _ _ _ => pts_nil) (fun _ _ _ _ _ => (pe_cf c_holds (hr.mono (by decide)) (by rfl) pass0 (pa_cons (pv 6) (pa_cons (pe_fld (pv 0) rfl) pa_nil))))) pa_nil)))
  (pss_cons (ps_expr (pe_cm (pl := plainOf' _ _) (pv 0) HC.Housecl m_h_write (hr.mono (by decide)) pass0 (pa_cons (pe_ix ix_list (pe_lst (pa_cons (pv 3) (pa_cons (pv 2) pa_nil))) (pe_callTy call_int1a (by rfl) B.int (by decide +kernel) (pa_cons (pv 5) pa_nil)) (fun _ _ => rfl)) pa_nil)))
  (pss_one (ps_ret (pv 5))))))))
theorem ok_h_number (HC : HCls K) {f : Addr} {fd : FuncData} (F : FunD K "number" "House.number" (defArgs s_h_number) (defBody s_h_number) (defScope s_h_number) [] [] f fd) : FnOk P w K mg base CX0 1 f fd ["self"] (sp_h_number K) := by
  refine FunD.ok (CX := CX0) (k := 0) F sc_h_number (by
    intro vs H Q E h
    first
      | (obtain ⟨_, rfl, _⟩ := h; rfl)
      | (obtain ⟨_, _, rfl, _⟩ := h; rfl)
      | (obtain ⟨_, _, _, rfl, _⟩ := h; rfl)
      | (obtain ⟨_, _, _, _, rfl, _⟩ := h; rfl)
      | (obtain ⟨_, _, _, _, _, rfl, _⟩ := h; rfl)
      | (obtain ⟨_, _, _, _, _, _, rfl, _⟩ := h; rfl)
      | (obtain ⟨_, _, _, _, _, _, _, rfl, _⟩ := h; rfl)
      | (obtain ⟨_, _, _, _, _, _, _, _, rfl, _⟩ := h; rfl)
      | (obtain ⟨_, _, _, _, _, _, _, _, _, rfl, _⟩ := h; rfl)
      | (obtain ⟨_, _, _, _, _, _, _, _, _, _, rfl, _⟩ := h; rfl)
      | (obtain ⟨_, _, _, _, _, _, _, _, _, _, _, rfl, _⟩ := h; rfl)) (fun cdv A outer s H vs Q E hr h => ⟨t_h_number K, PSs.nox ?_, pure_h_number HC h⟩)
  exact (pss_one (ps_ret (pe_fld (pv 0) rfl)))
theorem ok_h_records_at (B : Bi mg) (HC : HCls K) (c_change : CFn P w K mg base CX0 1 "change" ["records", "event"] (sp_change K)) {f : Addr} {fd : FuncData} (F : FunD K "records_at" "House.records_at" (defArgs s_h_records_at) (defBody s_h_records_at) (defScope s_h_records_at) [] [] f fd) : FnOk P w K mg base CX0 2 f fd ["self", "number"] (sp_h_records_at K) := by
  refine FunD.ok (CX := CX0) (k := 1) F sc_h_records_at (by
    intro vs H Q E h
    first
      | (obtain ⟨_, rfl, _⟩ := h; rfl)
      | (obtain ⟨_, _, rfl, _⟩ := h; rfl)
      | (obtain ⟨_, _, _, rfl, _⟩ := h; rfl)
      | (obtain ⟨_, _, _, _, rfl, _⟩ := h; rfl)
      | (obtain ⟨_, _, _, _, _, rfl, _⟩ := h; rfl)
      | (obtain ⟨_, _, _, _, _, _, rfl, _⟩ := h; rfl)
      | (obtain ⟨_, _, _, _, _, _, _, rfl, _⟩ := h; rfl)
      | (obtain ⟨_, _, _, _, _, _, _, _, rfl, _⟩ := h; rfl)
      | (obtain ⟨_, _, _, _, _, _, _, _, _, rfl, _⟩ := h; rfl)
      | (obtain ⟨_, _, _, _, _, _, _, _, _, _, rfl, _⟩ := h; rfl)
      | (obtain ⟨_, _, _, _, _, _, _, _, _, _, _, rfl, _⟩ := h; rfl)) (fun cdv A outer s H vs Q E hr h => ⟨t_h_records_at K, PSs.nox ?_, pure_h_records_at HC h⟩)
  exact (pss_cons (ps_if (pt_cmpR op_eq (pv 1) (pe_fld (pv 0) rfl) (nomark _)) (pss_one (ps_ret (pe_fld (pv 0) rfl))) pss_nil)
  (pss_cons (ps_set (i := 2) sc_h_records_at.nd rfl (by first | exact Or.inl rfl | exact Or.inr rfl) (pe_callTy call_dictD1 (by rfl) B.dict (by decide +kernel) (pa_cons (pe_fld (pv 0) rfl) pa_nil)))
  (pss_cons (ps_for PassesOwn.never rfl (pi_list (pe_fld (pv 0) rfl)) (pg_name (i := 3) sc_h_records_at.nd rfl (by first | exact Or.inl rfl | exact Or.inr rfl))
  (pss_one (ps_if (pt_cmpR op_le (pe_ix ix_tup (pv 3) pe_int (fun _ _ => rfl)) (pv 1) (nomark _)) (pss_one (ps_expr (pe_cf c_change (hr.mono (by decide)) (by rfl) pass0 (pa_cons (pv 2) (pa_cons (pv 3) pa_nil))))) pss_nil)))
  (pss_one (ps_ret (pv 2))))))
theorem ok_h_records_when (HC : HCls K) (x_NoNumber : XcOk K mg "NoNumber") (x_Folded : XcOk K mg "Folded") (c_is_whole : CFn P w K mg base CX0 1 "is_whole" ["thing", "low"] (sp_is_whole K)) (m_h_records_at : CMn P w K mg base CX0 2 (clsHouse K) "records_at" ["self", "number"] [] (sp_h_records_at K)) {f : Addr} {fd : FuncData} (F : FunD K "records_when" "House.records_when" (defArgs s_h_records_when) (defBody s_h_records_when) (defScope s_h_records_when) [] [] f fd) : FnOk P w K mg base (L2.CX P w) 3 f fd ["self", "number"] (sp_h_records_when K) := by
  refine FunD.ok (CX := (L2.CX P w)) (k := 2) F sc_h_records_when (by
    intro vs H Q E h
    first
      | (obtain ⟨_, rfl, _⟩ := h; rfl)
      | (obtain ⟨_, _, rfl, _⟩ := h; rfl)
      | (obtain ⟨_, _, _, rfl, _⟩ := h; rfl)
      | (obtain ⟨_, _, _, _, rfl, _⟩ := h; rfl)
      | (obtain ⟨_, _, _, _, _, rfl, _⟩ := h; rfl)
      | (obtain ⟨_, _, _, _, _, _, rfl, _⟩ := h; rfl)
      | (obtain ⟨_, _, _, _, _, _, _, rfl, _⟩ := h; rfl)
      | (obtain ⟨_, _, _, _, _, _, _, _, rfl, _⟩ := h; rfl)
      | (obtain ⟨_, _, _, _, _, _, _, _, _, rfl, _⟩ := h; rfl)
      | (obtain ⟨_, _, _, _, _, _, _, _, _, _, rfl, _⟩ := h; rfl)
      | (obtain ⟨_, _, _, _, _, _, _, _, _, _, _, rfl, _⟩ := h; rfl)) (fun cdv A outer s H vs Q E hr h => ⟨t_h_records_when K E, ?_, pure_h_records_when HC h⟩)
  exact (pss_cons (ps_if (pt_cmpR op_isN1 (pv 1) pe_non (nomark _)) (pss_one (ps_ret (pe_fld (pv 0) rfl))) pss_nil)
  (pss_cons (ps_if (PW.pt (pw_or (pt_not (pt_val (pe_cf c_is_whole (hr.mono (by decide)) (by rfl) pass0 (pa_cons (pv 1) (pa_cons pe_int pa_nil))))) (pw_or1 (pt_cmpR op_gt (pv 1) (pe_fld (pv 0) rfl) (nomark _))))) (pss_one (ps_raise rfl (takes_of rfl rfl rfl rfl) (x_NoNumber.pmk (by rfl)))) pss_nil)
  (pss_cons (ps_if (pt_cmpR op_lt (pv 1) (pe_fld (pv 0) rfl) (nomark _)) (pss_one (ps_raise rfl (takes_of rfl rfl rfl rfl) (x_Folded.pmk (by rfl)))) pss_nil)
  (pss_one (ps_ret (pe_cm (pl := plainOf' _ _) (pv 0) HC.Housecl m_h_records_at (hr.mono (by decide)) pass0 (pa_cons (pv 1) pa_nil)))))))
theorem ok_h_rows (HC : HCls K) (c_need_key : CFn P w K mg base (L2.CX P w) 2 "need_key" ["key"] (sp_need_key K)) (c_in_rows : CFn P w K mg base CX0 1 "in_rows" ["records"] (sp_in_rows K)) (m_h_records_when : CMn P w K mg base (L2.CX P w) 3 (clsHouse K) "records_when" ["self", "number"] [] (sp_h_records_when K)) (c_is_within : CFn P w K mg base CX0 1 "is_within" ["key", "first", "last"] (sp_is_within K)) {f : Addr} {fd : FuncData} (F : FunD K "rows" "House.rows" (defArgs s_h_rows) (defBody s_h_rows) (defScope s_h_rows) [.non] [] f fd) : FnOk P w K mg base (L2.CX P w) 4 f fd ["self", "first", "last", "number"] (sp_h_rows K) := by
  refine FunD.ok (CX := (L2.CX P w)) (k := 3) F sc_h_rows (by
    intro vs H Q E h
    first
      | (obtain ⟨_, rfl, _⟩ := h; rfl)
      | (obtain ⟨_, _, rfl, _⟩ := h; rfl)
      | (obtain ⟨_, _, _, rfl, _⟩ := h; rfl)
      | (obtain ⟨_, _, _, _, rfl, _⟩ := h; rfl)
      | (obtain ⟨_, _, _, _, _, rfl, _⟩ := h; rfl)
      | (obtain ⟨_, _, _, _, _, _, rfl, _⟩ := h; rfl)
      | (obtain ⟨_, _, _, _, _, _, _, rfl, _⟩ := h; rfl)
      | (obtain ⟨_, _, _, _, _, _, _, _, rfl, _⟩ := h; rfl)
      | (obtain ⟨_, _, _, _, _, _, _, _, _, rfl, _⟩ := h; rfl)
      | (obtain ⟨_, _, _, _, _, _, _, _, _, _, rfl, _⟩ := h; rfl)
      | (obtain ⟨_, _, _, _, _, _, _, _, _, _, _, rfl, _⟩ := h; rfl)) (fun cdv A outer s H vs Q E hr h => ⟨t_h_rows K E, ?_, pure_h_rows HC h⟩)
  exact (pss_cons (ps_expr (pe_cf c_need_key (hr.mono (by decide)) (by rfl) (passE (takes_of rfl rfl rfl rfl)) (pa_cons (pv 1) pa_nil)))
  (pss_cons (ps_expr (pe_cf c_need_key (hr.mono (by decide)) (by rfl) (passE (takes_of rfl rfl rfl rfl)) (pa_cons (pv 2) pa_nil)))
  (pss_one (ps_ret (pe_lc (own := [("row", 4)]) (g := (gName 4)) (tt := (tB (tCall (sp_is_within K) [] E0 (tCons (tOp (rIxT K) (tVar 4) (tC (.int 0))) (tCons (tVar 1) (tCons (tVar 2) tNil)))))) rfl sc_h_rows.nd (pi_list (pe_cf c_in_rows (hr.mono (by decide)) (by rfl) pass0 (pa_cons (pe_cm (pl := plainOf' _ _) (pv 0) HC.Housecl m_h_records_when (hr.mono (by decide)) (passE (takes_of rfl rfl rfl rfl)) (pa_cons (pv 3) pa_nil)) pa_nil))) (blkOk_by (own := [("row", 4)]) (N := ["self", "first", "last", "number", "row"]) (sc := defScope s_h_rows) (by decide +kernel)) (fun _ _ _ _ _ => (pg_name (i := 4) sc_h_rows.nd rfl (by first | exact Or.inl rfl | exact Or.inr rfl))) (fun _ _ _ _ _ => (pts_one (pt_val (pe_cf c_is_within (hr.mono (by decide)) (by rfl) pass0 (pa_cons (pe_ix ix_tup (pv 4) pe_int (fun _ _ => rfl)) (pa_cons (pv 1) (pa_cons (pv 2) pa_nil))))))) (fun _ _ _ _ _ => (pv 4)))))))
theorem ok_h_since (HC : HCls K) (c_is_within : CFn P w K mg base CX0 1 "is_within" ["key", "first", "last"] (sp_is_within K)) {f : Addr} {fd : FuncData} (F : FunD K "since" "House.since" (defArgs s_h_since) (defBody s_h_since) (defScope s_h_since) [] [] f fd) : FnOk P w K mg base CX0 2 f fd ["self", "first", "last", "number"] (sp_h_since K) := by
  refine FunD.ok (CX := CX0) (k := 1) F sc_h_since (by
    intro vs H Q E h
    first
      | (obtain ⟨_, rfl, _⟩ := h; rfl)
      | (obtain ⟨_, _, rfl, _⟩ := h; rfl)
      | (obtain ⟨_, _, _, rfl, _⟩ := h; rfl)
      | (obtain ⟨_, _, _, _, rfl, _⟩ := h; rfl)
      | (obtain ⟨_, _, _, _, _, rfl, _⟩ := h; rfl)
      | (obtain ⟨_, _, _, _, _, _, rfl, _⟩ := h; rfl)
      | (obtain ⟨_, _, _, _, _, _, _, rfl, _⟩ := h; rfl)
      | (obtain ⟨_, _, _, _, _, _, _, _, rfl, _⟩ := h; rfl)
      | (obtain ⟨_, _, _, _, _, _, _, _, _, rfl, _⟩ := h; rfl)
      | (obtain ⟨_, _, _, _, _, _, _, _, _, _, rfl, _⟩ := h; rfl)
      | (obtain ⟨_, _, _, _, _, _, _, _, _, _, _, rfl, _⟩ := h; rfl)) (fun cdv A outer s H vs Q E hr h => ⟨t_h_since K, PSs.nox ?_, pure_h_since HC h⟩)
  exact (pss_one (ps_ret (pe_lc (own := [("event", 4)]) (g := (gName 4)) (tt := (tAnd (tTest (tOp rGeI (tOp (rIxT K) (tVar 4) (tC (.int 0))) (tVar 3))) (tB (tCall (sp_is_within K) [] E0 (tCons (tOp (rIxT K) (tVar 4) (tC (.int 2))) (tCons (tVar 1) (tCons (tVar 2) tNil))))))) rfl sc_h_since.nd (pi_list (pe_fld (pv 0) rfl)) (blkOk_by (own := [("event", 4)]) (N := ["self", "first", "last", "number", "event"]) (sc := defScope s_h_since) (by decide +kernel)) (fun _ _ _ _ _ => (pg_name (i := 4) sc_h_since.nd rfl (by first | exact Or.inl rfl | exact Or.inr rfl))) (fun _ _ _ _ _ => (pts_one (PW.pt (pw_and (pt_cmpR op_ge (pe_ix ix_tup (pv 4) pe_int (fun _ _ => rfl)) (pv 3) (nomark _)) (pw_and1 (pt_val (pe_cf c_is_within (hr.mono (by decide)) (by rfl) pass0 (pa_cons (pe_ix ix_tup (pv 4) pe_int (fun _ _ => rfl)) (pa_cons (pv 1) (pa_cons (pv 2) pa_nil)))))))))) (fun _ _ _ _ _ => (pv 4)))))
theorem ok_h_changes (HC : HCls K) (x_Folded : XcOk K mg "Folded") (c_need_key : CFn P w K mg base (L2.CX P w) 2 "need_key" ["key"] (sp_need_key K)) (c_need_whole : CFn P w K mg base (L2.CX P w) 2 "need_whole" ["number", "low"] (sp_need_whole K)) (m_h_since : CMn P w K mg base CX0 2 (clsHouse K) "since" ["self", "first", "last", "number"] [] (sp_h_since K)) {f : Addr} {fd : FuncData} (F : FunD K "changes" "House.changes" (defArgs s_h_changes) (defBody s_h_changes) (defScope s_h_changes) [] [] f fd) : FnOk P w K mg base (L2.CX P w) 3 f fd ["self", "first", "last", "number"] (sp_h_changes K) := by
  refine FunD.ok (CX := (L2.CX P w)) (k := 2) F sc_h_changes (by
    intro vs H Q E h
    first
      | (obtain ⟨_, rfl, _⟩ := h; rfl)
      | (obtain ⟨_, _, rfl, _⟩ := h; rfl)
      | (obtain ⟨_, _, _, rfl, _⟩ := h; rfl)
      | (obtain ⟨_, _, _, _, rfl, _⟩ := h; rfl)
      | (obtain ⟨_, _, _, _, _, rfl, _⟩ := h; rfl)
      | (obtain ⟨_, _, _, _, _, _, rfl, _⟩ := h; rfl)
      | (obtain ⟨_, _, _, _, _, _, _, rfl, _⟩ := h; rfl)
      | (obtain ⟨_, _, _, _, _, _, _, _, rfl, _⟩ := h; rfl)
      | (obtain ⟨_, _, _, _, _, _, _, _, _, rfl, _⟩ := h; rfl)
      | (obtain ⟨_, _, _, _, _, _, _, _, _, _, rfl, _⟩ := h; rfl)
      | (obtain ⟨_, _, _, _, _, _, _, _, _, _, _, rfl, _⟩ := h; rfl)) (fun cdv A outer s H vs Q E hr h => ⟨t_h_changes K E, ?_, pure_h_changes HC h⟩)
  exact (pss_cons (ps_expr (pe_cf c_need_key (hr.mono (by decide)) (by rfl) (passE (takes_of rfl rfl rfl rfl)) (pa_cons (pv 1) pa_nil)))
  (pss_cons (ps_expr (pe_cf c_need_key (hr.mono (by decide)) (by rfl) (passE (takes_of rfl rfl rfl rfl)) (pa_cons (pv 2) pa_nil)))
  (pss_cons (ps_expr (pe_cf c_need_whole (hr.mono (by decide)) (by rfl) (passE (takes_of rfl rfl rfl rfl)) (pa_cons (pv 3) (pa_cons pe_int pa_nil))))
  (pss_cons (ps_if (pt_cmpR op_le (pv 3) (pe_fld (pv 0) rfl) (nomark _)) (pss_one (ps_raise rfl (takes_of rfl rfl rfl rfl) (x_Folded.pmk (by rfl)))) pss_nil)
  (pss_one (ps_ret (pe_cm (pl := plainOf' _ _) (pv 0) HC.Housecl m_h_since (hr.mono (by decide)) pass0 (pa_cons (pv 1) (pa_cons (pv 2) (pa_cons (pv 3) pa_nil))))))))))
theorem ok_h_need_lease (HC : HCls K) (x_NoLease : XcOk K mg "NoLease") (c_is_whole : CFn P w K mg base CX0 1 "is_whole" ["thing", "low"] (sp_is_whole K)) {f : Addr} {fd : FuncData} (F : FunD K "need_lease" "House.need_lease" (defArgs s_h_need_lease) (defBody s_h_need_lease) (defScope s_h_need_lease) [] [] f fd) : FnOk P w K mg base (L2.CX P w) 2 f fd ["self", "lease"] (sp_h_need_lease K) := by
  refine FunD.ok (CX := (L2.CX P w)) (k := 1) F sc_h_need_lease (by
    intro vs H Q E h
    first
      | (obtain ⟨_, rfl, _⟩ := h; rfl)
      | (obtain ⟨_, _, rfl, _⟩ := h; rfl)
      | (obtain ⟨_, _, _, rfl, _⟩ := h; rfl)
      | (obtain ⟨_, _, _, _, rfl, _⟩ := h; rfl)
      | (obtain ⟨_, _, _, _, _, rfl, _⟩ := h; rfl)
      | (obtain ⟨_, _, _, _, _, _, rfl, _⟩ := h; rfl)
      | (obtain ⟨_, _, _, _, _, _, _, rfl, _⟩ := h; rfl)
      | (obtain ⟨_, _, _, _, _, _, _, _, rfl, _⟩ := h; rfl)
      | (obtain ⟨_, _, _, _, _, _, _, _, _, rfl, _⟩ := h; rfl)
      | (obtain ⟨_, _, _, _, _, _, _, _, _, _, rfl, _⟩ := h; rfl)
      | (obtain ⟨_, _, _, _, _, _, _, _, _, _, _, rfl, _⟩ := h; rfl)) (fun cdv A outer s H vs Q E hr h => ⟨t_h_need_lease K E, ?_, pure_h_need_lease HC h⟩)
  exact (pss_one (ps_if (PW.pt (pw_or (pt_not (pt_val (pe_cf c_is_whole (hr.mono (by decide)) (by rfl) pass0 (pa_cons (pv 1) (pa_cons pe_int pa_nil))))) (pw_or1 (pt_cmp (pc_dnotin (hu_of hr) (pv 1) (pe_fld (pv 0) rfl)))))) (pss_one (ps_raise rfl (takes_of rfl rfl rfl rfl) (x_NoLease.pmk (by rfl)))) pss_nil))
theorem ok_h_need_term (n_TERM : ∃ t, mg "TERM" = some (.int 99 t)) (x_NoNumber : XcOk K mg "NoNumber") (c_is_whole : CFn P w K mg base CX0 1 "is_whole" ["thing", "low"] (sp_is_whole K)) {f : Addr} {fd : FuncData} (F : FunD K "need_term" "House.need_term" (defArgs s_h_need_term) (defBody s_h_need_term) (defScope s_h_need_term) [] [] f fd) : FnOk P w K mg base (L2.CX P w) 2 f fd ["self", "term"] (sp_h_need_term K) := by
  refine FunD.ok (CX := (L2.CX P w)) (k := 1) F sc_h_need_term (by
    intro vs H Q E h
    first
      | (obtain ⟨_, rfl, _⟩ := h; rfl)
      | (obtain ⟨_, _, rfl, _⟩ := h; rfl)
      | (obtain ⟨_, _, _, rfl, _⟩ := h; rfl)
      | (obtain ⟨_, _, _, _, rfl, _⟩ := h; rfl)
      | (obtain ⟨_, _, _, _, _, rfl, _⟩ := h; rfl)
      | (obtain ⟨_, _, _, _, _, _, rfl, _⟩ := h; rfl)
      | (obtain ⟨_, _, _, _, _, _, _, rfl, _⟩ := h; rfl)
      | (obtain ⟨_, _, _, _, _, _, _, _, rfl, _⟩ := h; rfl)
      | (obtain ⟨_, _, _, _, _, _, _, _, _, rfl, _⟩ := h; rfl)
      | (obtain ⟨_, _, _, _, _, _, _, _, _, _, rfl, _⟩ := h; rfl)
      | (obtain ⟨_, _, _, _, _, _, _, _, _, _, _, rfl, _⟩ := h; rfl)) (fun cdv A outer s H vs Q E hr h => ⟨t_h_need_term K E, ?_, pure_h_need_term h⟩)
  exact (pss_one (ps_if (PW.pt (pw_or (pt_not (pt_val (pe_cf c_is_whole (hr.mono (by decide)) (by rfl) pass0 (pa_cons (pv 1) (pa_cons pe_int pa_nil))))) (pw_or1 (pt_cmpR op_gt (pv 1) (pe_gi n_TERM (by rfl)) (nomark _))))) (pss_one (ps_raise rfl (takes_of rfl rfl rfl rfl) (x_NoNumber.pmk (by rfl)))) pss_nil))
theorem ok_h_grant (HC : HCls K) (m_h_need_term : CMn P w K mg base (L2.CX P w) 2 (clsHouse K) "need_term" ["self", "term"] [] (sp_h_need_term K)) {f : Addr} {fd : FuncData} (F : FunD K "grant" "House.grant" (defArgs s_h_grant) (defBody s_h_grant) (defScope s_h_grant) [] [] f fd) : FnOk P w K mg base (L2.CX P w) 3 f fd ["self", "term"] (sp_h_grant K) := by
  refine FunD.ok (CX := (L2.CX P w)) (k := 2) F sc_h_grant (by
    intro vs H Q E h
    first
      | (obtain ⟨_, rfl, _⟩ := h; rfl)
      | (obtain ⟨_, _, rfl, _⟩ := h; rfl)
      | (obtain ⟨_, _, _, rfl, _⟩ := h; rfl)
      | (obtain ⟨_, _, _, _, rfl, _⟩ := h; rfl)
      | (obtain ⟨_, _, _, _, _, rfl, _⟩ := h; rfl)
      | (obtain ⟨_, _, _, _, _, _, rfl, _⟩ := h; rfl)
      | (obtain ⟨_, _, _, _, _, _, _, rfl, _⟩ := h; rfl)
      | (obtain ⟨_, _, _, _, _, _, _, _, rfl, _⟩ := h; rfl)
      | (obtain ⟨_, _, _, _, _, _, _, _, _, rfl, _⟩ := h; rfl)
      | (obtain ⟨_, _, _, _, _, _, _, _, _, _, rfl, _⟩ := h; rfl)
      | (obtain ⟨_, _, _, _, _, _, _, _, _, _, _, rfl, _⟩ := h; rfl)) (fun cdv A outer s H vs Q E hr h => ⟨t_h_grant K E, ?_, pure_h_grant HC h⟩)
  exact (pss_cons (ps_expr (pe_cm (pl := plainOf' _ _) (pv 0) HC.Housecl m_h_need_term (hr.mono (by decide)) (passE (takes_of rfl rfl rfl rfl)) (pa_cons (pv 1) pa_nil)))
  (pss_cons (ps_fld (pv 0) (pe_op op_add (pe_fld (pv 0) rfl) pe_int) rfl)
  (pss_cons (ps_dput (hu_of hr) (pe_fld (pv 0) rfl) (pe_fld (pv 0) rfl) (pe_tup (pa_cons (pv 1) (pa_cons (pe_op op_add (pe_fld (pv 0) rfl) (pv 1)) pa_nil))) rfl)
  (pss_one (ps_ret (pe_fld (pv 0) rfl))))))
theorem ok_h_renew (HC : HCls K) (m_h_need_lease : CMn P w K mg base (L2.CX P w) 2 (clsHouse K) "need_lease" ["self", "lease"] [] (sp_h_need_lease K)) {f : Addr} {fd : FuncData} (F : FunD K "renew" "House.renew" (defArgs s_h_renew) (defBody s_h_renew) (defScope s_h_renew) [] [] f fd) : FnOk P w K mg base (L2.CX P w) 3 f fd ["self", "lease"] (sp_h_renew K) := by
  refine FunD.ok (CX := (L2.CX P w)) (k := 2) F sc_h_renew (by
    intro vs H Q E h
    first
      | (obtain ⟨_, rfl, _⟩ := h; rfl)
      | (obtain ⟨_, _, rfl, _⟩ := h; rfl)
      | (obtain ⟨_, _, _, rfl, _⟩ := h; rfl)
      | (obtain ⟨_, _, _, _, rfl, _⟩ := h; rfl)
      | (obtain ⟨_, _, _, _, _, rfl, _⟩ := h; rfl)
      | (obtain ⟨_, _, _, _, _, _, rfl, _⟩ := h; rfl)
      | (obtain ⟨_, _, _, _, _, _, _, rfl, _⟩ := h; rfl)
      | (obtain ⟨_, _, _, _, _, _, _, _, rfl, _⟩ := h; rfl)
      | (obtain ⟨_, _, _, _, _, _, _, _, _, rfl, _⟩ := h; rfl)
      | (obtain ⟨_, _, _, _, _, _, _, _, _, _, rfl, _⟩ := h; rfl)
      | (obtain ⟨_, _, _, _, _, _, _, _, _, _, _, rfl, _⟩ := h; rfl)) (fun cdv A outer s H vs Q E hr h => ⟨t_h_renew K E, ?_, pure_h_renew HC h⟩)
  exact (pss_cons (ps_expr (pe_cm (pl := plainOf' _ _) (pv 0) HC.Housecl m_h_need_lease (hr.mono (by decide)) (passE (takes_of rfl rfl rfl rfl)) (pa_cons (pv 1) pa_nil)))
  (pss_one (ps_dput (hu_of hr) (pe_fld (pv 0) rfl) (pv 1) (pe_tup (pa_cons (pe_ix ix_tup (pe_dget (hu_of hr) (pe_fld (pv 0) rfl) (pv 1) (fun _ _ => rfl)) pe_int (fun _ _ => rfl)) (pa_cons (pe_op op_add (pe_fld (pv 0) rfl) (pe_ix ix_tup (pe_dget (hu_of hr) (pe_fld (pv 0) rfl) (pv 1) (fun _ _ => rfl)) pe_int (fun _ _ => rfl))) pa_nil))) rfl)))
theorem ok_h_keys_of (B : Bi mg) (HC : HCls K) (m_h_need_lease : CMn P w K mg base (L2.CX P w) 2 (clsHouse K) "need_lease" ["self", "lease"] [] (sp_h_need_lease K)) {f : Addr} {fd : FuncData} (F : FunD K "keys_of" "House.keys_of" (defArgs s_h_keys_of) (defBody s_h_keys_of) (defScope s_h_keys_of) [] [] f fd) : FnOk P w K mg base (L2.CX P w) 3 f fd ["self", "lease"] (sp_h_keys_of K) := by
  refine FunD.ok (CX := (L2.CX P w)) (k := 2) F sc_h_keys_of (by
    intro vs H Q E h
    first
      | (obtain ⟨_, rfl, _⟩ := h; rfl)
      | (obtain ⟨_, _, rfl, _⟩ := h; rfl)
      | (obtain ⟨_, _, _, rfl, _⟩ := h; rfl)
      | (obtain ⟨_, _, _, _, rfl, _⟩ := h; rfl)
      | (obtain ⟨_, _, _, _, _, rfl, _⟩ := h; rfl)
      | (obtain ⟨_, _, _, _, _, _, rfl, _⟩ := h; rfl)
      | (obtain ⟨_, _, _, _, _, _, _, rfl, _⟩ := h; rfl)
      | (obtain ⟨_, _, _, _, _, _, _, _, rfl, _⟩ := h; rfl)
      | (obtain ⟨_, _, _, _, _, _, _, _, _, rfl, _⟩ := h; rfl)
      | (obtain ⟨_, _, _, _, _, _, _, _, _, _, rfl, _⟩ := h; rfl)
      | (obtain ⟨_, _, _, _, _, _, _, _, _, _, _, rfl, _⟩ := h; rfl)) (fun cdv A outer s H vs Q E hr h => ⟨t_h_keys_of K E, ?_, pure_h_keys_of HC h⟩)
  exact (pss_cons (ps_expr (pe_cm (pl := plainOf' _ _) (pv 0) HC.Housecl m_h_need_lease (hr.mono (by decide)) (passE (takes_of rfl rfl rfl rfl)) (pa_cons (pv 1) pa_nil)))
  (pss_one (ps_ret (pe_lc (own := [("key", 2)]) (g := (gName 2)) (tt := (tTest (tOp rEq (tOp (rIxT K) (tDGet (tFld K (tVar 0) "records") (tVar 2)) (tC (.int 4))) (tVar 1)))) rfl sc_h_keys_of.nd (pi_list (pe_callB cr_sortedS (by rfl) B.sorted (by decide +kernel) (pa_cons (pe_callTy (call_list_dK rfl) (by rfl) B.list (by decide +kernel) (pa_cons (pe_fld (pv 0) rfl) pa_nil)) pa_nil))) (blkOk_by (own := [("key", 2)]) (N := ["self", "lease", "key"]) (sc := defScope s_h_keys_of) (by decide +kernel)) (fun _ _ _ _ _ => (pg_name (i := 2) sc_h_keys_of.nd rfl (by first | exact Or.inl rfl | exact Or.inr rfl))) (fun _ _ _ _ _ => (pts_one (pt_cmpR op_eq (pe_ix ix_tup (pe_dget (hu_of hr) (pe_fld (pv 0) rfl) (pv 2) (fun _ _ => rfl)) pe_int (fun _ _ => rfl)) (pv 1) (nomark _)))) (fun _ _ _ _ _ => (pv 2))))))
theorem ok_h_end (HC : HCls K) (m_h_write : CMn P w K mg base CX0 2 (clsHouse K) "write" ["self", "deeds"] [] (sp_h_write K)) (m_h_keys_of : CMn P w K mg base (L2.CX P w) 3 (clsHouse K) "keys_of" ["self", "lease"] [] (sp_h_keys_of K)) {f : Addr} {fd : FuncData} (F : FunD K "end" "House.end" (defArgs s_h_end) (defBody s_h_end) (defScope s_h_end) [] [] f fd) : FnOk P w K mg base (L2.CX P w) 4 f fd ["self", "lease"] (sp_h_end K) := by
  refine FunD.ok (CX := (L2.CX P w)) (k := 3) F sc_h_end (by
    intro vs H Q E h
    first
      | (obtain ⟨_, rfl, _⟩ := h; rfl)
      | (obtain ⟨_, _, rfl, _⟩ := h; rfl)
      | (obtain ⟨_, _, _, rfl, _⟩ := h; rfl)
      | (obtain ⟨_, _, _, _, rfl, _⟩ := h; rfl)
      | (obtain ⟨_, _, _, _, _, rfl, _⟩ := h; rfl)
      | (obtain ⟨_, _, _, _, _, _, rfl, _⟩ := h; rfl)
      | (obtain ⟨_, _, _, _, _, _, _, rfl, _⟩ := h; rfl)
      | (obtain ⟨_, _, _, _, _, _, _, _, rfl, _⟩ := h; rfl)
      | (obtain ⟨_, _, _, _, _, _, _, _, _, rfl, _⟩ := h; rfl)
      | (obtain ⟨_, _, _, _, _, _, _, _, _, _, rfl, _⟩ := h; rfl)
      | (obtain ⟨_, _, _, _, _, _, _, _, _, _, _, rfl, _⟩ := h; rfl)) (fun cdv A outer s H vs Q E hr h => ⟨t_h_end K E, ?_, pure_h_end HC h⟩)
  exact (pss_cons (ps_expr (pe_cm (pl := plainOf' _ _) (pv 0) HC.Housecl m_h_write (hr.mono (by decide)) pass0 (pa_cons (pe_lc (own := [("key", 2)]) (g := (gName 2)) (tt := tYes) rfl sc_h_end.nd (pi_list (pe_cm (pl := plainOf' _ _) (pv 0) HC.Housecl m_h_keys_of (hr.mono (by decide)) (passE (takes_of rfl rfl rfl rfl)) (pa_cons (pv 1) pa_nil))) (blkOk_by (own := [("key", 2)]) (N := ["self", "lease", "key"]) (sc := defScope s_h_end) (by decide +kernel)) (fun _ _ _ _ _ => (pg_name (i := 2) sc_h_end.nd rfl (by first | exact Or.inl rfl | exact Or.inr rfl))) (fun _ _ _ _ _ => pts_nil) (fun _ _ _ _ _ => (pe_tup (pa_cons pe_str (pa_cons (pv 2) pa_nil))))) pa_nil)))
  (pss_one (ps_expr (pe_dpop1 (pe_fld (pv 0) rfl) (pv 1) (by constructor <;> rfl)))))
theorem ok_h_give_back (HC : HCls K) (m_h_need_lease : CMn P w K mg base (L2.CX P w) 2 (clsHouse K) "need_lease" ["self", "lease"] [] (sp_h_need_lease K)) (m_h_end : CMn P w K mg base (L2.CX P w) 4 (clsHouse K) "end" ["self", "lease"] [] (sp_h_end K)) {f : Addr} {fd : FuncData} (F : FunD K "give_back" "House.give_back" (defArgs s_h_give_back) (defBody s_h_give_back) (defScope s_h_give_back) [] [] f fd) : FnOk P w K mg base (L2.CX P w) 5 f fd ["self", "lease"] (sp_h_give_back K) := by
  refine FunD.ok (CX := (L2.CX P w)) (k := 4) F sc_h_give_back (by
    intro vs H Q E h
    first
      | (obtain ⟨_, rfl, _⟩ := h; rfl)
      | (obtain ⟨_, _, rfl, _⟩ := h; rfl)
      | (obtain ⟨_, _, _, rfl, _⟩ := h; rfl)
      | (obtain ⟨_, _, _, _, rfl, _⟩ := h; rfl)
      | (obtain ⟨_, _, _, _, _, rfl, _⟩ := h; rfl)
      | (obtain ⟨_, _, _, _, _, _, rfl, _⟩ := h; rfl)
      | (obtain ⟨_, _, _, _, _, _, _, rfl, _⟩ := h; rfl)
      | (obtain ⟨_, _, _, _, _, _, _, _, rfl, _⟩ := h; rfl)
      | (obtain ⟨_, _, _, _, _, _, _, _, _, rfl, _⟩ := h; rfl)
      | (obtain ⟨_, _, _, _, _, _, _, _, _, _, rfl, _⟩ := h; rfl)
      | (obtain ⟨_, _, _, _, _, _, _, _, _, _, _, rfl, _⟩ := h; rfl)) (fun cdv A outer s H vs Q E hr h => ⟨t_h_give_back K E, ?_, pure_h_give_back HC h⟩)
  exact (pss_cons (ps_expr (pe_cm (pl := plainOf' _ _) (pv 0) HC.Housecl m_h_need_lease (hr.mono (by decide)) (passE (takes_of rfl rfl rfl rfl)) (pa_cons (pv 1) pa_nil)))
  (pss_one (ps_expr (pe_cm (pl := plainOf' _ _) (pv 0) HC.Housecl m_h_end (hr.mono (by decide)) (passE (takes_of rfl rfl rfl rfl)) (pa_cons (pv 1) pa_nil)))))
theorem ok_h_wait (B : Bi mg) (HC : HCls K) (m_h_need_term : CMn P w K mg base (L2.CX P w) 2 (clsHouse K) "need_term" ["self", "term"] [] (sp_h_need_term K)) (m_h_end : CMn P w K mg base (L2.CX P w) 4 (clsHouse K) "end" ["self", "lease"] [] (sp_h_end K)) {f : Addr} {fd : FuncData} (F : FunD K "wait" "House.wait" (defArgs s_h_wait) (defBody s_h_wait) (defScope s_h_wait) [] [] f fd) : FnOk P w K mg base (L2.CX P w) 5 f fd ["self", "many"] (sp_h_wait K) := by
  refine FunD.ok (CX := (L2.CX P w)) (k := 4) F sc_h_wait (by
    intro vs H Q E h
    first
      | (obtain ⟨_, rfl, _⟩ := h; rfl)
      | (obtain ⟨_, _, rfl, _⟩ := h; rfl)
      | (obtain ⟨_, _, _, rfl, _⟩ := h; rfl)
      | (obtain ⟨_, _, _, _, rfl, _⟩ := h; rfl)
      | (obtain ⟨_, _, _, _, _, rfl, _⟩ := h; rfl)
      | (obtain ⟨_, _, _, _, _, _, rfl, _⟩ := h; rfl)
      | (obtain ⟨_, _, _, _, _, _, _, rfl, _⟩ := h; rfl)
      | (obtain ⟨_, _, _, _, _, _, _, _, rfl, _⟩ := h; rfl)
      | (obtain ⟨_, _, _, _, _, _, _, _, _, rfl, _⟩ := h; rfl)
      | (obtain ⟨_, _, _, _, _, _, _, _, _, _, rfl, _⟩ := h; rfl)
      | (obtain ⟨_, _, _, _, _, _, _, _, _, _, _, rfl, _⟩ := h; rfl)) (fun cdv A outer s H vs Q E hr h => ⟨t_h_wait K E, ?_, pure_h_wait HC h⟩)
  exact (pss_cons (ps_expr (pe_cm (pl := plainOf' _ _) (pv 0) HC.Housecl m_h_need_term (hr.mono (by decide)) (passE (takes_of rfl rfl rfl rfl)) (pa_cons (pv 1) pa_nil)))
  (pss_cons (ps_set (i := 2) sc_h_wait.nd rfl (by first | exact Or.inl rfl | exact Or.inr rfl) (pe_op op_add (pe_fld (pv 0) rfl) (pv 1)))
  (pss_cons (ps_set (i := 3) sc_h_wait.nd rfl (by first | exact Or.inl rfl | exact Or.inr rfl) (pe_callB cr_sortedPO (by rfl) B.sorted (by decide +kernel) (pa_cons (pe_lock (pe_lc (own := [("lease", 4)]) (g := (gName 4)) (tt := tYes) rfl sc_h_wait.nd (pi_keys (pe_fld (pv 0) rfl)) (blkOk_by (own := [("lease", 4)]) (N := ["self", "many", "goal", "due", "lease", "when"]) (sc := defScope s_h_wait) (by decide +kernel)) (fun _ _ _ _ _ => (pg_name (i := 4) sc_h_wait.nd rfl (by first | exact Or.inl rfl | exact Or.inr rfl))) (fun _ _ _ _ _ => pts_nil) (fun _ _ _ _ _ => (pe_tup (pa_cons (pe_ix ix_tup (pe_dget (hu_of hr) (pe_fld (pv 0) rfl) (pv 4) (fun _ _ => rfl)) pe_int (fun _ _ => rfl)) (pa_cons (pv 4) pa_nil)))))) pa_nil)))
  (pss_cons (ps_for (passes_of rfl) rfl (pi_list (pv 3)) (pg_tup rfl (pgs_cons (pg_name (i := 5) sc_h_wait.nd rfl (by first | exact Or.inl rfl | exact Or.inr rfl)) (pgs_cons (pg_name (i := 4) sc_h_wait.nd rfl (by first | exact Or.inl rfl | exact Or.inr rfl)) pgs_nil)))
  (pss_one (ps_if (pt_cmpR op_le (pv 5) (pv 2) (nomark _)) (pss_cons (ps_fld (pv 0) (pv 5) rfl)
  (pss_one (ps_expr (pe_cm (pl := plainOf' _ _) (pv 0) HC.Housecl m_h_end (hr.mono (by decide)) (passE (takes_of rfl rfl rfl rfl)) (pa_cons (pv 4) pa_nil))))) pss_nil)))
  (pss_one (ps_fld (pv 0) (pv 2) rfl))))))
theorem ok_h_leases (B : Bi mg) (HC : HCls K) {f : Addr} {fd : FuncData} (F : FunD K "leases" "House.leases" (defArgs s_h_leases) (defBody s_h_leases) (defScope s_h_leases) [] [] f fd) : FnOk P w K mg base CX0 1 f fd ["self"] (sp_h_leases K) := by
  refine FunD.ok (CX := CX0) (k := 0) F sc_h_leases (by
    intro vs H Q E h
    first
      | (obtain ⟨_, rfl, _⟩ := h; rfl)
      | (obtain ⟨_, _, rfl, _⟩ := h; rfl)
      | (obtain ⟨_, _, _, rfl, _⟩ := h; rfl)
      | (obtain ⟨_, _, _, _, rfl, _⟩ := h; rfl)
      | (obtain ⟨_, _, _, _, _, rfl, _⟩ := h; rfl)
      | (obtain ⟨_, _, _, _, _, _, rfl, _⟩ := h; rfl)
      | (obtain ⟨_, _, _, _, _, _, _, rfl, _⟩ := h; rfl)
      | (obtain ⟨_, _, _, _, _, _, _, _, rfl, _⟩ := h; rfl)
      | (obtain ⟨_, _, _, _, _, _, _, _, _, rfl, _⟩ := h; rfl)
      | (obtain ⟨_, _, _, _, _, _, _, _, _, _, rfl, _⟩ := h; rfl)
      | (obtain ⟨_, _, _, _, _, _, _, _, _, _, _, rfl, _⟩ := h; rfl)) (fun cdv A outer s H vs Q E hr h => ⟨t_h_leases K, PSs.nox ?_, pure_h_leases HC h⟩)
  exact (pss_one (ps_ret (pe_callB cr_sortedI (by rfl) B.sorted (by decide +kernel) (pa_cons (pe_callTy (call_list_dK rfl) (by rfl) B.list (by decide +kernel) (pa_cons (pe_fld (pv 0) rfl) pa_nil)) pa_nil))))
theorem ok_l_cell_at (B : Bi mg) {f : Addr} {fd : FuncData} (F : FunD K "_law_cell_at" "_law_cell_at" (defArgs s_l_cell_at) (defBody s_l_cell_at) (defScope s_l_cell_at) [] [] f fd) : FnOk P w K mg base CX0 1 f fd ["script", "k"] (sp_l_cell_at K) := by
  refine FunD.ok (CX := CX0) (k := 0) F sc_l_cell_at (by
    intro vs H Q E h
    first
      | (obtain ⟨_, rfl, _⟩ := h; rfl)
      | (obtain ⟨_, _, rfl, _⟩ := h; rfl)
      | (obtain ⟨_, _, _, rfl, _⟩ := h; rfl)
      | (obtain ⟨_, _, _, _, rfl, _⟩ := h; rfl)
      | (obtain ⟨_, _, _, _, _, rfl, _⟩ := h; rfl)
      | (obtain ⟨_, _, _, _, _, _, rfl, _⟩ := h; rfl)
      | (obtain ⟨_, _, _, _, _, _, _, rfl, _⟩ := h; rfl)
      | (obtain ⟨_, _, _, _, _, _, _, _, rfl, _⟩ := h; rfl)
      | (obtain ⟨_, _, _, _, _, _, _, _, _, rfl, _⟩ := h; rfl)
      | (obtain ⟨_, _, _, _, _, _, _, _, _, _, rfl, _⟩ := h; rfl)
      | (obtain ⟨_, _, _, _, _, _, _, _, _, _, _, rfl, _⟩ := h; rfl)) (fun cdv A outer s H vs Q E hr h => ⟨t_l_cell_at K, PSs.nox ?_, pure_l_cell_at h⟩)
  exact (pss_cons (ps_if (pt_cmpR op_lt (pv 1) (pe_callB call_len_seq1 (by rfl) B.len (by decide +kernel) (pa_cons (pv 0) pa_nil)) (nomark _)) (pss_one (ps_ret (pe_ix ix_list (pv 0) (pv 1) (fun _ _ => rfl)))) pss_nil)
  (pss_cons (ps_if (pt_cmpR (op_eqP hr.units) (pv 0) (pe_lst pa_nil) (nomark _)) (pss_one (ps_ret pe_int)) pss_nil)
  (pss_one (ps_ret (pe_op op_add (pe_op op_mul (pe_ix ix_list (pv 0) (pe_op op_mod (pv 1) (pe_callB call_len_seq1 (by rfl) B.len (by decide +kernel) (pa_cons (pv 0) pa_nil))) (fun _ _ => rfl)) pe_int) (pv 1))))))
theorem ok_l_mixed (c_l_cell_at : CFn P w K mg base CX0 1 "_law_cell_at" ["script", "k"] (sp_l_cell_at K)) {f : Addr} {fd : FuncData} (F : FunD K "_law_mixed" "_law_mixed" (defArgs s_l_mixed) (defBody s_l_mixed) (defScope s_l_mixed) [] [] f fd) : FnOk P w K mg base CX0 2 f fd ["script", "k", "many"] (sp_l_mixed K) := by
  refine FunD.ok (CX := CX0) (k := 1) F sc_l_mixed (by
    intro vs H Q E h
    first
      | (obtain ⟨_, rfl, _⟩ := h; rfl)
      | (obtain ⟨_, _, rfl, _⟩ := h; rfl)
      | (obtain ⟨_, _, _, rfl, _⟩ := h; rfl)
      | (obtain ⟨_, _, _, _, rfl, _⟩ := h; rfl)
      | (obtain ⟨_, _, _, _, _, rfl, _⟩ := h; rfl)
      | (obtain ⟨_, _, _, _, _, _, rfl, _⟩ := h; rfl)
      | (obtain ⟨_, _, _, _, _, _, _, rfl, _⟩ := h; rfl)
      | (obtain ⟨_, _, _, _, _, _, _, _, rfl, _⟩ := h; rfl)
      | (obtain ⟨_, _, _, _, _, _, _, _, _, rfl, _⟩ := h; rfl)
      | (obtain ⟨_, _, _, _, _, _, _, _, _, _, rfl, _⟩ := h; rfl)
      | (obtain ⟨_, _, _, _, _, _, _, _, _, _, _, rfl, _⟩ := h; rfl)) (fun cdv A outer s H vs Q E hr h => ⟨t_l_mixed K, PSs.nox ?_, pure_l_mixed h⟩)
  exact (pss_cons (ps_set (i := 3) sc_l_mixed.nd rfl (by first | exact Or.inl rfl | exact Or.inr rfl) (pe_op op_mod (pe_op op_mul (pe_op op_add (pe_op op_add (pe_cf c_l_cell_at (hr.mono (by decide)) (by rfl) pass0 (pa_cons (pv 0) (pa_cons (pv 1) pa_nil))) (pe_op op_mul pe_int (pv 1))) pe_int) pe_int) pe_int))
  (pss_one (ps_ret (pe_op op_mod (pe_op op_mod (pe_op op_add (pe_op op_add (pe_op op_mul (pv 3) (pv 3)) (pe_op op_mul pe_int (pv 3))) (pv 1)) pe_int) (pv 2)))))
theorem ok_l_key (B : Bi mg) (c_l_mixed : CFn P w K mg base CX0 2 "_law_mixed" ["script", "k", "many"] (sp_l_mixed K)) {f : Addr} {fd : FuncData} (F : FunD K "_law_key" "_law_key" (defArgs s_l_key) (defBody s_l_key) (defScope s_l_key) [] [] f fd) : FnOk P w K mg base CX0 3 f fd ["script", "at"] (sp_l_key K) := by
  refine FunD.ok (CX := CX0) (k := 2) F sc_l_key (by
    intro vs H Q E h
    first
      | (obtain ⟨_, rfl, _⟩ := h; rfl)
      | (obtain ⟨_, _, rfl, _⟩ := h; rfl)
      | (obtain ⟨_, _, _, rfl, _⟩ := h; rfl)
      | (obtain ⟨_, _, _, _, rfl, _⟩ := h; rfl)
      | (obtain ⟨_, _, _, _, _, rfl, _⟩ := h; rfl)
      | (obtain ⟨_, _, _, _, _, _, rfl, _⟩ := h; rfl)
      | (obtain ⟨_, _, _, _, _, _, _, rfl, _⟩ := h; rfl)
      | (obtain ⟨_, _, _, _, _, _, _, _, rfl, _⟩ := h; rfl)
      | (obtain ⟨_, _, _, _, _, _, _, _, _, rfl, _⟩ := h; rfl)
      | (obtain ⟨_, _, _, _, _, _, _, _, _, _, rfl, _⟩ := h; rfl)
      | (obtain ⟨_, _, _, _, _, _, _, _, _, _, _, rfl, _⟩ := h; rfl)) (fun cdv A outer s H vs Q E hr h => ⟨t_l_key K, PSs.nox ?_, pure_l_key h⟩)
  exact (pss_cons (ps_set (i := 2) sc_l_key.nd rfl (by first | exact Or.inl rfl | exact Or.inr rfl) pe_str)
  (pss_cons (ps_set (i := 3) sc_l_key.nd rfl (by first | exact Or.inl rfl | exact Or.inr rfl) pe_str)
  (pss_cons (ps_for PassesOwn.never rfl (pi_range1 (by rfl) B.range (pa_cons (pe_ix ix_list (pe_lst (pa_cons pe_int (pa_cons pe_int (pa_cons pe_int (pa_cons pe_int (pa_cons pe_int (pa_cons pe_int (pa_cons pe_int pa_nil)))))))) (pe_cf c_l_mixed (hr.mono (by decide)) (by rfl) pass0 (pa_cons (pv 0) (pa_cons (pv 1) (pa_cons pe_int pa_nil)))) (fun _ _ => rfl)) pa_nil)) (pg_name (i := 4) sc_l_key.nd rfl (by first | exact Or.inl rfl | exact Or.inr rfl))
  (pss_one (ps_set (i := 3) sc_l_key.nd rfl (by first | exact Or.inl rfl | exact Or.inr rfl) (pe_op op_catS (pv 3) (pe_ix ix_str (pv 2) (pe_cf c_l_mixed (hr.mono (by decide)) (by rfl) pass0 (pa_cons (pv 0) (pa_cons (pe_op op_add (pe_op op_add (pv 1) pe_int) (pv 4)) (pa_cons pe_int pa_nil)))) (fun _ _ => rfl))))))
  (pss_one (ps_ret (pv 3))))))
theorem ok_l_keys (B : Bi mg) (c_l_key : CFn P w K mg base CX0 3 "_law_key" ["script", "at"] (sp_l_key K)) (c_l_mixed : CFn P w K mg base CX0 2 "_law_mixed" ["script", "k", "many"] (sp_l_mixed K)) {f : Addr} {fd : FuncData} (F : FunD K "_law_keys" "_law_keys" (defArgs s_l_keys) (defBody s_l_keys) (defScope s_l_keys) [] [] f fd) : FnOk P w K mg base CX0 4 f fd ["script", "at"] (sp_l_keys K) := by
  refine FunD.ok (CX := CX0) (k := 3) F sc_l_keys (by
    intro vs H Q E h
    first
      | (obtain ⟨_, rfl, _⟩ := h; rfl)
      | (obtain ⟨_, _, rfl, _⟩ := h; rfl)
      | (obtain ⟨_, _, _, rfl, _⟩ := h; rfl)
      | (obtain ⟨_, _, _, _, rfl, _⟩ := h; rfl)
      | (obtain ⟨_, _, _, _, _, rfl, _⟩ := h; rfl)
      | (obtain ⟨_, _, _, _, _, _, rfl, _⟩ := h; rfl)
      | (obtain ⟨_, _, _, _, _, _, _, rfl, _⟩ := h; rfl)
      | (obtain ⟨_, _, _, _, _, _, _, _, rfl, _⟩ := h; rfl)
      | (obtain ⟨_, _, _, _, _, _, _, _, _, rfl, _⟩ := h; rfl)
      | (obtain ⟨_, _, _, _, _, _, _, _, _, _, rfl, _⟩ := h; rfl)
      | (obtain ⟨_, _, _, _, _, _, _, _, _, _, _, rfl, _⟩ := h; rfl)) (fun cdv A outer s H vs Q E hr h => ⟨t_l_keys K, PSs.nox ?_, pure_l_keys h⟩)
  exact (pss_cons (ps_set (i := 2) sc_l_keys.nd rfl (by first | exact Or.inl rfl | exact Or.inr rfl) (pe_lst (pa_cons (pe_cf c_l_key (hr.mono (by decide)) (by rfl) pass0 (pa_cons (pv 0) (pa_cons (pv 1) pa_nil))) pa_nil)))
  (pss_cons (ps_for PassesOwn.never rfl (pi_range1 (by rfl) B.range (pa_cons pe_int pa_nil)) (pg_name (i := 3) sc_l_keys.nd rfl (by first | exact Or.inl rfl | exact Or.inr rfl))
  (pss_cons (ps_set (i := 4) sc_l_keys.nd rfl (by first | exact Or.inl rfl | exact Or.inr rfl) (pe_op op_add (pv 1) (pe_op op_mul pe_int (pe_op op_add (pv 3) pe_int))))
  (pss_cons (ps_set (i := 5) sc_l_keys.nd rfl (by first | exact Or.inl rfl | exact Or.inr rfl) (pe_ix ix_list (pv 2) (pe_un un_neg pe_int) (fun _ _ => rfl)))
  (pss_cons (ps_set (i := 6) sc_l_keys.nd rfl (by first | exact Or.inl rfl | exact Or.inr rfl) (pe_cf c_l_mixed (hr.mono (by decide)) (by rfl) pass0 (pa_cons (pv 0) (pa_cons (pe_op op_add (pv 4) pe_int) (pa_cons pe_int pa_nil)))))
  (pss_cons (ps_set (i := 7) sc_l_keys.nd rfl (by first | exact Or.inl rfl | exact Or.inr rfl) (pe_cf c_l_mixed (hr.mono (by decide)) (by rfl) pass0 (pa_cons (pv 0) (pa_cons (pe_op op_add (pv 4) pe_int) (pa_cons (pe_callB call_len_str1 (by rfl) B.len (by decide +kernel) (pa_cons (pv 5) pa_nil)) pa_nil)))))
  (pss_one (ps_if (pt_cmpR op_eq (pv 6) pe_int (nomark _)) (pss_one (ps_expr (pe_bm PySem.F.plainAttrs_list PySem.F.slot_list_append PySem.F.type_list_append mt_append (pv 2) (pa_cons (pe_cf c_l_key (hr.mono (by decide)) (by rfl) pass0 (pa_cons (pv 0) (pa_cons (pv 4) pa_nil))) pa_nil)))) (pss_one (ps_if (PW.pt (pw_and (pt_cmpR op_eq (pv 6) pe_int (nomark _)) (pw_and1 (pt_cmpR op_lt (pe_callB call_len_str1 (by rfl) B.len (by decide +kernel) (pa_cons (pv 5) pa_nil)) pe_int (nomark _))))) (pss_one (ps_expr (pe_bm PySem.F.plainAttrs_list PySem.F.slot_list_append PySem.F.type_list_append mt_append (pv 2) (pa_cons (pe_op op_catS (pv 5) (pe_ix ix_str (pe_cf c_l_key (hr.mono (by decide)) (by rfl) pass0 (pa_cons (pv 0) (pa_cons (pv 4) pa_nil))) pe_int (fun _ _ => rfl))) pa_nil)))) (pss_one (ps_expr (pe_bm PySem.F.plainAttrs_list PySem.F.slot_list_append PySem.F.type_list_append mt_append (pv 2) (pa_cons (pe_op op_catS (pe_op op_catS (pe_slice sl_str (pv 5) po_none (po_some (pv 7))) (pe_ix ix_str (pe_cf c_l_key (hr.mono (by decide)) (by rfl) pass0 (pa_cons (pv 0) (pa_cons (pv 4) pa_nil))) pe_int (fun _ _ => rfl))) (pe_slice sl_str (pv 5) (po_some (pe_op op_add (pv 7) pe_int)) po_none)) pa_nil)))))))))))))
  (pss_one (ps_ret (pv 2)))))
theorem ok_l_span (B : Bi mg) (c_l_mixed : CFn P w K mg base CX0 2 "_law_mixed" ["script", "k", "many"] (sp_l_mixed K)) {f : Addr} {fd : FuncData} (F : FunD K "_law_span" "_law_span" (defArgs s_l_span) (defBody s_l_span) (defScope s_l_span) [] [] f fd) : FnOk P w K mg base CX0 3 f fd ["script", "at", "keys"] (sp_l_span K) := by
  refine FunD.ok (CX := CX0) (k := 2) F sc_l_span (by
    intro vs H Q E h
    first
      | (obtain ⟨_, rfl, _⟩ := h; rfl)
      | (obtain ⟨_, _, rfl, _⟩ := h; rfl)
      | (obtain ⟨_, _, _, rfl, _⟩ := h; rfl)
      | (obtain ⟨_, _, _, _, rfl, _⟩ := h; rfl)
      | (obtain ⟨_, _, _, _, _, rfl, _⟩ := h; rfl)
      | (obtain ⟨_, _, _, _, _, _, rfl, _⟩ := h; rfl)
      | (obtain ⟨_, _, _, _, _, _, _, rfl, _⟩ := h; rfl)
      | (obtain ⟨_, _, _, _, _, _, _, _, rfl, _⟩ := h; rfl)
      | (obtain ⟨_, _, _, _, _, _, _, _, _, rfl, _⟩ := h; rfl)
      | (obtain ⟨_, _, _, _, _, _, _, _, _, _, rfl, _⟩ := h; rfl)
      | (obtain ⟨_, _, _, _, _, _, _, _, _, _, _, rfl, _⟩ := h; rfl)) (fun cdv A outer s H vs Q E hr h => ⟨t_l_span K, PSs.nox ?_, pure_l_span h⟩)
  exact (pss_cons (ps_set (i := 3) sc_l_span.nd rfl (by first | exact Or.inl rfl | exact Or.inr rfl) (pe_lst (pa_cons (pe_ix ix_list (pv 2) (pe_cf c_l_mixed (hr.mono (by decide)) (by rfl) pass0 (pa_cons (pv 0) (pa_cons (pv 1) (pa_cons (pe_callB call_len_seq1 (by rfl) B.len (by decide +kernel) (pa_cons (pv 2) pa_nil)) pa_nil)))) (fun _ _ => rfl)) (pa_cons (pe_ix ix_list (pv 2) (pe_cf c_l_mixed (hr.mono (by decide)) (by rfl) pass0 (pa_cons (pv 0) (pa_cons (pe_op op_add (pv 1) pe_int) (pa_cons (pe_callB call_len_seq1 (by rfl) B.len (by decide +kernel) (pa_cons (pv 2) pa_nil)) pa_nil)))) (fun _ _ => rfl)) pa_nil))))
  (pss_cons (ps_if (pt_cmpR op_eq (pe_cf c_l_mixed (hr.mono (by decide)) (by rfl) pass0 (pa_cons (pv 0) (pa_cons (pe_op op_add (pv 1) pe_int) (pa_cons pe_int pa_nil)))) pe_int (nomark _)) (pss_one (ps_ret (pe_tup (pa_cons pe_str (pa_cons pe_str pa_nil))))) pss_nil)
  (pss_cons (ps_if (pt_cmpR op_eq (pe_cf c_l_mixed (hr.mono (by decide)) (by rfl) pass0 (pa_cons (pv 0) (pa_cons (pe_op op_add (pv 1) pe_int) (pa_cons pe_int pa_nil)))) pe_int (nomark _)) (pss_one (ps_ret (pe_tup (pa_cons (pe_callB (cr_maxS rfl) (by rfl) B.max (by decide +kernel) (pa_cons (pv 3) pa_nil)) (pa_cons (pe_callB (cr_minS rfl) (by rfl) B.min (by decide +kernel) (pa_cons (pv 3) pa_nil)) pa_nil))))) pss_nil)
  (pss_one (ps_ret (pe_tup (pa_cons (pe_callB (cr_minS rfl) (by rfl) B.min (by decide +kernel) (pa_cons (pv 3) pa_nil)) (pa_cons (pe_callB (cr_maxS rfl) (by rfl) B.max (by decide +kernel) (pa_cons (pv 3) pa_nil)) pa_nil))))))))
theorem ok_l_lease (B : Bi mg) (c_l_mixed : CFn P w K mg base CX0 2 "_law_mixed" ["script", "k", "many"] (sp_l_mixed K)) {f : Addr} {fd : FuncData} (F : FunD K "_law_lease" "_law_lease" (defArgs s_l_lease) (defBody s_l_lease) (defScope s_l_lease) [] [] f fd) : FnOk P w K mg base CX0 3 f fd ["script", "at", "leases"] (sp_l_lease K) := by
  refine FunD.ok (CX := CX0) (k := 2) F sc_l_lease (by
    intro vs H Q E h
    first
      | (obtain ⟨_, rfl, _⟩ := h; rfl)
      | (obtain ⟨_, _, rfl, _⟩ := h; rfl)
      | (obtain ⟨_, _, _, rfl, _⟩ := h; rfl)
      | (obtain ⟨_, _, _, _, rfl, _⟩ := h; rfl)
      | (obtain ⟨_, _, _, _, _, rfl, _⟩ := h; rfl)
      | (obtain ⟨_, _, _, _, _, _, rfl, _⟩ := h; rfl)
      | (obtain ⟨_, _, _, _, _, _, _, rfl, _⟩ := h; rfl)
      | (obtain ⟨_, _, _, _, _, _, _, _, rfl, _⟩ := h; rfl)
      | (obtain ⟨_, _, _, _, _, _, _, _, _, rfl, _⟩ := h; rfl)
      | (obtain ⟨_, _, _, _, _, _, _, _, _, _, rfl, _⟩ := h; rfl)
      | (obtain ⟨_, _, _, _, _, _, _, _, _, _, _, rfl, _⟩ := h; rfl)) (fun cdv A outer s H vs Q E hr h => ⟨t_l_lease K, PSs.nox ?_, pure_l_lease h⟩)
  exact (pss_cons (ps_if (PW.pt (pw_or (pt_cmpR (op_eqP hr.units) (pv 2) (pe_lst pa_nil) (nomark _)) (pw_or1 (pt_cmpR op_eq (pe_cf c_l_mixed (hr.mono (by decide)) (by rfl) pass0 (pa_cons (pv 0) (pa_cons (pv 1) (pa_cons pe_int pa_nil)))) pe_int (nomark _))))) (pss_one (ps_ret pe_non)) pss_nil)
  (pss_one (ps_ret (pe_ix ix_list (pv 2) (pe_cf c_l_mixed (hr.mono (by decide)) (by rfl) pass0 (pa_cons (pv 0) (pa_cons (pe_op op_add (pv 1) pe_int) (pa_cons (pe_callB call_len_seq1 (by rfl) B.len (by decide +kernel) (pa_cons (pv 2) pa_nil)) pa_nil)))) (fun _ _ => rfl)))))
theorem ok_l_one_deed (c_l_mixed : CFn P w K mg base CX0 2 "_law_mixed" ["script", "k", "many"] (sp_l_mixed K)) (c_l_lease : CFn P w K mg base CX0 3 "_law_lease" ["script", "at", "leases"] (sp_l_lease K)) {f : Addr} {fd : FuncData} (F : FunD K "_law_one_deed" "_law_one_deed" (defArgs s_l_one_deed) (defBody s_l_one_deed) (defScope s_l_one_deed) [] [] f fd) : FnOk P w K mg base CX0 4 f fd ["script", "at", "key", "leases"] (sp_l_one_deed K) := by
  refine FunD.ok (CX := CX0) (k := 3) F sc_l_one_deed (by
    intro vs H Q E h
    first
      | (obtain ⟨_, rfl, _⟩ := h; rfl)
      | (obtain ⟨_, _, rfl, _⟩ := h; rfl)
      | (obtain ⟨_, _, _, rfl, _⟩ := h; rfl)
      | (obtain ⟨_, _, _, _, rfl, _⟩ := h; rfl)
      | (obtain ⟨_, _, _, _, _, rfl, _⟩ := h; rfl)
      | (obtain ⟨_, _, _, _, _, _, rfl, _⟩ := h; rfl)
      | (obtain ⟨_, _, _, _, _, _, _, rfl, _⟩ := h; rfl)
      | (obtain ⟨_, _, _, _, _, _, _, _, rfl, _⟩ := h; rfl)
      | (obtain ⟨_, _, _, _, _, _, _, _, _, rfl, _⟩ := h; rfl)
      | (obtain ⟨_, _, _, _, _, _, _, _, _, _, rfl, _⟩ := h; rfl)
      | (obtain ⟨_, _, _, _, _, _, _, _, _, _, _, rfl, _⟩ := h; rfl)) (fun cdv A outer s H vs Q E hr h => ⟨t_l_one_deed K, PSs.nox ?_, pure_l_one_deed h⟩)
  exact (pss_cons (ps_if (pt_cmpR op_eq (pe_cf c_l_mixed (hr.mono (by decide)) (by rfl) pass0 (pa_cons (pv 0) (pa_cons (pv 1) (pa_cons pe_int pa_nil)))) pe_int (nomark _)) (pss_one (ps_ret (pe_tup (pa_cons pe_str (pa_cons (pv 2) pa_nil))))) pss_nil)
  (pss_cons (ps_set (i := 4) sc_l_one_deed.nd rfl (by first | exact Or.inl rfl | exact Or.inr rfl) (pe_ix ix_list (pe_lst (pa_cons (pe_cf c_l_mixed (hr.mono (by decide)) (by rfl) pass0 (pa_cons (pv 0) (pa_cons (pe_op op_add (pv 1) pe_int) (pa_cons pe_int pa_nil)))) (pa_cons (pe_cf c_l_mixed (hr.mono (by decide)) (by rfl) pass0 (pa_cons (pv 0) (pa_cons (pe_op op_add (pv 1) pe_int) (pa_cons pe_int pa_nil)))) pa_nil))) (pe_cf c_l_mixed (hr.mono (by decide)) (by rfl) pass0 (pa_cons (pv 0) (pa_cons (pe_op op_add (pv 1) pe_int) (pa_cons pe_int pa_nil)))) (fun _ _ => rfl)))
  (pss_one (ps_ret (pe_tup (pa_cons pe_str (pa_cons (pv 2) (pa_cons (pv 4) (pa_cons (pe_cf c_l_lease (hr.mono (by decide)) (by rfl) pass0 (pa_cons (pv 0) (pa_cons (pe_op op_add (pv 1) pe_int) (pa_cons (pv 3) pa_nil)))) pa_nil)))))))))
theorem ok_l_condition (B : Bi mg) (c_l_mixed : CFn P w K mg base CX0 2 "_law_mixed" ["script", "k", "many"] (sp_l_mixed K)) {f : Addr} {fd : FuncData} (F : FunD K "_law_condition" "_law_condition" (defArgs s_l_condition) (defBody s_l_condition) (defScope s_l_condition) [] [] f fd) : FnOk P w K mg base CX0 3 f fd ["script", "at", "keys", "number"] (sp_l_condition K) := by
  refine FunD.ok (CX := CX0) (k := 2) F sc_l_condition (by
    intro vs H Q E h
    first
      | (obtain ⟨_, rfl, _⟩ := h; rfl)
      | (obtain ⟨_, _, rfl, _⟩ := h; rfl)
      | (obtain ⟨_, _, _, rfl, _⟩ := h; rfl)
      | (obtain ⟨_, _, _, _, rfl, _⟩ := h; rfl)
      | (obtain ⟨_, _, _, _, _, rfl, _⟩ := h; rfl)
      | (obtain ⟨_, _, _, _, _, _, rfl, _⟩ := h; rfl)
      | (obtain ⟨_, _, _, _, _, _, _, rfl, _⟩ := h; rfl)
      | (obtain ⟨_, _, _, _, _, _, _, _, rfl, _⟩ := h; rfl)
      | (obtain ⟨_, _, _, _, _, _, _, _, _, rfl, _⟩ := h; rfl)
      | (obtain ⟨_, _, _, _, _, _, _, _, _, _, rfl, _⟩ := h; rfl)
      | (obtain ⟨_, _, _, _, _, _, _, _, _, _, _, rfl, _⟩ := h; rfl)) (fun cdv A outer s H vs Q E hr h => ⟨t_l_condition K, PSs.nox ?_, pure_l_condition h⟩)
  exact (pss_cons (ps_set (i := 4) sc_l_condition.nd rfl (by first | exact Or.inl rfl | exact Or.inr rfl) (pe_cf c_l_mixed (hr.mono (by decide)) (by rfl) pass0 (pa_cons (pv 0) (pa_cons (pv 1) (pa_cons pe_int pa_nil)))))
  (pss_cons (ps_set (i := 5) sc_l_condition.nd rfl (by first | exact Or.inl rfl | exact Or.inr rfl) (pe_ix ix_list (pv 2) (pe_cf c_l_mixed (hr.mono (by decide)) (by rfl) pass0 (pa_cons (pv 0) (pa_cons (pe_op op_add (pv 1) pe_int) (pa_cons (pe_callB call_len_seq1 (by rfl) B.len (by decide +kernel) (pa_cons (pv 2) pa_nil)) pa_nil)))) (fun _ _ => rfl)))
  (pss_cons (ps_if (pt_cmpR op_eq (pv 4) pe_int (nomark _)) (pss_one (ps_ret (pe_tup (pa_cons pe_str (pa_cons (pv 5) (pa_cons (pe_cf c_l_mixed (hr.mono (by decide)) (by rfl) pass0 (pa_cons (pv 0) (pa_cons (pe_op op_add (pv 1) pe_int) (pa_cons pe_int pa_nil)))) pa_nil)))))) pss_nil)
  (pss_cons (ps_if (pt_cmpR op_eq (pv 4) pe_int (nomark _)) (pss_one (ps_ret (pe_tup (pa_cons pe_str (pa_cons (pv 5) (pa_cons (pe_cf c_l_mixed (hr.mono (by decide)) (by rfl) pass0 (pa_cons (pv 0) (pa_cons (pe_op op_add (pv 1) pe_int) (pa_cons pe_int pa_nil)))) pa_nil)))))) pss_nil)
  (pss_cons (ps_if (pt_cmpR op_eq (pv 4) pe_int (nomark _)) (pss_one (ps_ret (pe_tup (pa_cons pe_str (pa_cons (pv 5) (pa_cons (pe_cf c_l_mixed (hr.mono (by decide)) (by rfl) pass0 (pa_cons (pv 0) (pa_cons (pe_op op_add (pv 1) pe_int) (pa_cons (pe_op op_add (pv 3) pe_int) pa_nil)))) pa_nil)))))) pss_nil)
  (pss_cons (ps_if (pt_cmpR op_eq (pv 4) pe_int (nomark _)) (pss_one (ps_ret (pe_tup (pa_cons pe_str (pa_cons (pv 5) (pa_cons (pe_cf c_l_mixed (hr.mono (by decide)) (by rfl) pass0 (pa_cons (pv 0) (pa_cons (pe_op op_add (pv 1) pe_int) (pa_cons (pe_op op_add (pv 3) pe_int) pa_nil)))) pa_nil)))))) pss_nil)
  (pss_cons (ps_if (pt_cmpR op_eq (pv 4) pe_int (nomark _)) (pss_one (ps_ret (pe_tup (pa_cons pe_str (pa_cons (pe_tup (pa_cons pe_str (pa_cons (pv 5) (pa_cons pe_int pa_nil)))) pa_nil))))) pss_nil)
  (pss_one (ps_ret (pe_tup (pa_cons pe_str (pa_cons (pe_tup (pa_cons pe_str (pa_cons (pe_tup (pa_cons pe_str (pa_cons (pv 5) (pa_cons (pe_cf c_l_mixed (hr.mono (by decide)) (by rfl) pass0 (pa_cons (pv 0) (pa_cons (pe_op op_add (pv 1) pe_int) (pa_cons pe_int pa_nil)))) pa_nil)))) pa_nil))) pa_nil))))))))))))
theorem ok_l_deal_deeds (B : Bi mg) (c_l_mixed : CFn P w K mg base CX0 2 "_law_mixed" ["script", "k", "many"] (sp_l_mixed K)) (c_l_one_deed : CFn P w K mg base CX0 4 "_law_one_deed" ["script", "at", "key", "leases"] (sp_l_one_deed K)) {f : Addr} {fd : FuncData} (F : FunD K "_law_deal_deeds" "_law_deal_deeds" (defArgs s_l_deal_deeds) (defBody s_l_deal_deeds) (defScope s_l_deal_deeds) [] [] f fd) : FnOk P w K mg base CX0 5 f fd ["script", "at", "keys", "leases"] (sp_l_deal_deeds K) := by
  refine FunD.ok (CX := CX0) (k := 4) F sc_l_deal_deeds (by
    intro vs H Q E h
    first
      | (obtain ⟨_, rfl, _⟩ := h; rfl)
      | (obtain ⟨_, _, rfl, _⟩ := h; rfl)
      | (obtain ⟨_, _, _, rfl, _⟩ := h; rfl)
      | (obtain ⟨_, _, _, _, rfl, _⟩ := h; rfl)
      | (obtain ⟨_, _, _, _, _, rfl, _⟩ := h; rfl)
      | (obtain ⟨_, _, _, _, _, _, rfl, _⟩ := h; rfl)
      | (obtain ⟨_, _, _, _, _, _, _, rfl, _⟩ := h; rfl)
      | (obtain ⟨_, _, _, _, _, _, _, _, rfl, _⟩ := h; rfl)
      | (obtain ⟨_, _, _, _, _, _, _, _, _, rfl, _⟩ := h; rfl)
      | (obtain ⟨_, _, _, _, _, _, _, _, _, _, rfl, _⟩ := h; rfl)
      | (obtain ⟨_, _, _, _, _, _, _, _, _, _, _, rfl, _⟩ := h; rfl)) (fun cdv A outer s H vs Q E hr h => ⟨t_l_deal_deeds K, PSs.nox ?_, pure_l_deal_deeds h⟩)
  exact (pss_cons (ps_set (i := 4) sc_l_deal_deeds.nd rfl (by first | exact Or.inl rfl | exact Or.inr rfl) (pe_cf c_l_mixed (hr.mono (by decide)) (by rfl) pass0 (pa_cons (pv 0) (pa_cons (pv 1) (pa_cons (pe_callB call_len_seq1 (by rfl) B.len (by decide +kernel) (pa_cons (pv 2) pa_nil)) pa_nil)))))
  (pss_cons (ps_set (i := 5) sc_l_deal_deeds.nd rfl (by first | exact Or.inl rfl | exact Or.inr rfl) (pe_callTy (call_list_dK rfl) (by rfl) B.list (by decide +kernel) (pa_cons (pe_callTy (call_dictP1 rfl) (by rfl) B.dict (by decide +kernel) (pa_cons (pe_lc (own := [("key", 6)]) (g := (gName 6)) (tt := tYes) rfl sc_l_deal_deeds.nd (pi_list (pe_op op_cat (pe_slice sl_list (pv 2) (po_some (pv 4)) po_none) (pe_slice sl_list (pv 2) po_none (po_some (pv 4))))) (blkOk_by (own := [("key", 6)]) (N := ["script", "at", "keys", "leases", "turn", "names", "key", "some", "k"]) (sc := defScope s_l_deal_deeds) (by decide +kernel)) (fun _ _ _ _ _ => (pg_name (i := 6) sc_l_deal_deeds.nd rfl (by first | exact Or.inl rfl | exact Or.inr rfl))) (fun _ _ _ _ _ => pts_nil) (fun _ _ _ _ _ => (pe_tup (pa_cons (pv 6) (pa_cons pe_bl pa_nil))))) pa_nil)) pa_nil)))
  (pss_cons (ps_set (i := 7) sc_l_deal_deeds.nd rfl (by first | exact Or.inl rfl | exact Or.inr rfl) (pe_slice sl_list (pv 5) po_none (po_some (pe_cf c_l_mixed (hr.mono (by decide)) (by rfl) pass0 (pa_cons (pv 0) (pa_cons (pe_op op_add (pv 1) pe_int) (pa_cons pe_int pa_nil)))))))
  (pss_one (ps_ret (pe_callTy call_tuple_of1 (by rfl) B.tuple (by decide +kernel) (pa_cons (pe_lc (own := [("k", 8), ("key", 6)]) (g := (gTup K 2 (gCons (gName 8) (gCons (gName 6) gNil)))) (tt := tYes) rfl sc_l_deal_deeds.nd (pi_enum (by rfl) B.enumerate (pa_cons (pv 7) pa_nil)) (blkOk_by (own := [("k", 8), ("key", 6)]) (N := ["script", "at", "keys", "leases", "turn", "names", "key", "some", "k"]) (sc := defScope s_l_deal_deeds) (by decide +kernel)) (fun _ _ _ _ _ => (pg_tup rfl (pgs_cons (pg_name (i := 8) sc_l_deal_deeds.nd rfl (by first | exact Or.inl rfl | exact Or.inr rfl)) (pgs_cons (pg_name (i := 6) sc_l_deal_deeds.nd rfl (by first | exact Or.inl rfl | exact Or.inr rfl)) pgs_nil)))) (fun _ _ _ _ _ => pts_nil) (fun _ _ _ _ _ => (pe_cf c_l_one_deed (hr.mono (by decide)) (by rfl) pass0 (pa_cons (pv 0) (pa_cons (pe_op op_add (pe_op op_add (pv 1) pe_int) (pe_op op_mul pe_int (pv 8))) (pa_cons (pv 6) (pa_cons (pv 3) pa_nil))))))) pa_nil)))))))
theorem ok_l_deed (B : Bi mg) (c_l_mixed : CFn P w K mg base CX0 2 "_law_mixed" ["script", "k", "many"] (sp_l_mixed K)) (c_l_one_deed : CFn P w K mg base CX0 4 "_law_one_deed" ["script", "at", "key", "leases"] (sp_l_one_deed K)) (c_l_condition : CFn P w K mg base CX0 3 "_law_condition" ["script", "at", "keys", "number"] (sp_l_condition K)) (c_l_deal_deeds : CFn P w K mg base CX0 5 "_law_deal_deeds" ["script", "at", "keys", "leases"] (sp_l_deal_deeds K)) {f : Addr} {fd : FuncData} (F : FunD K "_law_deed" "_law_deed" (defArgs s_l_deed) (defBody s_l_deed) (defScope s_l_deed) [] [] f fd) : FnOk P w K mg base CX0 6 f fd ["script", "at", "keys", "leases", "number"] (sp_l_deed K) := by
  refine FunD.ok (CX := CX0) (k := 5) F sc_l_deed (by
    intro vs H Q E h
    first
      | (obtain ⟨_, rfl, _⟩ := h; rfl)
      | (obtain ⟨_, _, rfl, _⟩ := h; rfl)
      | (obtain ⟨_, _, _, rfl, _⟩ := h; rfl)
      | (obtain ⟨_, _, _, _, rfl, _⟩ := h; rfl)
      | (obtain ⟨_, _, _, _, _, rfl, _⟩ := h; rfl)
      | (obtain ⟨_, _, _, _, _, _, rfl, _⟩ := h; rfl)
      | (obtain ⟨_, _, _, _, _, _, _, rfl, _⟩ := h; rfl)
      | (obtain ⟨_, _, _, _, _, _, _, _, rfl, _⟩ := h; rfl)
      | (obtain ⟨_, _, _, _, _, _, _, _, _, rfl, _⟩ := h; rfl)
      | (obtain ⟨_, _, _, _, _, _, _, _, _, _, rfl, _⟩ := h; rfl)
      | (obtain ⟨_, _, _, _, _, _, _, _, _, _, _, rfl, _⟩ := h; rfl)) (fun cdv A outer s H vs Q E hr h => ⟨t_l_deed K, PSs.nox ?_, pure_l_deed h⟩)
  exact (pss_cons (ps_set (i := 5) sc_l_deed.nd rfl (by first | exact Or.inl rfl | exact Or.inr rfl) (pe_cf c_l_mixed (hr.mono (by decide)) (by rfl) pass0 (pa_cons (pv 0) (pa_cons (pv 1) (pa_cons pe_int pa_nil)))))
  (pss_cons (ps_if (PW.pt (pw_and (pt_cmpR op_lt (pv 5) pe_int (nomark _)) (pw_and1 (pt_cmpR op_gt (pe_cf c_l_mixed (hr.mono (by decide)) (by rfl) pass0 (pa_cons (pv 0) (pa_cons (pe_op op_add (pv 1) pe_int) (pa_cons pe_int pa_nil)))) pe_int (nomark _))))) (pss_cons (ps_set (i := 6) sc_l_deed.nd rfl (by first | exact Or.inl rfl | exact Or.inr rfl) (pe_cf c_l_one_deed (hr.mono (by decide)) (by rfl) pass0 (pa_cons (pv 0) (pa_cons (pe_op op_add (pv 1) pe_int) (pa_cons (pe_ix ix_list (pv 2) (pe_cf c_l_mixed (hr.mono (by decide)) (by rfl) pass0 (pa_cons (pv 0) (pa_cons (pe_op op_add (pv 1) pe_int) (pa_cons (pe_callB call_len_seq1 (by rfl) B.len (by decide +kernel) (pa_cons (pv 2) pa_nil)) pa_nil)))) (fun _ _ => rfl)) (pa_cons (pv 3) pa_nil))))))
  (pss_one (ps_ret (pv 6)))) pss_nil)
  (pss_cons (ps_if (pt_cmpR op_lt (pv 5) pe_int (nomark _)) (pss_cons (ps_setLc (i := 7) (own := [("k", 8)]) (g := (gName 8)) (tt := tYes) rfl sc_l_deed.nd rfl rfl (sw_true rfl rfl rfl (by decide +kernel)) (pi_range1 (by rfl) B.range (pa_cons (pe_cf c_l_mixed (hr.mono (by decide)) (by rfl) pass0 (pa_cons (pv 0) (pa_cons (pe_op op_add (pv 1) pe_int) (pa_cons pe_int pa_nil)))) pa_nil)) (blkOk_by (own := [("k", 8)]) (N := ["script", "at", "keys", "leases", "number", "kind", "deed", "some", "k", "then", "terms", "lease"]) (sc := defScope s_l_deed) (by decide +kernel)) (fun _ _ _ _ _ => (pg_name (i := 8) sc_l_deed.nd rfl (by first | exact Or.inl rfl | exact Or.inr rfl))) (fun _ _ _ _ _ => pts_nil) (fun _ _ _ _ _ => (pe_cf c_l_condition (hr.mono (by decide)) (by rfl) pass0 (pa_cons (pv 0) (pa_cons (pe_op op_add (pe_op op_add (pv 1) pe_int) (pe_op op_mul pe_int (pv 8))) (pa_cons (pv 2) (pa_cons (pv 4) pa_nil)))))))
  (pss_cons (ps_set (i := 9) sc_l_deed.nd rfl (by first | exact Or.inl rfl | exact Or.inr rfl) (pe_cf c_l_deal_deeds (hr.mono (by decide)) (by rfl) pass0 (pa_cons (pv 0) (pa_cons (pe_op op_add (pv 1) pe_int) (pa_cons (pv 2) (pa_cons (pv 3) pa_nil))))))
  (pss_one (ps_ret (pe_tup (pa_cons pe_str (pa_cons (pe_callTy call_tuple_of1 (by rfl) B.tuple (by decide +kernel) (pa_cons (pv 7) pa_nil)) (pa_cons (pv 9) (pa_cons (pe_cf c_l_deal_deeds (hr.mono (by decide)) (by rfl) pass0 (pa_cons (pv 0) (pa_cons (pe_op op_add (pv 1) pe_int) (pa_cons (pv 2) (pa_cons (pv 3) pa_nil))))) pa_nil))))))))) pss_nil)
  (pss_cons (ps_if (pt_cmpR op_lt (pv 5) pe_int (nomark _)) (pss_cons (ps_set (i := 10) sc_l_deed.nd rfl (by first | exact Or.inl rfl | exact Or.inr rfl) (pe_lst (pa_cons (pe_cf c_l_mixed (hr.mono (by decide)) (by rfl) pass0 (pa_cons (pv 0) (pa_cons (pe_op op_add (pv 1) pe_int) (pa_cons pe_int pa_nil)))) (pa_cons (pe_cf c_l_mixed (hr.mono (by decide)) (by rfl) pass0 (pa_cons (pv 0) (pa_cons (pe_op op_add (pv 1) pe_int) (pa_cons pe_int pa_nil)))) pa_nil))))
  (pss_one (ps_ret (pe_tup (pa_cons pe_str (pa_cons (pe_op op_add pe_int (pe_ix ix_list (pv 10) (pe_cf c_l_mixed (hr.mono (by decide)) (by rfl) pass0 (pa_cons (pv 0) (pa_cons (pe_op op_add (pv 1) pe_int) (pa_cons pe_int pa_nil)))) (fun _ _ => rfl))) pa_nil)))))) pss_nil)
  (pss_cons (ps_if (PW.pt (pw_or (pt_cmpR op_lt (pv 5) pe_int (nomark _)) (pw_or1 (pt_cmpR (op_eqP hr.units) (pv 3) (pe_lst pa_nil) (nomark _))))) (pss_cons (ps_set (i := 10) sc_l_deed.nd rfl (by first | exact Or.inl rfl | exact Or.inr rfl) (pe_lst (pa_cons (pe_cf c_l_mixed (hr.mono (by decide)) (by rfl) pass0 (pa_cons (pv 0) (pa_cons (pe_op op_add (pv 1) pe_int) (pa_cons pe_int pa_nil)))) (pa_cons (pe_cf c_l_mixed (hr.mono (by decide)) (by rfl) pass0 (pa_cons (pv 0) (pa_cons (pe_op op_add (pv 1) pe_int) (pa_cons pe_int pa_nil)))) pa_nil))))
  (pss_one (ps_ret (pe_tup (pa_cons pe_str (pa_cons (pe_op op_add pe_int (pe_ix ix_list (pv 10) (pe_op op_fdiv (pe_cf c_l_mixed (hr.mono (by decide)) (by rfl) pass0 (pa_cons (pv 0) (pa_cons (pe_op op_add (pv 1) pe_int) (pa_cons pe_int pa_nil)))) pe_int) (fun _ _ => rfl))) pa_nil)))))) pss_nil)
  (pss_cons (ps_set (i := 11) sc_l_deed.nd rfl (by first | exact Or.inl rfl | exact Or.inr rfl) (pe_ix ix_list (pv 3) (pe_cf c_l_mixed (hr.mono (by decide)) (by rfl) pass0 (pa_cons (pv 0) (pa_cons (pe_op op_add (pv 1) pe_int) (pa_cons (pe_callB call_len_seq1 (by rfl) B.len (by decide +kernel) (pa_cons (pv 3) pa_nil)) pa_nil)))) (fun _ _ => rfl)))
  (pss_one (ps_ret (pe_tup (pa_cons (pe_ix ix_list (pe_lst (pa_cons pe_str (pa_cons pe_str (pa_cons pe_str pa_nil)))) (pe_op op_sub (pv 5) pe_int) (fun _ _ => rfl)) (pa_cons (pv 11) pa_nil)))))))))))
theorem ok_l_do (HC : HCls K) (m_h_put_1 : CMn P w K mg base (L2.CX P w) 4 (clsHouse K) "put" ["self", "key", "value", "lease"] [.non] (sp_h_put K)) (m_h_put_0 : CMn P w K mg base (L2.CX P w) 4 (clsHouse K) "put" ["self", "key", "value", "lease"] [] (sp_h_put K)) (m_h_drop : CMn P w K mg base (L2.CX P w) 3 (clsHouse K) "drop" ["self", "key"] [] (sp_h_drop K)) (m_h_deal : CMn P w K mg base (L2.CX P w) 8 (clsHouse K) "deal" ["self", "conditions", "then", "other"] [] (sp_h_deal K)) (m_h_grant : CMn P w K mg base (L2.CX P w) 3 (clsHouse K) "grant" ["self", "term"] [] (sp_h_grant K)) (m_h_wait : CMn P w K mg base (L2.CX P w) 5 (clsHouse K) "wait" ["self", "many"] [] (sp_h_wait K)) (m_h_renew : CMn P w K mg base (L2.CX P w) 3 (clsHouse K) "renew" ["self", "lease"] [] (sp_h_renew K)) (m_h_give_back : CMn P w K mg base (L2.CX P w) 5 (clsHouse K) "give_back" ["self", "lease"] [] (sp_h_give_back K)) {f : Addr} {fd : FuncData} (F : FunD K "_law_do" "_law_do" (defArgs s_l_do) (defBody s_l_do) (defScope s_l_do) [] [] f fd) : FnOk P w K mg base CX0 9 f fd ["house", "deed"] (sp_l_do K) := by
  refine FunD.ok (CX := CX0) (k := 8) F sc_l_do (by
    intro vs H Q E h
    first
      | (obtain ⟨_, rfl, _⟩ := h; rfl)
      | (obtain ⟨_, _, rfl, _⟩ := h; rfl)
      | (obtain ⟨_, _, _, rfl, _⟩ := h; rfl)
      | (obtain ⟨_, _, _, _, rfl, _⟩ := h; rfl)
      | (obtain ⟨_, _, _, _, _, rfl, _⟩ := h; rfl)
      | (obtain ⟨_, _, _, _, _, _, rfl, _⟩ := h; rfl)
      | (obtain ⟨_, _, _, _, _, _, _, rfl, _⟩ := h; rfl)
      | (obtain ⟨_, _, _, _, _, _, _, _, rfl, _⟩ := h; rfl)
      | (obtain ⟨_, _, _, _, _, _, _, _, _, rfl, _⟩ := h; rfl)
      | (obtain ⟨_, _, _, _, _, _, _, _, _, _, rfl, _⟩ := h; rfl)
      | (obtain ⟨_, _, _, _, _, _, _, _, _, _, _, rfl, _⟩ := h; rfl)) (fun cdv A outer s H vs Q E hr h => ⟨t_l_do K, PSs.nox ?_, pure_l_do h⟩)
  exact (pss_cons (ps_set (i := 2) sc_l_do.nd rfl (by first | exact Or.inl rfl | exact Or.inr rfl) (pe_ix ix_tup (pv 1) pe_int (fun _ _ => rfl)))
  (pss_cons (ps_if (PW.pt (pw_and (pt_cmpR op_eq (pv 2) pe_str (nomark _)) (pw_and1 (pt_cmpR op_isN1 (pe_ix ix_tup (pv 1) pe_int (fun _ _ => rfl)) pe_non (nomark _))))) (pss_one (ps_ret (pe_cm (pl := plainOf' _ _) (pv 0) HC.Housecl m_h_put_1 (hr.mono (by decide)) passL (pa_cons (pe_ix ix_tup (pv 1) pe_int (fun _ _ => rfl)) (pa_cons (pe_ix ix_tup (pv 1) pe_int (fun _ _ => rfl)) pa_nil))))) pss_nil)
  (pss_cons (ps_if (pt_cmpR op_eq (pv 2) pe_str (nomark _)) (pss_one (ps_ret (pe_cm (pl := plainOf' _ _) (pv 0) HC.Housecl m_h_put_0 (hr.mono (by decide)) passL (pa_cons (pe_ix ix_tup (pv 1) pe_int (fun _ _ => rfl)) (pa_cons (pe_ix ix_tup (pv 1) pe_int (fun _ _ => rfl)) (pa_cons (pe_ix ix_tup (pv 1) pe_int (fun _ _ => rfl)) pa_nil)))))) pss_nil)
  (pss_cons (ps_if (pt_cmpR op_eq (pv 2) pe_str (nomark _)) (pss_one (ps_ret (pe_cm (pl := plainOf' _ _) (pv 0) HC.Housecl m_h_drop (hr.mono (by decide)) passL (pa_cons (pe_ix ix_tup (pv 1) pe_int (fun _ _ => rfl)) pa_nil)))) pss_nil)
  (pss_cons (ps_if (pt_cmpR op_eq (pv 2) pe_str (nomark _)) (pss_one (ps_ret (pe_cm (pl := plainOf' _ _) (pv 0) HC.Housecl m_h_deal (hr.mono (by decide)) passL (pa_cons (pe_ix ix_tup (pv 1) pe_int (fun _ _ => rfl)) (pa_cons (pe_ix ix_tup (pv 1) pe_int (fun _ _ => rfl)) (pa_cons (pe_ix ix_tup (pv 1) pe_int (fun _ _ => rfl)) pa_nil)))))) pss_nil)
  (pss_cons (ps_if (pt_cmpR op_eq (pv 2) pe_str (nomark _)) (pss_one (ps_ret (pe_cm (pl := plainOf' _ _) (pv 0) HC.Housecl m_h_grant (hr.mono (by decide)) passL (pa_cons (pe_ix ix_tup (pv 1) pe_int (fun _ _ => rfl)) pa_nil)))) pss_nil)
  (pss_cons (ps_if (pt_cmpR op_eq (pv 2) pe_str (nomark _)) (pss_one (ps_expr (pe_cm (pl := plainOf' _ _) (pv 0) HC.Housecl m_h_wait (hr.mono (by decide)) passL (pa_cons (pe_ix ix_tup (pv 1) pe_int (fun _ _ => rfl)) pa_nil)))) (pss_one (ps_if (pt_cmpR op_eq (pv 2) pe_str (nomark _)) (pss_one (ps_expr (pe_cm (pl := plainOf' _ _) (pv 0) HC.Housecl m_h_renew (hr.mono (by decide)) passL (pa_cons (pe_ix ix_tup (pv 1) pe_int (fun _ _ => rfl)) pa_nil)))) (pss_one (ps_expr (pe_cm (pl := plainOf' _ _) (pv 0) HC.Housecl m_h_give_back (hr.mono (by decide)) passL (pa_cons (pe_ix ix_tup (pv 1) pe_int (fun _ _ => rfl)) pa_nil)))))))
  (pss_one (ps_ret pe_non)))))))))
theorem ok_l_drive (B : Bi mg) (HC : HCls K) (c_l_deed : CFn P w K mg base CX0 6 "_law_deed" ["script", "at", "keys", "leases", "number"] (sp_l_deed K)) (m_h_number : CMn P w K mg base CX0 1 (clsHouse K) "number" ["self"] [] (sp_h_number K)) (m_h_leases : CMn P w K mg base CX0 1 (clsHouse K) "leases" ["self"] [] (sp_h_leases K)) (c_l_do : CFn P w K mg base CX0 9 "_law_do" ["house", "deed"] (sp_l_do K)) {f : Addr} {fd : FuncData} (F : FunD K "_law_drive" "_law_drive" (defArgs s_l_drive) (defBody s_l_drive) (defScope s_l_drive) [] [] f fd) : FnOk P w K mg base CX0 10 f fd ["script", "at", "house", "keys", "many"] (sp_l_drive K) := by
  refine FunD.ok (CX := CX0) (k := 9) F sc_l_drive (by
    intro vs H Q E h
    first
      | (obtain ⟨_, rfl, _⟩ := h; rfl)
      | (obtain ⟨_, _, rfl, _⟩ := h; rfl)
      | (obtain ⟨_, _, _, rfl, _⟩ := h; rfl)
      | (obtain ⟨_, _, _, _, rfl, _⟩ := h; rfl)
      | (obtain ⟨_, _, _, _, _, rfl, _⟩ := h; rfl)
      | (obtain ⟨_, _, _, _, _, _, rfl, _⟩ := h; rfl)
      | (obtain ⟨_, _, _, _, _, _, _, rfl, _⟩ := h; rfl)
      | (obtain ⟨_, _, _, _, _, _, _, _, rfl, _⟩ := h; rfl)
      | (obtain ⟨_, _, _, _, _, _, _, _, _, rfl, _⟩ := h; rfl)
      | (obtain ⟨_, _, _, _, _, _, _, _, _, _, rfl, _⟩ := h; rfl)
      | (obtain ⟨_, _, _, _, _, _, _, _, _, _, _, rfl, _⟩ := h; rfl)) (fun cdv A outer s H vs Q E hr h => ⟨t_l_drive K, PSs.nox ?_, pure_l_drive h⟩)
  exact (pss_cons (ps_set (i := 5) sc_l_drive.nd rfl (by first | exact Or.inl rfl | exact Or.inr rfl) (pe_lst pa_nil))
  (pss_cons (ps_for PassesOwn.never rfl (pi_range1 (by rfl) B.range (pa_cons (pv 4) pa_nil)) (pg_name (i := 6) sc_l_drive.nd rfl (by first | exact Or.inl rfl | exact Or.inr rfl))
  (pss_cons (ps_set (i := 7) sc_l_drive.nd rfl (by first | exact Or.inl rfl | exact Or.inr rfl) (pe_cf c_l_deed (hr.mono (by decide)) (by rfl) pass0 (pa_cons (pv 0) (pa_cons (pe_op op_add (pv 1) (pe_op op_mul pe_int (pv 6))) (pa_cons (pv 3) (pa_cons (pe_cm0 (pl := plainOf' _ _) (pv 2) HC.Housecl m_h_leases (hr.mono (by decide)) pass0) (pa_cons (pe_cm0 (pl := plainOf' _ _) (pv 2) HC.Housecl m_h_number (hr.mono (by decide)) pass0) pa_nil)))))))
  (pss_one (ps_expr (pe_bm PySem.F.plainAttrs_list PySem.F.slot_list_append PySem.F.type_list_append mt_append (pv 5) (pa_cons (pe_tup (pa_cons (pv 7) (pa_cons (pe_cf c_l_do (hr.mono (by decide)) (by rfl) pass0 (pa_cons (pv 2) (pa_cons (pv 7) pa_nil))) pa_nil))) pa_nil))))))
  (pss_one (ps_ret (pv 5)))))
theorem ok_law (B : Bi mg) (HC : HCls K) (c_l_keys : CFn P w K mg base CX0 4 "_law_keys" ["script", "at"] (sp_l_keys K)) (k_h_init : CKn P w K mg base CX0 1 (clsHouse K) "House" ["self"] (sp_h_init K)) (c_l_drive : CFn P w K mg base CX0 10 "_law_drive" ["script", "at", "house", "keys", "many"] (sp_l_drive K)) (c_l_mixed : CFn P w K mg base CX0 2 "_law_mixed" ["script", "k", "many"] (sp_l_mixed K)) (m_h_number : CMn P w K mg base CX0 1 (clsHouse K) "number" ["self"] [] (sp_h_number K)) (c_l_span : CFn P w K mg base CX0 3 "_law_span" ["script", "at", "keys"] (sp_l_span K)) (m_h_changes : CMn P w K mg base (L2.CX P w) 3 (clsHouse K) "changes" ["self", "first", "last", "number"] [] (sp_h_changes K)) (c_mirrored : CFn P w K mg base (L2.CX P w) 6 "mirrored" ["rows", "events"] (sp_mirrored K)) (m_h_rows_0 : CMn P w K mg base (L2.CX P w) 4 (clsHouse K) "rows" ["self", "first", "last", "number"] [] (sp_h_rows K)) {f : Addr} {fd : FuncData} (F : FunD K "law" "law" (defArgs s_law) (defBody s_law) (defScope s_law) [] [] f fd) : FnOk P w K mg base CX0 11 f fd ["script"] (sp_law K) := by
  refine FunD.ok (CX := CX0) (k := 10) F sc_law (by
    intro vs H Q E h
    first
      | (obtain ⟨_, rfl, _⟩ := h; rfl)
      | (obtain ⟨_, _, rfl, _⟩ := h; rfl)
      | (obtain ⟨_, _, _, rfl, _⟩ := h; rfl)
      | (obtain ⟨_, _, _, _, rfl, _⟩ := h; rfl)
      | (obtain ⟨_, _, _, _, _, rfl, _⟩ := h; rfl)
      | (obtain ⟨_, _, _, _, _, _, rfl, _⟩ := h; rfl)
      | (obtain ⟨_, _, _, _, _, _, _, rfl, _⟩ := h; rfl)
      | (obtain ⟨_, _, _, _, _, _, _, _, rfl, _⟩ := h; rfl)
      | (obtain ⟨_, _, _, _, _, _, _, _, _, rfl, _⟩ := h; rfl)
      | (obtain ⟨_, _, _, _, _, _, _, _, _, _, rfl, _⟩ := h; rfl)
      | (obtain ⟨_, _, _, _, _, _, _, _, _, _, _, rfl, _⟩ := h; rfl)) (fun cdv A outer s H vs Q E hr h => ⟨t_law K, PSs.nox ?_, pure_law HC h⟩)
  exact (pss_cons (ps_set (i := 1) sc_law.nd rfl (by first | exact Or.inl rfl | exact Or.inr rfl) (pe_cf c_l_keys (hr.mono (by decide)) (by rfl) pass0 (pa_cons (pv 0) (pa_cons pe_int pa_nil))))
  (pss_cons (ps_set (i := 2) sc_law.nd rfl (by first | exact Or.inl rfl | exact Or.inr rfl) (pe_ck0 k_h_init (hr.mono (by decide)) (by rfl) pass0))
  (pss_cons (ps_expr (pe_cf c_l_drive (hr.mono (by decide)) (by rfl) pass0 (pa_cons (pv 0) (pa_cons pe_int (pa_cons (pv 2) (pa_cons (pv 1) (pa_cons (pe_cf c_l_mixed (hr.mono (by decide)) (by rfl) pass0 (pa_cons (pv 0) (pa_cons pe_int (pa_cons (pe_ix ix_list (pe_lst (pa_cons pe_int (pa_cons pe_int pa_nil))) (pe_callTy call_int1a (by rfl) B.int (by decide +kernel) (pa_cons (pe_cmpR op_eq (pe_cf c_l_mixed (hr.mono (by decide)) (by rfl) pass0 (pa_cons (pv 0) (pa_cons pe_int (pa_cons pe_int pa_nil)))) pe_int (nomark _)) pa_nil)) (fun _ _ => rfl)) pa_nil)))) pa_nil)))))))
  (pss_cons (ps_set (i := 3) sc_law.nd rfl (by first | exact Or.inl rfl | exact Or.inr rfl) (pe_callB cr_sortedI (by rfl) B.sorted (by decide +kernel) (pa_cons (pe_lst (pa_cons (pe_cf c_l_mixed (hr.mono (by decide)) (by rfl) pass0 (pa_cons (pv 0) (pa_cons pe_int (pa_cons (pe_op op_add (pe_cm0 (pl := plainOf' _ _) (pv 2) HC.Housecl m_h_number (hr.mono (by decide)) pass0) pe_int) pa_nil)))) (pa_cons (pe_cf c_l_mixed (hr.mono (by decide)) (by rfl) pass0 (pa_cons (pv 0) (pa_cons pe_int (pa_cons (pe_op op_add (pe_cm0 (pl := plainOf' _ _) (pv 2) HC.Housecl m_h_number (hr.mono (by decide)) pass0) pe_int) pa_nil)))) pa_nil))) pa_nil)))
  (pss_cons (ps_asg (pe_cf c_l_span (hr.mono (by decide)) (by rfl) pass0 (pa_cons (pv 0) (pa_cons pe_int (pa_cons (pv 1) pa_nil)))) (pg_tup rfl (pgs_cons (pg_name (i := 4) sc_law.nd rfl (by first | exact Or.inl rfl | exact Or.inr rfl)) (pgs_cons (pg_name (i := 5) sc_law.nd rfl (by first | exact Or.inl rfl | exact Or.inr rfl)) pgs_nil))))
  (pss_cons (ps_setLc (i := 6) (own := [("event", 7)]) (g := (gName 7)) (tt := (tTest (tOp rLeI (tOp (rIxT K) (tVar 7) (tC (.int 0))) (tOp (rIxL K) (tVar 3) (tC (.int 1)))))) rfl sc_law.nd rfl rfl (sw_true rfl rfl rfl (by decide +kernel)) (pi_list (pe_cm (pl := plainOf' _ _) (pv 2) HC.Housecl m_h_changes (hr.mono (by decide)) passL (pa_cons (pv 4) (pa_cons (pv 5) (pa_cons (pe_op op_add (pe_ix ix_list (pv 3) pe_int (fun _ _ => rfl)) pe_int) pa_nil))))) (blkOk_by (own := [("event", 7)]) (N := ["script", "keys", "house", "ends", "first", "last", "events", "event"]) (sc := defScope s_law) (by decide +kernel)) (fun _ _ _ _ _ => (pg_name (i := 7) sc_law.nd rfl (by first | exact Or.inl rfl | exact Or.inr rfl))) (fun _ _ _ _ _ => (pts_one (pt_cmpR op_le (pe_ix ix_tup (pv 7) pe_int (fun _ _ => rfl)) (pe_ix ix_list (pv 3) pe_int (fun _ _ => rfl)) (nomark _)))) (fun _ _ _ _ _ => (pv 7)))
  (pss_one (ps_ret (pe_cmpR (op_eqP hr.units) (pe_cf c_mirrored (hr.mono (by decide)) (by rfl) passL (pa_cons (pe_cm (pl := plainOf' _ _) (pv 2) HC.Housecl m_h_rows_0 (hr.mono (by decide)) passL (pa_cons (pv 4) (pa_cons (pv 5) (pa_cons (pe_ix ix_list (pv 3) pe_int (fun _ _ => rfl)) pa_nil)))) (pa_cons (pv 6) pa_nil))) (pe_cm (pl := plainOf' _ _) (pv 2) HC.Housecl m_h_rows_0 (hr.mono (by decide)) passL (pa_cons (pv 4) (pa_cons (pv 5) (pa_cons (pe_ix ix_list (pv 3) pe_int (fun _ _ => rfl)) pa_nil)))) (nomark _))))))))))
end
def d_is_key : He.DefD := ⟨("is_key", none), "is_key", "is_key", defArgs s_is_key, defBody s_is_key, defScope s_is_key, [], []⟩
def d_is_whole : He.DefD := ⟨("is_whole", none), "is_whole", "is_whole", defArgs s_is_whole, defBody s_is_whole, defScope s_is_whole, [], []⟩
def d_is_value : He.DefD := ⟨("is_value", none), "is_value", "is_value", defArgs s_is_value, defBody s_is_value, defScope s_is_value, [], []⟩
def d_need_key : He.DefD := ⟨("need_key", none), "need_key", "need_key", defArgs s_need_key, defBody s_need_key, defScope s_need_key, [], []⟩
def d_need_value : He.DefD := ⟨("need_value", none), "need_value", "need_value", defArgs s_need_value, defBody s_need_value, defScope s_need_value, [], []⟩
def d_need_whole : He.DefD := ⟨("need_whole", none), "need_whole", "need_whole", defArgs s_need_whole, defBody s_need_whole, defScope s_need_whole, [], []⟩
def d_is_within : He.DefD := ⟨("is_within", none), "is_within", "is_within", defArgs s_is_within, defBody s_is_within, defScope s_is_within, [], []⟩
def d_change : He.DefD := ⟨("change", none), "change", "change", defArgs s_change, defBody s_change, defScope s_change, [], []⟩
def d_in_rows : He.DefD := ⟨("in_rows", none), "in_rows", "in_rows", defArgs s_in_rows, defBody s_in_rows, defScope s_in_rows, [], []⟩
def d_is_lease : He.DefD := ⟨("is_lease", none), "is_lease", "is_lease", defArgs s_is_lease, defBody s_is_lease, defScope s_is_lease, [], []⟩
def d_is_record : He.DefD := ⟨("is_record", none), "is_record", "is_record", defArgs s_is_record, defBody s_is_record, defScope s_is_record, [], []⟩
def d_is_row : He.DefD := ⟨("is_row", none), "is_row", "is_row", defArgs s_is_row, defBody s_is_row, defScope s_is_row, [], []⟩
def d_are_rows : He.DefD := ⟨("are_rows", none), "are_rows", "are_rows", defArgs s_are_rows, defBody s_are_rows, defScope s_are_rows, [], []⟩
def d_is_event : He.DefD := ⟨("is_event", none), "is_event", "is_event", defArgs s_is_event, defBody s_is_event, defScope s_is_event, [], []⟩
def d_mirrored : He.DefD := ⟨("mirrored", none), "mirrored", "mirrored", defArgs s_mirrored, defBody s_mirrored, defScope s_mirrored, [], []⟩
def d_is_condition : He.DefD := ⟨("is_condition", none), "is_condition", "is_condition", defArgs s_is_condition, defBody s_is_condition, defScope s_is_condition, [], []⟩
def d_are_conditions : He.DefD := ⟨("are_conditions", none), "are_conditions", "are_conditions", defArgs s_are_conditions, defBody s_are_conditions, defScope s_are_conditions, [], []⟩
def d_holds : He.DefD := ⟨("holds", none), "holds", "holds", defArgs s_holds, defBody s_holds, defScope s_holds, [], []⟩
def d_is_deed : He.DefD := ⟨("is_deed", none), "is_deed", "is_deed", defArgs s_is_deed, defBody s_is_deed, defScope s_is_deed, [], []⟩
def d_are_deeds : He.DefD := ⟨("are_deeds", none), "are_deeds", "are_deeds", defArgs s_are_deeds, defBody s_are_deeds, defScope s_are_deeds, [], []⟩
def d_h_init : He.DefD := ⟨("House", some "__init__"), "__init__", "House.__init__", defArgs s_h_init, defBody s_h_init, defScope s_h_init, [], []⟩
def d_h_write : He.DefD := ⟨("House", some "write"), "write", "House.write", defArgs s_h_write, defBody s_h_write, defScope s_h_write, [], []⟩
def d_h_put : He.DefD := ⟨("House", some "put"), "put", "House.put", defArgs s_h_put, defBody s_h_put, defScope s_h_put, [.non], []⟩
def d_h_drop : He.DefD := ⟨("House", some "drop"), "drop", "House.drop", defArgs s_h_drop, defBody s_h_drop, defScope s_h_drop, [], []⟩
def d_h_deal : He.DefD := ⟨("House", some "deal"), "deal", "House.deal", defArgs s_h_deal, defBody s_h_deal, defScope s_h_deal, [], []⟩
def d_h_number : He.DefD := ⟨("House", some "number"), "number", "House.number", defArgs s_h_number, defBody s_h_number, defScope s_h_number, [], []⟩
def d_h_records_at : He.DefD := ⟨("House", some "records_at"), "records_at", "House.records_at", defArgs s_h_records_at, defBody s_h_records_at, defScope s_h_records_at, [], []⟩
def d_h_records_when : He.DefD := ⟨("House", some "records_when"), "records_when", "House.records_when", defArgs s_h_records_when, defBody s_h_records_when, defScope s_h_records_when, [], []⟩
def d_h_rows : He.DefD := ⟨("House", some "rows"), "rows", "House.rows", defArgs s_h_rows, defBody s_h_rows, defScope s_h_rows, [.non], []⟩
def d_h_since : He.DefD := ⟨("House", some "since"), "since", "House.since", defArgs s_h_since, defBody s_h_since, defScope s_h_since, [], []⟩
def d_h_changes : He.DefD := ⟨("House", some "changes"), "changes", "House.changes", defArgs s_h_changes, defBody s_h_changes, defScope s_h_changes, [], []⟩
def d_h_need_lease : He.DefD := ⟨("House", some "need_lease"), "need_lease", "House.need_lease", defArgs s_h_need_lease, defBody s_h_need_lease, defScope s_h_need_lease, [], []⟩
def d_h_need_term : He.DefD := ⟨("House", some "need_term"), "need_term", "House.need_term", defArgs s_h_need_term, defBody s_h_need_term, defScope s_h_need_term, [], []⟩
def d_h_grant : He.DefD := ⟨("House", some "grant"), "grant", "House.grant", defArgs s_h_grant, defBody s_h_grant, defScope s_h_grant, [], []⟩
def d_h_renew : He.DefD := ⟨("House", some "renew"), "renew", "House.renew", defArgs s_h_renew, defBody s_h_renew, defScope s_h_renew, [], []⟩
def d_h_keys_of : He.DefD := ⟨("House", some "keys_of"), "keys_of", "House.keys_of", defArgs s_h_keys_of, defBody s_h_keys_of, defScope s_h_keys_of, [], []⟩
def d_h_end : He.DefD := ⟨("House", some "end"), "end", "House.end", defArgs s_h_end, defBody s_h_end, defScope s_h_end, [], []⟩
def d_h_give_back : He.DefD := ⟨("House", some "give_back"), "give_back", "House.give_back", defArgs s_h_give_back, defBody s_h_give_back, defScope s_h_give_back, [], []⟩
def d_h_wait : He.DefD := ⟨("House", some "wait"), "wait", "House.wait", defArgs s_h_wait, defBody s_h_wait, defScope s_h_wait, [], []⟩
def d_h_leases : He.DefD := ⟨("House", some "leases"), "leases", "House.leases", defArgs s_h_leases, defBody s_h_leases, defScope s_h_leases, [], []⟩
def d_l_cell_at : He.DefD := ⟨("_law_cell_at", none), "_law_cell_at", "_law_cell_at", defArgs s_l_cell_at, defBody s_l_cell_at, defScope s_l_cell_at, [], []⟩
def d_l_mixed : He.DefD := ⟨("_law_mixed", none), "_law_mixed", "_law_mixed", defArgs s_l_mixed, defBody s_l_mixed, defScope s_l_mixed, [], []⟩
def d_l_key : He.DefD := ⟨("_law_key", none), "_law_key", "_law_key", defArgs s_l_key, defBody s_l_key, defScope s_l_key, [], []⟩
def d_l_keys : He.DefD := ⟨("_law_keys", none), "_law_keys", "_law_keys", defArgs s_l_keys, defBody s_l_keys, defScope s_l_keys, [], []⟩
def d_l_span : He.DefD := ⟨("_law_span", none), "_law_span", "_law_span", defArgs s_l_span, defBody s_l_span, defScope s_l_span, [], []⟩
def d_l_lease : He.DefD := ⟨("_law_lease", none), "_law_lease", "_law_lease", defArgs s_l_lease, defBody s_l_lease, defScope s_l_lease, [], []⟩
def d_l_one_deed : He.DefD := ⟨("_law_one_deed", none), "_law_one_deed", "_law_one_deed", defArgs s_l_one_deed, defBody s_l_one_deed, defScope s_l_one_deed, [], []⟩
def d_l_condition : He.DefD := ⟨("_law_condition", none), "_law_condition", "_law_condition", defArgs s_l_condition, defBody s_l_condition, defScope s_l_condition, [], []⟩
def d_l_deal_deeds : He.DefD := ⟨("_law_deal_deeds", none), "_law_deal_deeds", "_law_deal_deeds", defArgs s_l_deal_deeds, defBody s_l_deal_deeds, defScope s_l_deal_deeds, [], []⟩
def d_l_deed : He.DefD := ⟨("_law_deed", none), "_law_deed", "_law_deed", defArgs s_l_deed, defBody s_l_deed, defScope s_l_deed, [], []⟩
def d_l_do : He.DefD := ⟨("_law_do", none), "_law_do", "_law_do", defArgs s_l_do, defBody s_l_do, defScope s_l_do, [], []⟩
def d_l_drive : He.DefD := ⟨("_law_drive", none), "_law_drive", "_law_drive", defArgs s_l_drive, defBody s_l_drive, defScope s_l_drive, [], []⟩
def d_law : He.DefD := ⟨("law", none), "law", "law", defArgs s_law, defBody s_law, defScope s_law, [], []⟩
def fn : List He.DefD := [d_is_key, d_is_whole, d_is_value, d_need_key, d_need_value, d_need_whole, d_is_within, d_change, d_in_rows, d_is_lease, d_is_record, d_is_row, d_are_rows, d_is_event, d_mirrored, d_is_condition, d_are_conditions, d_holds, d_is_deed, d_are_deeds, d_h_init, d_h_write, d_h_put, d_h_drop, d_h_deal, d_h_number, d_h_records_at, d_h_records_when, d_h_rows, d_h_since, d_h_changes, d_h_need_lease, d_h_need_term, d_h_grant, d_h_renew, d_h_keys_of, d_h_end, d_h_give_back, d_h_wait, d_h_leases, d_l_cell_at, d_l_mixed, d_l_key, d_l_keys, d_l_span, d_l_lease, d_l_one_deed, d_l_condition, d_l_deal_deeds, d_l_deed, d_l_do, d_l_drive, d_law]
def fa : List He.Fa := [.glo "is_key", .glo "is_whole", .glo "is_value", .glo "need_key", .glo "need_value", .glo "need_whole", .glo "is_within", .glo "change", .glo "in_rows", .glo "is_lease", .glo "is_record", .glo "is_row", .glo "are_rows", .glo "is_event", .glo "mirrored", .glo "is_condition", .glo "are_conditions", .glo "holds", .glo "is_deed", .glo "are_deeds", .meth "House" "__init__", .meth "House" "write", .meth "House" "put", .meth "House" "drop", .meth "House" "deal", .meth "House" "number", .meth "House" "records_at", .meth "House" "records_when", .meth "House" "rows", .meth "House" "since", .meth "House" "changes", .meth "House" "need_lease", .meth "House" "need_term", .meth "House" "grant", .meth "House" "renew", .meth "House" "keys_of", .meth "House" "end", .meth "House" "give_back", .meth "House" "wait", .meth "House" "leases", .glo "_law_cell_at", .glo "_law_mixed", .glo "_law_key", .glo "_law_keys", .glo "_law_span", .glo "_law_lease", .glo "_law_one_deed", .glo "_law_condition", .glo "_law_deal_deeds", .glo "_law_deed", .glo "_law_do", .glo "_law_drive", .glo "law", .glo "House", .cls "House", .mkr "House", .noat "House" "records", .noat "House" "old_records", .noat "House" "log", .noat "House" "last", .noat "House" "base", .noat "House" "ends", .noat "House" "granted", .noat "House" "now", .noat "House" "spans", .noat "House" "cut", .str "SIGNS" "abcdefghijklmnopqrstuvwxyz0123456789/", .int "LONGEST" 12, .int "MOST" 9999, .int "MANY" 4, .int "DEEP" 3, .int "TERM" 99, .glo "Folded", .exc "Folded", .glo "NoCondition", .exc "NoCondition", .glo "NoDeeds", .exc "NoDeeds", .glo "NoKey", .exc "NoKey", .glo "NoLease", .exc "NoLease", .glo "NoNumber", .exc "NoNumber", .glo "NoRows", .exc "NoRows", .glo "NoValue", .exc "NoValue", .free "all", .free "any", .free "bool", .free "dict", .free "enumerate", .free "int", .free "isinstance", .free "len", .free "list", .free "max", .free "min", .free "range", .free "set", .free "sorted", .free "str", .free "tuple"]
def loose0 : List Str := ["_wall", "KeyHouseError", "NoKey", "NoValue", "NoNumber", "Folded", "NoCondition", "NoDeeds", "NoLease", "NoRows", "SIGNS", "LONGEST", "MOST", "is_key", "is_whole", "is_value", "need_key", "need_value", "need_whole", "is_within", "change", "in_rows", "is_lease", "is_record", "is_row", "are_rows", "is_event", "mirrored", "MANY", "DEEP"]
def loose1 : List Str := ["is_condition", "are_conditions", "holds", "is_deed", "are_deeds", "TERM", "House", "_law_cell_at", "_law_mixed", "_law_key", "_law_keys", "_law_span", "_law_lease", "_law_one_deed", "_law_condition", "_law_deal_deeds", "_law_deed", "_law_do", "_law_drive"]
def loose : List Str := loose0 ++ loose1
abbrev R : PySem.W.OpenRow := PySem.W.OpenLaw.row PySem.Challenge.rw_keywatch_k06_whole_from_there
def obsDL (as : List Addr) (fa : List He.Fa) (fn : List He.DefD) (g : Addr → Option Obj) : He.AlD := He.obsD fa fn (He.frG g as)
def hookDL (as : List Addr) (fa : List He.Fa) (fn : List He.DefD) : PySem.W.Hook where
  α := He.AlD
  obs := fun s => obsDL as fa fn s.heap.get?
  val := fun _ => He.valD fn
  says := fun _ h => ∃ K : PySem.W.Frag, K.In h ∧ He.SaysD fa fn K
  of := fun _ _ e => ⟨_, He.frG_in, e⟩
  keeps := fun _ _ _ y k => y.imp fun _ z => ⟨PySem.W.Frag.In.keeps z.1 k, z.2⟩
theorem obsDL_eq {as : List Addr} {fa : List He.Fa} {fn : List He.DefD} {g : Addr → Option Obj} {s : Shared} (h : ∀ a, g a = s.heap.get? a) : obsDL as fa fn g = (hookDL as fa fn).obs s := congrArg (obsDL as fa fn) (funext h)
def as : List Addr := [3, 135, 134, 142, 141, 149, 148, 156, 155, 163, 162, 170, 169, 177, 176, 184, 183, 189, 188, 196, 195, 201, 200, 208, 207, 213, 212, 220, 219, 225, 224, 232, 231, 237, 236, 244, 243, 251, 250, 256, 255, 270, 269, 275, 274, 283, 282, 276, 290, 289, 295, 294, 302, 301, 316, 315, 323, 322, 337, 336, 332, 342, 341, 349, 348, 363, 362, 370, 369, 377, 376, 384, 383, 396, 395, 401, 400, 408, 407, 413, 412, 427, 426, 502, 501, 509, 508, 516, 515, 523, 522, 530, 529, 537, 536, 544, 543, 551, 550, 556, 555, 561, 560, 568, 567, 575, 574, 580, 579, 491, 490, 80, 79, 31, 92, 91, 104, 103, 44, 43, 116, 115, 68, 67, 128, 127, 56, 55, 30]
abbrev hk : PySem.W.Hook := hookDL as fa fn
def ob (s : PySem.W.SharedT) : He.AlD := obsDL as fa fn (HandSHeadRun.getT s)
theorem ob_eq (s : PySem.W.SharedT) : ob s = hk.obs s.abs := obsDL_eq (HandSHeadRun.getT_eq s)
theorem run (w : World) : HandSHeadRun.RunEq R (PySem.W.view R.prog [55]) hk ob 40000 loose w := by
  intro os
  kernel_rfl
theorem facts {P : Program} {w : World} {K : PySem.W.Frag} {h : Heap} {mg : Str → Option Value} {f : Addr} (X : K.In h) (G : h.Ns mainGlobals mg) (hfa : mg ("law" : Str) = some (.ref f)) (c : He.SaysD fa fn K) :
    ∃ fd : FuncData, (∀ (s : Shared) (v : Value), BindsTo s fd ⟨[v], []⟩ [("script", v)]) ∧ ∀ base : Heap, K.In base → base.Ns mainGlobals mg → FnOk P w K mg base CX0 11 f fd ["script"] (sp_law K) := by
  have B : Bi mg := ⟨He.free_ok X G (c.fact 88 (f := .free "all") rfl), He.free_ok X G (c.fact 89 (f := .free "any") rfl), He.free_ok X G (c.fact 90 (f := .free "bool") rfl), He.free_ok X G (c.fact 91 (f := .free "dict") rfl), He.free_ok X G (c.fact 92 (f := .free "enumerate") rfl), He.free_ok X G (c.fact 93 (f := .free "int") rfl), He.free_ok X G (c.fact 94 (f := .free "isinstance") rfl), He.free_ok X G (c.fact 95 (f := .free "len") rfl), He.free_ok X G (c.fact 96 (f := .free "list") rfl), He.free_ok X G (c.fact 97 (f := .free "max") rfl), He.free_ok X G (c.fact 98 (f := .free "min") rfl), He.free_ok X G (c.fact 99 (f := .free "range") rfl), He.free_ok X G (c.fact 100 (f := .free "set") rfl), He.free_ok X G (c.fact 101 (f := .free "sorted") rfl), He.free_ok X G (c.fact 102 (f := .free "str") rfl), He.free_ok X G (c.fact 103 (f := .free "tuple") rfl)⟩
  have HC : HCls K := by
    refine ⟨He.cls_ok (c.fact 54 (f := .cls "House") rfl), fun f hf => ?_⟩
    have hm : f = ("records" : Str) ∨ f = ("old_records" : Str) ∨ f = ("log" : Str) ∨ f = ("last" : Str) ∨ f = ("base" : Str) ∨ f = ("ends" : Str) ∨ f = ("granted" : Str) ∨ f = ("now" : Str) ∨ f = ("spans" : Str) ∨ f = ("cut" : Str) := by
      simpa [houseFields] using hf
    rcases hm with rfl | rfl | rfl | rfl | rfl | rfl | rfl | rfl | rfl | rfl
    · exact He.noat_ok (c.fact 56 (f := .noat "House" "records") rfl)
    · exact He.noat_ok (c.fact 57 (f := .noat "House" "old_records") rfl)
    · exact He.noat_ok (c.fact 58 (f := .noat "House" "log") rfl)
    · exact He.noat_ok (c.fact 59 (f := .noat "House" "last") rfl)
    · exact He.noat_ok (c.fact 60 (f := .noat "House" "base") rfl)
    · exact He.noat_ok (c.fact 61 (f := .noat "House" "ends") rfl)
    · exact He.noat_ok (c.fact 62 (f := .noat "House" "granted") rfl)
    · exact He.noat_ok (c.fact 63 (f := .noat "House" "now") rfl)
    · exact He.noat_ok (c.fact 64 (f := .noat "House" "spans") rfl)
    · exact He.noat_ok (c.fact 65 (f := .noat "House" "cut") rfl)
  have n_DEEP := He.int_ok X G (c.fact 70 (f := .int "DEEP" 3) rfl)
  have n_LONGEST := He.int_ok X G (c.fact 67 (f := .int "LONGEST" 12) rfl)
  have n_MANY := He.int_ok X G (c.fact 69 (f := .int "MANY" 4) rfl)
  have n_MOST := He.int_ok X G (c.fact 68 (f := .int "MOST" 9999) rfl)
  have n_SIGNS := He.str_ok X G (c.fact 66 (f := .str "SIGNS" "abcdefghijklmnopqrstuvwxyz0123456789/") rfl)
  have n_TERM := He.int_ok X G (c.fact 71 (f := .int "TERM" 99) rfl)
  have x_Folded : XcOk K mg "Folded" := by
    obtain ⟨a1, a2, a3, a4⟩ := He.exc_ok (c.fact 73 (f := .exc "Folded") rfl)
    exact ⟨He.glo_ok X G (c.fact 72 (f := .glo "Folded") rfl), a1, a2, a3, a4⟩
  have x_NoCondition : XcOk K mg "NoCondition" := by
    obtain ⟨a1, a2, a3, a4⟩ := He.exc_ok (c.fact 75 (f := .exc "NoCondition") rfl)
    exact ⟨He.glo_ok X G (c.fact 74 (f := .glo "NoCondition") rfl), a1, a2, a3, a4⟩
  have x_NoDeeds : XcOk K mg "NoDeeds" := by
    obtain ⟨a1, a2, a3, a4⟩ := He.exc_ok (c.fact 77 (f := .exc "NoDeeds") rfl)
    exact ⟨He.glo_ok X G (c.fact 76 (f := .glo "NoDeeds") rfl), a1, a2, a3, a4⟩
  have x_NoKey : XcOk K mg "NoKey" := by
    obtain ⟨a1, a2, a3, a4⟩ := He.exc_ok (c.fact 79 (f := .exc "NoKey") rfl)
    exact ⟨He.glo_ok X G (c.fact 78 (f := .glo "NoKey") rfl), a1, a2, a3, a4⟩
  have x_NoLease : XcOk K mg "NoLease" := by
    obtain ⟨a1, a2, a3, a4⟩ := He.exc_ok (c.fact 81 (f := .exc "NoLease") rfl)
    exact ⟨He.glo_ok X G (c.fact 80 (f := .glo "NoLease") rfl), a1, a2, a3, a4⟩
  have x_NoNumber : XcOk K mg "NoNumber" := by
    obtain ⟨a1, a2, a3, a4⟩ := He.exc_ok (c.fact 83 (f := .exc "NoNumber") rfl)
    exact ⟨He.glo_ok X G (c.fact 82 (f := .glo "NoNumber") rfl), a1, a2, a3, a4⟩
  have x_NoRows : XcOk K mg "NoRows" := by
    obtain ⟨a1, a2, a3, a4⟩ := He.exc_ok (c.fact 85 (f := .exc "NoRows") rfl)
    exact ⟨He.glo_ok X G (c.fact 84 (f := .glo "NoRows") rfl), a1, a2, a3, a4⟩
  have x_NoValue : XcOk K mg "NoValue" := by
    obtain ⟨a1, a2, a3, a4⟩ := He.exc_ok (c.fact 87 (f := .exc "NoValue") rfl)
    exact ⟨He.glo_ok X G (c.fact 86 (f := .glo "NoValue") rfl), a1, a2, a3, a4⟩
  obtain ⟨fd_is_key, F_is_key⟩ := c.def_ 0 (d := d_is_key) rfl
  obtain ⟨fd_is_whole, F_is_whole⟩ := c.def_ 1 (d := d_is_whole) rfl
  obtain ⟨fd_is_value, F_is_value⟩ := c.def_ 2 (d := d_is_value) rfl
  obtain ⟨fd_need_key, F_need_key⟩ := c.def_ 3 (d := d_need_key) rfl
  obtain ⟨fd_need_value, F_need_value⟩ := c.def_ 4 (d := d_need_value) rfl
  obtain ⟨fd_need_whole, F_need_whole⟩ := c.def_ 5 (d := d_need_whole) rfl
  obtain ⟨fd_is_within, F_is_within⟩ := c.def_ 6 (d := d_is_within) rfl
  obtain ⟨fd_change, F_change⟩ := c.def_ 7 (d := d_change) rfl
  obtain ⟨fd_in_rows, F_in_rows⟩ := c.def_ 8 (d := d_in_rows) rfl
  obtain ⟨fd_is_lease, F_is_lease⟩ := c.def_ 9 (d := d_is_lease) rfl
  obtain ⟨fd_is_record, F_is_record⟩ := c.def_ 10 (d := d_is_record) rfl
  obtain ⟨fd_is_row, F_is_row⟩ := c.def_ 11 (d := d_is_row) rfl
  obtain ⟨fd_are_rows, F_are_rows⟩ := c.def_ 12 (d := d_are_rows) rfl
  obtain ⟨fd_is_event, F_is_event⟩ := c.def_ 13 (d := d_is_event) rfl
  obtain ⟨fd_mirrored, F_mirrored⟩ := c.def_ 14 (d := d_mirrored) rfl
  obtain ⟨fd_is_condition, F_is_condition⟩ := c.def_ 15 (d := d_is_condition) rfl
  obtain ⟨fd_are_conditions, F_are_conditions⟩ := c.def_ 16 (d := d_are_conditions) rfl
  obtain ⟨fd_holds, F_holds⟩ := c.def_ 17 (d := d_holds) rfl
  obtain ⟨fd_is_deed, F_is_deed⟩ := c.def_ 18 (d := d_is_deed) rfl
  obtain ⟨fd_are_deeds, F_are_deeds⟩ := c.def_ 19 (d := d_are_deeds) rfl
  obtain ⟨fd_h_init, F_h_init⟩ := c.def_ 20 (d := d_h_init) rfl
  obtain ⟨fd_h_write, F_h_write⟩ := c.def_ 21 (d := d_h_write) rfl
  obtain ⟨fd_h_put, F_h_put⟩ := c.def_ 22 (d := d_h_put) rfl
  obtain ⟨fd_h_drop, F_h_drop⟩ := c.def_ 23 (d := d_h_drop) rfl
  obtain ⟨fd_h_deal, F_h_deal⟩ := c.def_ 24 (d := d_h_deal) rfl
  obtain ⟨fd_h_number, F_h_number⟩ := c.def_ 25 (d := d_h_number) rfl
  obtain ⟨fd_h_records_at, F_h_records_at⟩ := c.def_ 26 (d := d_h_records_at) rfl
  obtain ⟨fd_h_records_when, F_h_records_when⟩ := c.def_ 27 (d := d_h_records_when) rfl
  obtain ⟨fd_h_rows, F_h_rows⟩ := c.def_ 28 (d := d_h_rows) rfl
  obtain ⟨fd_h_since, F_h_since⟩ := c.def_ 29 (d := d_h_since) rfl
  obtain ⟨fd_h_changes, F_h_changes⟩ := c.def_ 30 (d := d_h_changes) rfl
  obtain ⟨fd_h_need_lease, F_h_need_lease⟩ := c.def_ 31 (d := d_h_need_lease) rfl
  obtain ⟨fd_h_need_term, F_h_need_term⟩ := c.def_ 32 (d := d_h_need_term) rfl
  obtain ⟨fd_h_grant, F_h_grant⟩ := c.def_ 33 (d := d_h_grant) rfl
  obtain ⟨fd_h_renew, F_h_renew⟩ := c.def_ 34 (d := d_h_renew) rfl
  obtain ⟨fd_h_keys_of, F_h_keys_of⟩ := c.def_ 35 (d := d_h_keys_of) rfl
  obtain ⟨fd_h_end, F_h_end⟩ := c.def_ 36 (d := d_h_end) rfl
  obtain ⟨fd_h_give_back, F_h_give_back⟩ := c.def_ 37 (d := d_h_give_back) rfl
  obtain ⟨fd_h_wait, F_h_wait⟩ := c.def_ 38 (d := d_h_wait) rfl
  obtain ⟨fd_h_leases, F_h_leases⟩ := c.def_ 39 (d := d_h_leases) rfl
  obtain ⟨fd_l_cell_at, F_l_cell_at⟩ := c.def_ 40 (d := d_l_cell_at) rfl
  obtain ⟨fd_l_mixed, F_l_mixed⟩ := c.def_ 41 (d := d_l_mixed) rfl
  obtain ⟨fd_l_key, F_l_key⟩ := c.def_ 42 (d := d_l_key) rfl
  obtain ⟨fd_l_keys, F_l_keys⟩ := c.def_ 43 (d := d_l_keys) rfl
  obtain ⟨fd_l_span, F_l_span⟩ := c.def_ 44 (d := d_l_span) rfl
  obtain ⟨fd_l_lease, F_l_lease⟩ := c.def_ 45 (d := d_l_lease) rfl
  obtain ⟨fd_l_one_deed, F_l_one_deed⟩ := c.def_ 46 (d := d_l_one_deed) rfl
  obtain ⟨fd_l_condition, F_l_condition⟩ := c.def_ 47 (d := d_l_condition) rfl
  obtain ⟨fd_l_deal_deeds, F_l_deal_deeds⟩ := c.def_ 48 (d := d_l_deal_deeds) rfl
  obtain ⟨fd_l_deed, F_l_deed⟩ := c.def_ 49 (d := d_l_deed) rfl
  obtain ⟨fd_l_do, F_l_do⟩ := c.def_ 50 (d := d_l_do) rfl
  obtain ⟨fd_l_drive, F_l_drive⟩ := c.def_ 51 (d := d_l_drive) rfl
  obtain ⟨fd_law, F_law⟩ := c.def_ 52 (d := d_law) rfl
  have e := hfa.symm.trans (He.glo_ok X G (c.fact 52 (f := .glo "law") rfl))
  cases e
  have b_is_key : Binds K fd_is_key ["thing"] [] := FunD.bindsN F_is_key fun _ _ _ _ _ _ us hl => match us, hl with | [_], _ => rfl
  have b_is_whole : Binds K fd_is_whole ["thing", "low"] [] := FunD.bindsN F_is_whole fun _ _ _ _ _ _ us hl => match us, hl with | [_, _], _ => rfl
  have b_is_value : Binds K fd_is_value ["thing"] [] := FunD.bindsN F_is_value fun _ _ _ _ _ _ us hl => match us, hl with | [_], _ => rfl
  have b_need_key : Binds K fd_need_key ["key"] [] := FunD.bindsN F_need_key fun _ _ _ _ _ _ us hl => match us, hl with | [_], _ => rfl
  have b_need_value : Binds K fd_need_value ["value"] [] := FunD.bindsN F_need_value fun _ _ _ _ _ _ us hl => match us, hl with | [_], _ => rfl
  have b_need_whole : Binds K fd_need_whole ["number", "low"] [] := FunD.bindsN F_need_whole fun _ _ _ _ _ _ us hl => match us, hl with | [_, _], _ => rfl
  have b_is_within : Binds K fd_is_within ["key", "first", "last"] [] := FunD.bindsN F_is_within fun _ _ _ _ _ _ us hl => match us, hl with | [_, _, _], _ => rfl
  have b_change : Binds K fd_change ["records", "event"] [] := FunD.bindsN F_change fun _ _ _ _ _ _ us hl => match us, hl with | [_, _], _ => rfl
  have b_in_rows : Binds K fd_in_rows ["records"] [] := FunD.bindsN F_in_rows fun _ _ _ _ _ _ us hl => match us, hl with | [_], _ => rfl
  have b_is_lease : Binds K fd_is_lease ["thing"] [] := FunD.bindsN F_is_lease fun _ _ _ _ _ _ us hl => match us, hl with | [_], _ => rfl
  have b_is_record : Binds K fd_is_record ["thing"] [] := FunD.bindsN F_is_record fun _ _ _ _ _ _ us hl => match us, hl with | [_], _ => rfl
  have b_is_row : Binds K fd_is_row ["thing"] [] := FunD.bindsN F_is_row fun _ _ _ _ _ _ us hl => match us, hl with | [_], _ => rfl
  have b_are_rows : Binds K fd_are_rows ["thing"] [] := FunD.bindsN F_are_rows fun _ _ _ _ _ _ us hl => match us, hl with | [_], _ => rfl
  have b_is_event : Binds K fd_is_event ["thing"] [] := FunD.bindsN F_is_event fun _ _ _ _ _ _ us hl => match us, hl with | [_], _ => rfl
  have b_mirrored : Binds K fd_mirrored ["rows", "events"] [] := FunD.bindsN F_mirrored fun _ _ _ _ _ _ us hl => match us, hl with | [_, _], _ => rfl
  have b_is_condition : Binds K fd_is_condition ["thing", "deep"] [] := FunD.bindsN F_is_condition fun _ _ _ _ _ _ us hl => match us, hl with | [_, _], _ => rfl
  have b_are_conditions : Binds K fd_are_conditions ["thing"] [] := FunD.bindsN F_are_conditions fun _ _ _ _ _ _ us hl => match us, hl with | [_], _ => rfl
  have b_holds : Binds K fd_holds ["condition", "records"] [] := FunD.bindsN F_holds fun _ _ _ _ _ _ us hl => match us, hl with | [_, _], _ => rfl
  have b_is_deed : Binds K fd_is_deed ["thing"] [] := FunD.bindsN F_is_deed fun _ _ _ _ _ _ us hl => match us, hl with | [_], _ => rfl
  have b_are_deeds : Binds K fd_are_deeds ["thing"] [] := FunD.bindsN F_are_deeds fun _ _ _ _ _ _ us hl => match us, hl with | [_], _ => rfl
  have b_h_init : Binds K fd_h_init ["self"] [] := FunD.bindsN F_h_init fun _ _ _ _ _ _ us hl => match us, hl with | [_], _ => rfl
  have b_h_write : Binds K fd_h_write ["self", "deeds"] [] := FunD.bindsN F_h_write fun _ _ _ _ _ _ us hl => match us, hl with | [_, _], _ => rfl
  have b_h_put_0 : ∃ ds, Vals [] ds ∧ Binds K fd_h_put ["self", "key", "value", "lease"] ds := FunD.binds1 (dvs := [.non]) F_h_put 4 1 (by simp) rfl fun _ _ _ _ _ _ _ us its hl hi => match us, its, hl, hi with | [_, _, _, _], [_], _, _ => ⟨_, rfl, rfl⟩
  have b_h_put_1 : ∃ ds, Vals [V.non] ds ∧ Binds K fd_h_put ["self", "key", "value", "lease"] ds := FunD.binds1 (dvs := [.non]) F_h_put 3 0 (by simp) rfl fun _ _ _ _ _ _ _ us its hl hi => match us, its, hl, hi with | [_, _, _], [_], _, _ => ⟨_, rfl, rfl⟩
  have b_h_drop : Binds K fd_h_drop ["self", "key"] [] := FunD.bindsN F_h_drop fun _ _ _ _ _ _ us hl => match us, hl with | [_, _], _ => rfl
  have b_h_deal : Binds K fd_h_deal ["self", "conditions", "then", "other"] [] := FunD.bindsN F_h_deal fun _ _ _ _ _ _ us hl => match us, hl with | [_, _, _, _], _ => rfl
  have b_h_number : Binds K fd_h_number ["self"] [] := FunD.bindsN F_h_number fun _ _ _ _ _ _ us hl => match us, hl with | [_], _ => rfl
  have b_h_records_at : Binds K fd_h_records_at ["self", "number"] [] := FunD.bindsN F_h_records_at fun _ _ _ _ _ _ us hl => match us, hl with | [_, _], _ => rfl
  have b_h_records_when : Binds K fd_h_records_when ["self", "number"] [] := FunD.bindsN F_h_records_when fun _ _ _ _ _ _ us hl => match us, hl with | [_, _], _ => rfl
  have b_h_rows_0 : ∃ ds, Vals [] ds ∧ Binds K fd_h_rows ["self", "first", "last", "number"] ds := FunD.binds1 (dvs := [.non]) F_h_rows 4 1 (by simp) rfl fun _ _ _ _ _ _ _ us its hl hi => match us, its, hl, hi with | [_, _, _, _], [_], _, _ => ⟨_, rfl, rfl⟩
  have b_h_rows_1 : ∃ ds, Vals [V.non] ds ∧ Binds K fd_h_rows ["self", "first", "last", "number"] ds := FunD.binds1 (dvs := [.non]) F_h_rows 3 0 (by simp) rfl fun _ _ _ _ _ _ _ us its hl hi => match us, its, hl, hi with | [_, _, _], [_], _, _ => ⟨_, rfl, rfl⟩
  have b_h_since : Binds K fd_h_since ["self", "first", "last", "number"] [] := FunD.bindsN F_h_since fun _ _ _ _ _ _ us hl => match us, hl with | [_, _, _, _], _ => rfl
  have b_h_changes : Binds K fd_h_changes ["self", "first", "last", "number"] [] := FunD.bindsN F_h_changes fun _ _ _ _ _ _ us hl => match us, hl with | [_, _, _, _], _ => rfl
  have b_h_need_lease : Binds K fd_h_need_lease ["self", "lease"] [] := FunD.bindsN F_h_need_lease fun _ _ _ _ _ _ us hl => match us, hl with | [_, _], _ => rfl
  have b_h_need_term : Binds K fd_h_need_term ["self", "term"] [] := FunD.bindsN F_h_need_term fun _ _ _ _ _ _ us hl => match us, hl with | [_, _], _ => rfl
  have b_h_grant : Binds K fd_h_grant ["self", "term"] [] := FunD.bindsN F_h_grant fun _ _ _ _ _ _ us hl => match us, hl with | [_, _], _ => rfl
  have b_h_renew : Binds K fd_h_renew ["self", "lease"] [] := FunD.bindsN F_h_renew fun _ _ _ _ _ _ us hl => match us, hl with | [_, _], _ => rfl
  have b_h_keys_of : Binds K fd_h_keys_of ["self", "lease"] [] := FunD.bindsN F_h_keys_of fun _ _ _ _ _ _ us hl => match us, hl with | [_, _], _ => rfl
  have b_h_end : Binds K fd_h_end ["self", "lease"] [] := FunD.bindsN F_h_end fun _ _ _ _ _ _ us hl => match us, hl with | [_, _], _ => rfl
  have b_h_give_back : Binds K fd_h_give_back ["self", "lease"] [] := FunD.bindsN F_h_give_back fun _ _ _ _ _ _ us hl => match us, hl with | [_, _], _ => rfl
  have b_h_wait : Binds K fd_h_wait ["self", "many"] [] := FunD.bindsN F_h_wait fun _ _ _ _ _ _ us hl => match us, hl with | [_, _], _ => rfl
  have b_h_leases : Binds K fd_h_leases ["self"] [] := FunD.bindsN F_h_leases fun _ _ _ _ _ _ us hl => match us, hl with | [_], _ => rfl
  have b_l_cell_at : Binds K fd_l_cell_at ["script", "k"] [] := FunD.bindsN F_l_cell_at fun _ _ _ _ _ _ us hl => match us, hl with | [_, _], _ => rfl
  have b_l_mixed : Binds K fd_l_mixed ["script", "k", "many"] [] := FunD.bindsN F_l_mixed fun _ _ _ _ _ _ us hl => match us, hl with | [_, _, _], _ => rfl
  have b_l_key : Binds K fd_l_key ["script", "at"] [] := FunD.bindsN F_l_key fun _ _ _ _ _ _ us hl => match us, hl with | [_, _], _ => rfl
  have b_l_keys : Binds K fd_l_keys ["script", "at"] [] := FunD.bindsN F_l_keys fun _ _ _ _ _ _ us hl => match us, hl with | [_, _], _ => rfl
  have b_l_span : Binds K fd_l_span ["script", "at", "keys"] [] := FunD.bindsN F_l_span fun _ _ _ _ _ _ us hl => match us, hl with | [_, _, _], _ => rfl
  have b_l_lease : Binds K fd_l_lease ["script", "at", "leases"] [] := FunD.bindsN F_l_lease fun _ _ _ _ _ _ us hl => match us, hl with | [_, _, _], _ => rfl
  have b_l_one_deed : Binds K fd_l_one_deed ["script", "at", "key", "leases"] [] := FunD.bindsN F_l_one_deed fun _ _ _ _ _ _ us hl => match us, hl with | [_, _, _, _], _ => rfl
  have b_l_condition : Binds K fd_l_condition ["script", "at", "keys", "number"] [] := FunD.bindsN F_l_condition fun _ _ _ _ _ _ us hl => match us, hl with | [_, _, _, _], _ => rfl
  have b_l_deal_deeds : Binds K fd_l_deal_deeds ["script", "at", "keys", "leases"] [] := FunD.bindsN F_l_deal_deeds fun _ _ _ _ _ _ us hl => match us, hl with | [_, _, _, _], _ => rfl
  have b_l_deed : Binds K fd_l_deed ["script", "at", "keys", "leases", "number"] [] := FunD.bindsN F_l_deed fun _ _ _ _ _ _ us hl => match us, hl with | [_, _, _, _, _], _ => rfl
  have b_l_do : Binds K fd_l_do ["house", "deed"] [] := FunD.bindsN F_l_do fun _ _ _ _ _ _ us hl => match us, hl with | [_, _], _ => rfl
  have b_l_drive : Binds K fd_l_drive ["script", "at", "house", "keys", "many"] [] := FunD.bindsN F_l_drive fun _ _ _ _ _ _ us hl => match us, hl with | [_, _, _, _, _], _ => rfl
  have b_law : Binds K fd_law ["script"] [] := FunD.bindsN F_law fun _ _ _ _ _ _ us hl => match us, hl with | [_], _ => rfl
  refine ⟨fd_law, fun s v => FunD.bindsA (ps := ["script"]) F_law (fun _ _ _ _ _ _ us hl => match us, hl with | [_], _ => rfl) s [v] rfl, fun base _ _ => ?_⟩
  have o_is_key := ok_is_key (P := P) (w := w) (mg := mg) (base := base) B n_SIGNS n_LONGEST F_is_key
  have c_is_key : CFn P w K mg base CX0 1 "is_key" ["thing"] (sp_is_key K) := ⟨_, _, He.glo_ok X G (c.fact 0 (f := .glo "is_key") rfl), F_is_key.kp, b_is_key, o_is_key⟩
  have o_is_whole := ok_is_whole (P := P) (w := w) (mg := mg) (base := base) B F_is_whole
  have c_is_whole : CFn P w K mg base CX0 1 "is_whole" ["thing", "low"] (sp_is_whole K) := ⟨_, _, He.glo_ok X G (c.fact 1 (f := .glo "is_whole") rfl), F_is_whole.kp, b_is_whole, o_is_whole⟩
  have o_is_within := ok_is_within (P := P) (w := w) (mg := mg) (base := base)  F_is_within
  have c_is_within : CFn P w K mg base CX0 1 "is_within" ["key", "first", "last"] (sp_is_within K) := ⟨_, _, He.glo_ok X G (c.fact 6 (f := .glo "is_within") rfl), F_is_within.kp, b_is_within, o_is_within⟩
  have o_change := ok_change (P := P) (w := w) (mg := mg) (base := base)  F_change
  have c_change : CFn P w K mg base CX0 1 "change" ["records", "event"] (sp_change K) := ⟨_, _, He.glo_ok X G (c.fact 7 (f := .glo "change") rfl), F_change.kp, b_change, o_change⟩
  have o_in_rows := ok_in_rows (P := P) (w := w) (mg := mg) (base := base) B F_in_rows
  have c_in_rows : CFn P w K mg base CX0 1 "in_rows" ["records"] (sp_in_rows K) := ⟨_, _, He.glo_ok X G (c.fact 8 (f := .glo "in_rows") rfl), F_in_rows.kp, b_in_rows, o_in_rows⟩
  have o_h_init := ok_h_init (P := P) (w := w) (mg := mg) (base := base) HC F_h_init
  have k_h_init : CKn P w K mg base CX0 1 (clsHouse K) "House" ["self"] (sp_h_init K) := ⟨_, _, He.mkr_ok (c.fact 55 (f := .mkr "House") rfl), He.glo_ok X G (c.fact 53 (f := .glo "House") rfl), b_h_init, o_h_init⟩
  have o_h_number := ok_h_number (P := P) (w := w) (mg := mg) (base := base) HC F_h_number
  have m_h_number : CMn P w K mg base CX0 1 (clsHouse K) "number" ["self"] [] (sp_h_number K) := ⟨_, _, [], He.meth_ok (c.fact 25 (f := .meth "House" "number") rfl), .nil, b_h_number, o_h_number⟩
  have o_h_leases := ok_h_leases (P := P) (w := w) (mg := mg) (base := base) B HC F_h_leases
  have m_h_leases : CMn P w K mg base CX0 1 (clsHouse K) "leases" ["self"] [] (sp_h_leases K) := ⟨_, _, [], He.meth_ok (c.fact 39 (f := .meth "House" "leases") rfl), .nil, b_h_leases, o_h_leases⟩
  have o_l_cell_at := ok_l_cell_at (P := P) (w := w) (mg := mg) (base := base) B F_l_cell_at
  have c_l_cell_at : CFn P w K mg base CX0 1 "_law_cell_at" ["script", "k"] (sp_l_cell_at K) := ⟨_, _, He.glo_ok X G (c.fact 40 (f := .glo "_law_cell_at") rfl), F_l_cell_at.kp, b_l_cell_at, o_l_cell_at⟩
  have o_is_value := ok_is_value (P := P) (w := w) (mg := mg) (base := base) n_MOST c_is_whole F_is_value
  have c_is_value : CFn P w K mg base CX0 2 "is_value" ["thing"] (sp_is_value K) := ⟨_, _, He.glo_ok X G (c.fact 2 (f := .glo "is_value") rfl), F_is_value.kp, b_is_value, o_is_value⟩
  have o_need_key := ok_need_key (P := P) (w := w) (mg := mg) (base := base) x_NoKey c_is_key F_need_key
  have c_need_key : CFn P w K mg base (L2.CX P w) 2 "need_key" ["key"] (sp_need_key K) := ⟨_, _, He.glo_ok X G (c.fact 3 (f := .glo "need_key") rfl), F_need_key.kp, b_need_key, o_need_key⟩
  have o_need_whole := ok_need_whole (P := P) (w := w) (mg := mg) (base := base) x_NoNumber c_is_whole F_need_whole
  have c_need_whole : CFn P w K mg base (L2.CX P w) 2 "need_whole" ["number", "low"] (sp_need_whole K) := ⟨_, _, He.glo_ok X G (c.fact 5 (f := .glo "need_whole") rfl), F_need_whole.kp, b_need_whole, o_need_whole⟩
  have o_is_lease := ok_is_lease (P := P) (w := w) (mg := mg) (base := base) c_is_whole F_is_lease
  have c_is_lease : CFn P w K mg base CX0 2 "is_lease" ["thing"] (sp_is_lease K) := ⟨_, _, He.glo_ok X G (c.fact 9 (f := .glo "is_lease") rfl), F_is_lease.kp, b_is_lease, o_is_lease⟩
  have o_h_write := ok_h_write (P := P) (w := w) (mg := mg) (base := base) B HC c_change F_h_write
  have m_h_write : CMn P w K mg base CX0 2 (clsHouse K) "write" ["self", "deeds"] [] (sp_h_write K) := ⟨_, _, [], He.meth_ok (c.fact 21 (f := .meth "House" "write") rfl), .nil, b_h_write, o_h_write⟩
  have o_h_records_at := ok_h_records_at (P := P) (w := w) (mg := mg) (base := base) B HC c_change F_h_records_at
  have m_h_records_at : CMn P w K mg base CX0 2 (clsHouse K) "records_at" ["self", "number"] [] (sp_h_records_at K) := ⟨_, _, [], He.meth_ok (c.fact 26 (f := .meth "House" "records_at") rfl), .nil, b_h_records_at, o_h_records_at⟩
  have o_h_since := ok_h_since (P := P) (w := w) (mg := mg) (base := base) HC c_is_within F_h_since
  have m_h_since : CMn P w K mg base CX0 2 (clsHouse K) "since" ["self", "first", "last", "number"] [] (sp_h_since K) := ⟨_, _, [], He.meth_ok (c.fact 29 (f := .meth "House" "since") rfl), .nil, b_h_since, o_h_since⟩
  have o_h_need_lease := ok_h_need_lease (P := P) (w := w) (mg := mg) (base := base) HC x_NoLease c_is_whole F_h_need_lease
  have m_h_need_lease : CMn P w K mg base (L2.CX P w) 2 (clsHouse K) "need_lease" ["self", "lease"] [] (sp_h_need_lease K) := ⟨_, _, [], He.meth_ok (c.fact 31 (f := .meth "House" "need_lease") rfl), .nil, b_h_need_lease, o_h_need_lease⟩
  have o_h_need_term := ok_h_need_term (P := P) (w := w) (mg := mg) (base := base) n_TERM x_NoNumber c_is_whole F_h_need_term
  have m_h_need_term : CMn P w K mg base (L2.CX P w) 2 (clsHouse K) "need_term" ["self", "term"] [] (sp_h_need_term K) := ⟨_, _, [], He.meth_ok (c.fact 32 (f := .meth "House" "need_term") rfl), .nil, b_h_need_term, o_h_need_term⟩
  have o_l_mixed := ok_l_mixed (P := P) (w := w) (mg := mg) (base := base) c_l_cell_at F_l_mixed
  have c_l_mixed : CFn P w K mg base CX0 2 "_law_mixed" ["script", "k", "many"] (sp_l_mixed K) := ⟨_, _, He.glo_ok X G (c.fact 41 (f := .glo "_law_mixed") rfl), F_l_mixed.kp, b_l_mixed, o_l_mixed⟩
  have o_need_value := ok_need_value (P := P) (w := w) (mg := mg) (base := base) x_NoValue c_is_value F_need_value
  have c_need_value : CFn P w K mg base (L2.CX P w) 3 "need_value" ["value"] (sp_need_value K) := ⟨_, _, He.glo_ok X G (c.fact 4 (f := .glo "need_value") rfl), F_need_value.kp, b_need_value, o_need_value⟩
  have o_is_record := ok_is_record (P := P) (w := w) (mg := mg) (base := base) B c_is_value c_is_lease c_is_whole F_is_record
  have c_is_record : CFn P w K mg base CX0 3 "is_record" ["thing"] (sp_is_record K) := ⟨_, _, He.glo_ok X G (c.fact 10 (f := .glo "is_record") rfl), F_is_record.kp, b_is_record, o_is_record⟩
  have o_is_event := ok_is_event (P := P) (w := w) (mg := mg) (base := base) B c_is_whole c_is_key c_is_value c_is_lease F_is_event
  have c_is_event : CFn P w K mg base CX0 3 "is_event" ["thing"] (sp_is_event K) := ⟨_, _, He.glo_ok X G (c.fact 13 (f := .glo "is_event") rfl), F_is_event.kp, b_is_event, o_is_event⟩
  have o_is_deed := ok_is_deed (P := P) (w := w) (mg := mg) (base := base) B c_is_key c_is_value c_is_lease F_is_deed
  have c_is_deed : CFn P w K mg base CX0 3 "is_deed" ["thing"] (sp_is_deed K) := ⟨_, _, He.glo_ok X G (c.fact 18 (f := .glo "is_deed") rfl), F_is_deed.kp, b_is_deed, o_is_deed⟩
  have o_h_drop := ok_h_drop (P := P) (w := w) (mg := mg) (base := base) HC c_need_key m_h_write F_h_drop
  have m_h_drop : CMn P w K mg base (L2.CX P w) 3 (clsHouse K) "drop" ["self", "key"] [] (sp_h_drop K) := ⟨_, _, [], He.meth_ok (c.fact 23 (f := .meth "House" "drop") rfl), .nil, b_h_drop, o_h_drop⟩
  have o_h_records_when := ok_h_records_when (P := P) (w := w) (mg := mg) (base := base) HC x_NoNumber x_Folded c_is_whole m_h_records_at F_h_records_when
  have m_h_records_when : CMn P w K mg base (L2.CX P w) 3 (clsHouse K) "records_when" ["self", "number"] [] (sp_h_records_when K) := ⟨_, _, [], He.meth_ok (c.fact 27 (f := .meth "House" "records_when") rfl), .nil, b_h_records_when, o_h_records_when⟩
  have o_h_changes := ok_h_changes (P := P) (w := w) (mg := mg) (base := base) HC x_Folded c_need_key c_need_whole m_h_since F_h_changes
  have m_h_changes : CMn P w K mg base (L2.CX P w) 3 (clsHouse K) "changes" ["self", "first", "last", "number"] [] (sp_h_changes K) := ⟨_, _, [], He.meth_ok (c.fact 30 (f := .meth "House" "changes") rfl), .nil, b_h_changes, o_h_changes⟩
  have o_h_grant := ok_h_grant (P := P) (w := w) (mg := mg) (base := base) HC m_h_need_term F_h_grant
  have m_h_grant : CMn P w K mg base (L2.CX P w) 3 (clsHouse K) "grant" ["self", "term"] [] (sp_h_grant K) := ⟨_, _, [], He.meth_ok (c.fact 33 (f := .meth "House" "grant") rfl), .nil, b_h_grant, o_h_grant⟩
  have o_h_renew := ok_h_renew (P := P) (w := w) (mg := mg) (base := base) HC m_h_need_lease F_h_renew
  have m_h_renew : CMn P w K mg base (L2.CX P w) 3 (clsHouse K) "renew" ["self", "lease"] [] (sp_h_renew K) := ⟨_, _, [], He.meth_ok (c.fact 34 (f := .meth "House" "renew") rfl), .nil, b_h_renew, o_h_renew⟩
  have o_h_keys_of := ok_h_keys_of (P := P) (w := w) (mg := mg) (base := base) B HC m_h_need_lease F_h_keys_of
  have m_h_keys_of : CMn P w K mg base (L2.CX P w) 3 (clsHouse K) "keys_of" ["self", "lease"] [] (sp_h_keys_of K) := ⟨_, _, [], He.meth_ok (c.fact 35 (f := .meth "House" "keys_of") rfl), .nil, b_h_keys_of, o_h_keys_of⟩
  have o_l_key := ok_l_key (P := P) (w := w) (mg := mg) (base := base) B c_l_mixed F_l_key
  have c_l_key : CFn P w K mg base CX0 3 "_law_key" ["script", "at"] (sp_l_key K) := ⟨_, _, He.glo_ok X G (c.fact 42 (f := .glo "_law_key") rfl), F_l_key.kp, b_l_key, o_l_key⟩
  have o_l_span := ok_l_span (P := P) (w := w) (mg := mg) (base := base) B c_l_mixed F_l_span
  have c_l_span : CFn P w K mg base CX0 3 "_law_span" ["script", "at", "keys"] (sp_l_span K) := ⟨_, _, He.glo_ok X G (c.fact 44 (f := .glo "_law_span") rfl), F_l_span.kp, b_l_span, o_l_span⟩
  have o_l_lease := ok_l_lease (P := P) (w := w) (mg := mg) (base := base) B c_l_mixed F_l_lease
  have c_l_lease : CFn P w K mg base CX0 3 "_law_lease" ["script", "at", "leases"] (sp_l_lease K) := ⟨_, _, He.glo_ok X G (c.fact 45 (f := .glo "_law_lease") rfl), F_l_lease.kp, b_l_lease, o_l_lease⟩
  have o_l_condition := ok_l_condition (P := P) (w := w) (mg := mg) (base := base) B c_l_mixed F_l_condition
  have c_l_condition : CFn P w K mg base CX0 3 "_law_condition" ["script", "at", "keys", "number"] (sp_l_condition K) := ⟨_, _, He.glo_ok X G (c.fact 47 (f := .glo "_law_condition") rfl), F_l_condition.kp, b_l_condition, o_l_condition⟩
  have o_is_row := ok_is_row (P := P) (w := w) (mg := mg) (base := base) B c_is_key c_is_record F_is_row
  have c_is_row : CFn P w K mg base CX0 4 "is_row" ["thing"] (sp_is_row K) := ⟨_, _, He.glo_ok X G (c.fact 11 (f := .glo "is_row") rfl), F_is_row.kp, b_is_row, o_is_row⟩
  have o_holds := ok_holds (P := P) (w := w) (mg := mg) (base := base)  (He.glo_ok X G (c.fact 17 (f := .glo "holds") rfl)) b_holds F_holds
  have c_holds : CFn P w K mg base CX0 4 "holds" ["condition", "records"] (sp_holds K) := ⟨_, _, He.glo_ok X G (c.fact 17 (f := .glo "holds") rfl), F_holds.kp, b_holds, o_holds⟩
  have o_are_deeds := ok_are_deeds (P := P) (w := w) (mg := mg) (base := base) B n_MANY c_is_deed F_are_deeds
  have c_are_deeds : CFn P w K mg base CX0 4 "are_deeds" ["thing"] (sp_are_deeds K) := ⟨_, _, He.glo_ok X G (c.fact 19 (f := .glo "are_deeds") rfl), F_are_deeds.kp, b_are_deeds, o_are_deeds⟩
  have o_h_put := ok_h_put (P := P) (w := w) (mg := mg) (base := base) HC c_need_key c_need_value m_h_need_lease m_h_write F_h_put
  have m_h_put_1 : CMn P w K mg base (L2.CX P w) 4 (clsHouse K) "put" ["self", "key", "value", "lease"] [.non] (sp_h_put K) := by
    obtain ⟨ds, h1, h2⟩ := b_h_put_1
    exact ⟨_, _, ds, He.meth_ok (c.fact 22 (f := .meth "House" "put") rfl), h1, h2, o_h_put⟩
  have m_h_put_0 : CMn P w K mg base (L2.CX P w) 4 (clsHouse K) "put" ["self", "key", "value", "lease"] [] (sp_h_put K) := by
    obtain ⟨ds, h1, h2⟩ := b_h_put_0
    exact ⟨_, _, ds, He.meth_ok (c.fact 22 (f := .meth "House" "put") rfl), h1, h2, o_h_put⟩
  have o_h_rows := ok_h_rows (P := P) (w := w) (mg := mg) (base := base) HC c_need_key c_in_rows m_h_records_when c_is_within F_h_rows
  have m_h_rows_0 : CMn P w K mg base (L2.CX P w) 4 (clsHouse K) "rows" ["self", "first", "last", "number"] [] (sp_h_rows K) := by
    obtain ⟨ds, h1, h2⟩ := b_h_rows_0
    exact ⟨_, _, ds, He.meth_ok (c.fact 28 (f := .meth "House" "rows") rfl), h1, h2, o_h_rows⟩
  have o_h_end := ok_h_end (P := P) (w := w) (mg := mg) (base := base) HC m_h_write m_h_keys_of F_h_end
  have m_h_end : CMn P w K mg base (L2.CX P w) 4 (clsHouse K) "end" ["self", "lease"] [] (sp_h_end K) := ⟨_, _, [], He.meth_ok (c.fact 36 (f := .meth "House" "end") rfl), .nil, b_h_end, o_h_end⟩
  have o_l_keys := ok_l_keys (P := P) (w := w) (mg := mg) (base := base) B c_l_key c_l_mixed F_l_keys
  have c_l_keys : CFn P w K mg base CX0 4 "_law_keys" ["script", "at"] (sp_l_keys K) := ⟨_, _, He.glo_ok X G (c.fact 43 (f := .glo "_law_keys") rfl), F_l_keys.kp, b_l_keys, o_l_keys⟩
  have o_l_one_deed := ok_l_one_deed (P := P) (w := w) (mg := mg) (base := base) c_l_mixed c_l_lease F_l_one_deed
  have c_l_one_deed : CFn P w K mg base CX0 4 "_law_one_deed" ["script", "at", "key", "leases"] (sp_l_one_deed K) := ⟨_, _, He.glo_ok X G (c.fact 46 (f := .glo "_law_one_deed") rfl), F_l_one_deed.kp, b_l_one_deed, o_l_one_deed⟩
  have o_are_rows := ok_are_rows (P := P) (w := w) (mg := mg) (base := base) B c_is_row F_are_rows
  have c_are_rows : CFn P w K mg base CX0 5 "are_rows" ["thing"] (sp_are_rows K) := ⟨_, _, He.glo_ok X G (c.fact 12 (f := .glo "are_rows") rfl), F_are_rows.kp, b_are_rows, o_are_rows⟩
  have o_h_give_back := ok_h_give_back (P := P) (w := w) (mg := mg) (base := base) HC m_h_need_lease m_h_end F_h_give_back
  have m_h_give_back : CMn P w K mg base (L2.CX P w) 5 (clsHouse K) "give_back" ["self", "lease"] [] (sp_h_give_back K) := ⟨_, _, [], He.meth_ok (c.fact 37 (f := .meth "House" "give_back") rfl), .nil, b_h_give_back, o_h_give_back⟩
  have o_h_wait := ok_h_wait (P := P) (w := w) (mg := mg) (base := base) B HC m_h_need_term m_h_end F_h_wait
  have m_h_wait : CMn P w K mg base (L2.CX P w) 5 (clsHouse K) "wait" ["self", "many"] [] (sp_h_wait K) := ⟨_, _, [], He.meth_ok (c.fact 38 (f := .meth "House" "wait") rfl), .nil, b_h_wait, o_h_wait⟩
  have o_l_deal_deeds := ok_l_deal_deeds (P := P) (w := w) (mg := mg) (base := base) B c_l_mixed c_l_one_deed F_l_deal_deeds
  have c_l_deal_deeds : CFn P w K mg base CX0 5 "_law_deal_deeds" ["script", "at", "keys", "leases"] (sp_l_deal_deeds K) := ⟨_, _, He.glo_ok X G (c.fact 48 (f := .glo "_law_deal_deeds") rfl), F_l_deal_deeds.kp, b_l_deal_deeds, o_l_deal_deeds⟩
  have o_mirrored := ok_mirrored (P := P) (w := w) (mg := mg) (base := base) B x_NoRows c_are_rows c_is_event c_change c_in_rows F_mirrored
  have c_mirrored : CFn P w K mg base (L2.CX P w) 6 "mirrored" ["rows", "events"] (sp_mirrored K) := ⟨_, _, He.glo_ok X G (c.fact 14 (f := .glo "mirrored") rfl), F_mirrored.kp, b_mirrored, o_mirrored⟩
  have o_is_condition := ok_is_condition (P := P) (w := w) (mg := mg) (base := base) B c_is_key c_is_value c_is_whole (He.glo_ok X G (c.fact 15 (f := .glo "is_condition") rfl)) b_is_condition F_is_condition
  have c_is_condition : CFn P w K mg base CX0 6 "is_condition" ["thing", "deep"] (sp_is_condition K) := ⟨_, _, He.glo_ok X G (c.fact 15 (f := .glo "is_condition") rfl), F_is_condition.kp, b_is_condition, o_is_condition⟩
  have o_l_deed := ok_l_deed (P := P) (w := w) (mg := mg) (base := base) B c_l_mixed c_l_one_deed c_l_condition c_l_deal_deeds F_l_deed
  have c_l_deed : CFn P w K mg base CX0 6 "_law_deed" ["script", "at", "keys", "leases", "number"] (sp_l_deed K) := ⟨_, _, He.glo_ok X G (c.fact 49 (f := .glo "_law_deed") rfl), F_l_deed.kp, b_l_deed, o_l_deed⟩
  have o_are_conditions := ok_are_conditions (P := P) (w := w) (mg := mg) (base := base) B n_MANY n_DEEP c_is_condition F_are_conditions
  have c_are_conditions : CFn P w K mg base CX0 7 "are_conditions" ["thing"] (sp_are_conditions K) := ⟨_, _, He.glo_ok X G (c.fact 16 (f := .glo "are_conditions") rfl), F_are_conditions.kp, b_are_conditions, o_are_conditions⟩
  have o_h_deal := ok_h_deal (P := P) (w := w) (mg := mg) (base := base) B HC x_NoCondition x_NoDeeds c_are_conditions c_are_deeds m_h_need_lease c_holds m_h_write F_h_deal
  have m_h_deal : CMn P w K mg base (L2.CX P w) 8 (clsHouse K) "deal" ["self", "conditions", "then", "other"] [] (sp_h_deal K) := ⟨_, _, [], He.meth_ok (c.fact 24 (f := .meth "House" "deal") rfl), .nil, b_h_deal, o_h_deal⟩
  have o_l_do := ok_l_do (P := P) (w := w) (mg := mg) (base := base) HC m_h_put_1 m_h_put_0 m_h_drop m_h_deal m_h_grant m_h_wait m_h_renew m_h_give_back F_l_do
  have c_l_do : CFn P w K mg base CX0 9 "_law_do" ["house", "deed"] (sp_l_do K) := ⟨_, _, He.glo_ok X G (c.fact 50 (f := .glo "_law_do") rfl), F_l_do.kp, b_l_do, o_l_do⟩
  have o_l_drive := ok_l_drive (P := P) (w := w) (mg := mg) (base := base) B HC c_l_deed m_h_number m_h_leases c_l_do F_l_drive
  have c_l_drive : CFn P w K mg base CX0 10 "_law_drive" ["script", "at", "house", "keys", "many"] (sp_l_drive K) := ⟨_, _, He.glo_ok X G (c.fact 51 (f := .glo "_law_drive") rfl), F_l_drive.kp, b_l_drive, o_l_drive⟩
  exact ok_law (P := P) (w := w) (base := base) B HC c_l_keys k_h_init c_l_drive c_l_mixed m_h_number c_l_span m_h_changes c_mirrored m_h_rows_0 F_law
end KW
open PySem PySem.W PySem.Calls PyProof.Rows
set_option maxHeartbeats 0 in
theorem PySem.Challenge.cw_keywatch_k06_whole_from_there_holds : PySem.Challenge.rw_keywatch_k06_whole_from_there.Holds := by
  w_on; o_law
  refine HandSHeadRun.head_any (r := OpenLaw.row PySem.Challenge.rw_keywatch_k06_whole_from_there) (q := view (OpenLaw.row PySem.Challenge.rw_keywatch_k06_whole_from_there).prog [55]) (H := KW.hk) (ob := KW.ob) (M := 40000) (loose := KW.loose) (d := HandSHeadRun.topDef (OpenLaw.row PySem.Challenge.rw_keywatch_k06_whole_from_there).prog 55) (kwd := []) KW.ob_eq
    (by kernel_rfl) (fun s => by kernel_rfl) KW.run (by kernel_rfl) (by kernel_rfl) (by kernel_rfl) (by rfl) (by first | assumption | decide +kernel) (by decide +kernel) ⟨rfl, rfl, rfl, rfl, rfl, by decide +kernel⟩ ?hw ?hc
  case hw => w_witness2
  case hc =>
    refine L2.walk_ofE (l := PySem.Challenge.rw_keywatch_k06_whole_from_there) (n := 63) (k := 11) (x := "script") (CX := L2.CX0) rfl (by decide) (by kernel_rfl) ⟨rfl, by decide, by decide⟩ ?F (fun _ _ _ _ z => z)
    intro w mg fa h Y G hmg0
    obtain ⟨K, KX, c⟩ := Y
    have hmg : mg ("law" : PySem.Str) = some (.ref fa) := by
      have e : (HandSHeadRun.topDef (OpenLaw.row PySem.Challenge.rw_keywatch_k06_whole_from_there).prog 55).name = ("law" : PySem.Str) := by kernel_rfl
      rw [← e]
      exact hmg0
    obtain ⟨fd, hb, hF⟩ := KW.facts (P := (PySem.Challenge.rw_keywatch_k06_whole_from_there).prog) (w := w) KX G hmg c
    exact ⟨K, fd, KW.sp_law K, KX, hb, fun H a ns hl ho hS => ⟨a, ns, rfl, KW.Scr.of hl hS ho, fun _ => rfl⟩, hF⟩
#print axioms PySem.Challenge.cw_keywatch_k06_whole_from_there_holds
